import PyProof.Rows.All
import HandS.ForMost
import HandS.Exc
import HandS.TupAny
import HandS.List
import HandS.TryOnly
import HandS.TryMany
import HandS.ExcOwn
import HandS.CallSlots
import HandS.Evl
import HandS.SetKeys
import HandS.TupLe
import HandS.Deep
import HandS.Wide
import HandS.WideBits
import HandS.IsInst
import HandS.Defaults
import HandS.Style
import HandS.HeadEnd
import PyProof.Rows.SetFrom
import PyProof.Rows.SetObj
import PyProof.WalksMore
import PyProof.FactsAll.subtypes_4
import PyProof.TupleIter
import PyProof.ListRange
import PyProof.StrOps2
import HandS.ExcIs
import HandS.Ends
import HandS.MakeKwOnly
import Open.SpecLaws
import KE.OsGo
import KE.KExcIs
import KE.KIsAll
import HandS.ExcField
import KE.KRevSl
import KE.KDictPairs
import HandS.Dict
import HandS.Flow
import HandS.Records
import HandS.Small
import OpenK.KOps
import PyProof.Conv_bool
import HandS.Zip
import HandS.Iter
import HandS.More
import HandS.SetFor
import HandS.SortInts
import HandS.Strs
import HandS.HeadHook1
import KE.GoesMore
import PyProof.ReprRoads
import HandS.SetBool
import KE.SortCalls
import HandS.FStr
import KE.KCallOwn
import PySem.Challenge.RW_newsahead_k04_lots_alike_and_written
import PyProof.Rows.BitMore
import KE.OsArith
import KE.BitLaws
import HandS.Head0
import HandS.Head1
import HandS.Head2
import HandS.HeadHook2
import HandS.HeadHook4
import KE.KStateDown
set_option Elab.async false
set_option linter.all false
set_option maxRecDepth 100000
namespace L2
open PySem
def PlT (o : Obj) : Prop := o.cls = .type "tuple" ∧ o.dict = none
def SqP (K : PySem.W.Frag) (F : Hp) (a : Addr) (vs : List V) : Prop := (∃ o, PlT o ∧ F a = some (.frz o (.tup vs))) ∨
  ∃ (o : Obj) (its : Array Value) (n : Nat), K.lookup a = some o ∧ o.cls = .type "tuple" ∧ o.dict = none ∧ o.data = .seq its n ∧ its.size ≤ sizeLine ∧ Vals vs its.toList
theorem SqP.sq {K : PySem.W.Frag} {F : Hp} {a : Addr} {vs : List V} : SqP K F a vs → SqT K F a vs
  | .inl ⟨o, _, e⟩ => .inl (.inr ⟨o, e⟩)
  | .inr ⟨o, its, n, look, isT, _, rest⟩ => .inr ⟨o, its, n, look, isT, rest⟩
abbrev NewT (H : Hp) (Q : VK) (xs : List V) : Prop := ∀ p o, H p = none → PlT o → Q (.ref p) (upd H p (.frz o (.tup xs)))
section
variable {X : Cx} {ps : List (Addr × Obj)} {st : St} {G : Hp} {sh : Shared} {Q : VK}
abbrev tObj (its : List Value) : Obj := { cls := .type "tuple", data := .seq its.toArray }
theorem Inv.newT {xs : List V} {its : List Value} (inv : Inv X ps st G sh) (fits : xs.length ≤ sizeLine) (rel : Vals xs its) (want : NewT G Q xs) :
    EP X ps st Q (.ref sh.heap.objs.size) { sh with heap := sh.heap.push (tObj its) } := by
  have free : G sh.heap.objs.size = none := inv.hok.fresh (Nat.le_refl _)
  have there : ObjOk X.prog X.w (upd G sh.heap.objs.size (.frz (tObj its) (.tup xs))) (sh.heap.push (tObj its)) sh.heap.objs.size (.frz (tObj its) (.tup xs)) :=
    ⟨Heap.get?_push_size _ rfl, fits, its, rel, PyProof.Rows.IsTup.new _ _⟩
  exact ⟨.ref _, _, inv.laid (t' := sh.toks) (fun _ _ old => Heap.get?_push_of_some _ old) (Nat.le_refl _) there, rfl, want _ _ free ⟨rfl, rfl⟩⟩
def tTupF (args : TA) : TE := fun st G Q => args st G fun xs G1 => xs.length ≤ sizeLine ∧ NewT G1 Q xs
theorem pe_tupF {es : List Expr} {args : TA} {k : Nat} {pos : Pos} (items : PA X es args) : PE X (.Tuple es k pos) (tTupF args) where
  run := fun ps sh st G Q inv want => wpAny_Tuple_spliced (thn (items.run pos ps sh st G _ inv want) fun got s1 ⟨xs, G1, inv1, rel, fits, new⟩ => ⟨rel.length ▸ fits, inv1.newT fits rel new⟩)
def rCatF (K : PySem.W.Frag) : R2 := fun x y G Q => ∃ a b xs ys, x = .ref a ∧ y = .ref b ∧ SqT K G a xs ∧ SqT K G b ys ∧ xs.length + ys.length ≤ sizeLine ∧
  (xs = [] → Q (.ref b) G) ∧ (xs ≠ [] → ys = [] → Q (.ref a) G) ∧ (xs ≠ [] → ys ≠ [] → NewT G Q (xs ++ ys))
theorem op_catF : OpR X (binaryOp .Add) (rCatF X.K) := fun ps sh st G l r lv rv Q inv isL isR ⟨a, b, xs, ys, el, er, sqL, sqR, fits, wL, wR, wNew⟩ => by
  subst el er
  obtain rfl : lv = .ref a := isL
  obtain rfl : rv = .ref b := isR
  obtain ⟨itL, relL, tupL, _⟩ := inv.tuple sqL
  obtain ⟨itR, relR, tupR, _⟩ := inv.tuple sqR
  match xs, itL, relL, tupL, wL, wR, wNew, fits with
  | [], _, .nil, tupL, wL, _, _, _ => exact cat_tup0 tupL tupR ⟨.ref b, _, inv, rfl, wL rfl⟩
  | x :: xs, _, .cons hx hxs, tupL, _, wR, wNew, fits =>
    have relL : Vals (x :: xs) _ := .cons hx hxs
    refine HT.cat_tup tupL tupR (List.cons_ne_nil _ _) (fun none => ⟨.ref a, _, inv, rfl, wR (List.cons_ne_nil _ _) (relR.nil_iff.mp none)⟩) (fun some => ?_) (by rw [← relL.length, ← relR.length]; exact fits)
    exact inv.newT (by rw [List.length_append]; exact fits) (relL.append relR) (wNew (List.cons_ne_nil _ _) fun none => some (relR.nil_iff.mpr none))
abbrev whole (n : Nat) (lo hi : Option Int) : Prop := HT.sIx n 0 lo = 0 ∧ HT.sIx n n hi = n
def rSlF (K : PySem.W.Frag) : V → Option Int → Option Int → Hp → VK → Prop := fun x lo hi G Q => ∃ a xs, x = .ref a ∧ SqT K G a xs ∧ (whole xs.length lo hi → Q (.ref a) G) ∧ (¬ whole xs.length lo hi → NewT G Q (cutV xs lo hi))
theorem sl_tupF : SlR X (rSlF X.K) := fun ps sh st G x v vl vu lo hi sl Q inv isX slice pl pu ⟨a, xs, ex, sq, same, new⟩ => by
  subst ex
  obtain rfl : v = .ref a := isX
  obtain ⟨its, rel, tup, fits⟩ := inv.tuple sq
  have size : its.toArray.size = xs.length := (List.size_toArray ..).trans rel.length.symm
  refine ⟨_, _, PyProof.Rows.slot_tuple_getitem.lookup, tup.typeIs, ?_⟩
  rcases Classical.em (whole xs.length lo hi) with w | w
  · exact getItem_tuple_whole tup slice pl pu (size ▸ w) ⟨.ref a, _, inv, rfl, same w⟩
  · have out := inv.newT (Nat.le_trans (cutV_length xs lo hi) fits) ((rel.drop (HT.sIx xs.length 0 lo)).take (HT.sIx xs.length xs.length hi - HT.sIx xs.length 0 lo)) (new w)
    exact HT.getItem_tuple_cut tup slice pl pu (size ▸ w) (by rw [size]; exact out) (size ▸ fits)
theorem call_tupleF : CallR X (.type "tuple") (fun xs G Q => ∃ p ys, xs = [.ref p] ∧ ((SqL X.K G p ys ∧ NewT G Q ys) ∨ (SqT X.K G p ys ∧ Q (.ref p) G))) := fun ps sh st G xs us Q inv rel ⟨p, ys, ex, want⟩ => by
  subst ex
  rcases want with ⟨sq, new⟩ | old
  · obtain ⟨u, rfl, isP⟩ := vals1 rel
    obtain rfl : u = .ref p := isP
    obtain ⟨its, relI, lst, fits⟩ := inv.list sq
    have few : its.toArray.size ≤ sizeLine := by rw [List.size_toArray, ← relI.length]; exact fits
    exact call_tuple_list lst.isList (fun h' kept => (inv.kept (t' := sh.toks) kept).newT fits relI new) few
  · exact call_tuple_of ps sh st G _ us Q inv rel ⟨p, ys, rfl, .inr old⟩
end
end L2
namespace ND
open PySem L2
inductive D where
  | non | bl (b : Bool) | int (i : Int) | str (x : Str)
  | set (ks : List Key) | lst (xs : List D) | rol (xs : List D) | tup (xs : List D) | tpo (xs : List D) | dct (kvs : List (Key × D))
  | obj (C : Str) (fs : List (Str × D)) | cel (n : Nat) | fn (x : Str) | ty (n : String)
inductive Cell where
  | lst (xs : List D) | dct (kvs : List (Key × D)) | ins (C : Str) (fs : List (Str × D)) | fz (d : D) | dead
def Cell.alive : Cell → Bool
  | .lst _ => true | .dct _ => true | .ins _ _ => true | .fz _ => false | .dead => false
abbrev Store := List Cell
structure CuE where
  n : Nat
  a : Addr
  u : Value
  o : Option Addr
  C : Str
  fs : List (Str × D)
structure G where
  K : PySem.W.Frag
  mg : Str → Option Value
  P : Program
  w : World
  cur : Option CuE
  hid : List Addr
def SOk (x : Str) : Prop := PyData.strOk x = true ∧ x.length ≤ sizeLine
mutual
inductive Val (g : G) (F : Hp) (c : List Addr) : V → D → Prop
  | non : Val g F c .non .non
  | bl (b : Bool) : Val g F c (.bl b) (.bl b)
  | int (i : Int) : Val g F c (.int i) (.int i)
  | str {x : Str} : SOk x → Val g F c (.str x) (.str x)
  | lst {a : Addr} {vs : List V} {xs : List D} : F a = some (.lst vs) → Vls g F c vs xs → Val g F c (.ref a) (.lst xs)
  | rol {a : Addr} {vs : List V} {xs : List D} : SqL g.K F a vs → Vls g F c vs xs → Val g F c (.ref a) (.rol xs)
  | set {a : Addr} {ks : List Key} : ks.Nodup → F a = some (SetK g.P g.w a (fun k => ks.any fun q => decide (q = k)) ks.length) → Val g F c (.ref a) (.set ks)
  | tup {a : Addr} {vs : List V} {xs : List D} : SqP g.K F a vs → Vls g F c vs xs → Val g F c (.ref a) (.tup xs)
  | tpo {a : Addr} {vs : List V} {xs : List D} : SqT g.K F a vs → Vls g F c vs xs → Val g F c (.ref a) (.tpo xs)
  | dct {a : Addr} {ws : List (Key × V)} {kvs : List (Key × D)} : F a = some (.dK ws) → VKv g F c ws kvs → Val g F c (.ref a) (.dct kvs)
  | obj {a Ca dx : Addr} {C : Str} {ws : List (Str × V)} {fs : List (Str × D)} : g.mg C = some (.ref Ca) → F a = some (.ins Ca dx ws) → VFs g F c ws fs → Val g F c (.ref a) (.obj C fs)
  | cel {a : Addr} {n : Nat} : c[n]? = some a → Val g F c (.ref a) (.cel n)
  | fn {a : Addr} {x : Str} : g.mg x = some (.ref a) → Val g F c (.ref a) (.fn x)
  | ty (n : String) : Val g F c (.ty n) (.ty n)
inductive Vls (g : G) (F : Hp) (c : List Addr) : List V → List D → Prop
  | nil : Vls g F c [] []
  | cons {v : V} {d : D} {vs : List V} {xs : List D} : Val g F c v d → Vls g F c vs xs → Vls g F c (v :: vs) (d :: xs)
inductive VKv (g : G) (F : Hp) (c : List Addr) : List (Key × V) → List (Key × D) → Prop
  | nil : VKv g F c [] []
  | cons {k : Key} {v : V} {d : D} {vs : List (Key × V)} {xs : List (Key × D)} : Val g F c v d → VKv g F c vs xs → VKv g F c ((k, v) :: vs) ((k, d) :: xs)
inductive VFs (g : G) (F : Hp) (c : List Addr) : List (Str × V) → List (Str × D) → Prop
  | nil : VFs g F c [] []
  | cons {k : Str} {v : V} {d : D} {vs : List (Str × V)} {xs : List (Str × D)} : Val g F c v d → VFs g F c vs xs → VFs g F c ((k, v) :: vs) ((k, d) :: xs)
end
def Pre (c c' : List Addr) : Prop := ∀ (n : Nat) (a : Addr), c[n]? = some a → c'[n]? = some a
theorem Pre.refl (c : List Addr) : Pre c c := fun _ _ h => h
theorem Pre.trans {c c1 c2 : List Addr} (a : Pre c c1) (b : Pre c1 c2) : Pre c c2 := fun n x h => b n x (a n x h)
theorem Pre.snoc (c : List Addr) (p : Addr) : Pre c (c ++ [p]) := fun n a h => by
  have hn : n < c.length := by
    rcases Nat.lt_or_ge n c.length with q | q
    · exact q
    · rw [List.getElem?_eq_none q] at h; cases h
  rw [List.getElem?_append_left hn]; exact h
abbrev Ex := Evl.Ex
section
variable {g : G} {F F' : Hp} {c c' : List Addr}
theorem sqL_mono {a : Addr} {vs : List V} (e : Ex F F') (h : SqL g.K F a vs) : SqL g.K F' a vs := Evl.ex_l e h
theorem sqP_mono {a : Addr} {vs : List V} (e : Ex F F') (h : SqP g.K F a vs) : SqP g.K F' a vs := h.imp (fun ⟨o, p, q⟩ => ⟨o, p, e _ _ q⟩) id
mutual
theorem Val.mono (e : Ex F F') (p : Pre c c') : ∀ {v : V} {d : D}, Val g F c v d → Val g F' c' v d
  | _, _, .non => .non
  | _, _, .bl b => .bl b
  | _, _, .int i => .int i
  | _, _, .str h => .str h
  | _, _, .lst s h => .lst (e _ _ s) (Vls.mono e p h)
  | _, _, .rol s h => .rol (Evl.ex_l e s) (Vls.mono e p h)
  | _, _, .set n s => .set n (e _ _ s)
  | _, _, .tup s h => .tup (sqP_mono e s) (Vls.mono e p h)
  | _, _, .tpo s h => .tpo (Evl.ex_t e s) (Vls.mono e p h)
  | _, _, .dct s h => .dct (e _ _ s) (VKv.mono e p h)
  | _, _, .obj m s h => .obj m (e _ _ s) (VFs.mono e p h)
  | _, _, .cel h => .cel (p _ _ h)
  | _, _, .fn h => .fn h
  | _, _, .ty n => .ty n
theorem Vls.mono (e : Ex F F') (p : Pre c c') : ∀ {vs : List V} {xs : List D}, Vls g F c vs xs → Vls g F' c' vs xs
  | _, _, .nil => .nil
  | _, _, .cons h t => .cons (Val.mono e p h) (Vls.mono e p t)
theorem VKv.mono (e : Ex F F') (p : Pre c c') : ∀ {vs : List (Key × V)} {xs : List (Key × D)}, VKv g F c vs xs → VKv g F' c' vs xs
  | _, _, .nil => .nil
  | _, _, .cons h t => .cons (Val.mono e p h) (VKv.mono e p t)
theorem VFs.mono (e : Ex F F') (p : Pre c c') : ∀ {vs : List (Str × V)} {xs : List (Str × D)}, VFs g F c vs xs → VFs g F' c' vs xs
  | _, _, .nil => .nil
  | _, _, .cons h t => .cons (Val.mono e p h) (VFs.mono e p t)
end
theorem Vls.length : ∀ {vs : List V} {xs : List D}, Vls g F c vs xs → vs.length = xs.length
  | _, _, .nil => rfl
  | _, _, .cons _ t => by rw [List.length_cons, List.length_cons, Vls.length t]
theorem Vls.get : ∀ {vs : List V} {xs : List D} {i : Nat} {d : D}, Vls g F c vs xs → xs[i]? = some d → ∃ v, vs[i]? = some v ∧ Val g F c v d
  | _, _, _, _, .nil, h => by simp at h
  | _, _, 0, _, .cons h _, e => by simp at e; subst e; exact ⟨_, rfl, h⟩
  | _, _, i + 1, d, .cons _ t, e => by
    obtain ⟨v, h1, h2⟩ := Vls.get (i := i) (d := d) t (by simpa using e)
    exact ⟨v, by simpa using h1, h2⟩
theorem Vls.getV : ∀ {vs : List V} {xs : List D} {i : Nat} {v : V}, Vls g F c vs xs → vs[i]? = some v → ∃ d, xs[i]? = some d ∧ Val g F c v d
  | _, _, _, _, .nil, h => by simp at h
  | _, _, 0, _, .cons h _, e => by simp at e; subst e; exact ⟨_, rfl, h⟩
  | _, _, i + 1, d, .cons _ t, e => by
    obtain ⟨v, h1, h2⟩ := Vls.getV (i := i) (v := d) t (by simpa using e)
    exact ⟨v, by simpa using h1, h2⟩
theorem Vls.append : ∀ {vs ws : List V} {xs ys : List D}, Vls g F c vs xs → Vls g F c ws ys → Vls g F c (vs ++ ws) (xs ++ ys)
  | _, _, _, _, .nil, h => h
  | _, _, _, _, .cons h t, s => .cons h (Vls.append t s)
theorem Vls.take : ∀ {vs : List V} {xs : List D} (n : Nat), Vls g F c vs xs → Vls g F c (vs.take n) (xs.take n)
  | _, _, 0, _ => .nil
  | _, _, _ + 1, .nil => .nil
  | _, _, n + 1, .cons h t => .cons h (Vls.take n t)
theorem Vls.drop : ∀ {vs : List V} {xs : List D} (n : Nat), Vls g F c vs xs → Vls g F c (vs.drop n) (xs.drop n)
  | _, _, 0, h => h
  | _, _, _ + 1, .nil => .nil
  | _, _, n + 1, .cons _ t => Vls.drop n t
theorem Vls.set : ∀ {vs : List V} {xs : List D} {v : V} {d : D} (n : Nat), Vls g F c vs xs → Val g F c v d → Vls g F c (vs.set n v) (xs.set n d)
  | _, _, _, _, _, .nil, _ => .nil
  | _, _, _, _, 0, .cons _ t, h => .cons h t
  | _, _, _, _, n + 1, .cons h t, q => .cons h (Vls.set n t q)
theorem Vls.reverse {vs : List V} {xs : List D} (h : Vls g F c vs xs) : Vls g F c vs.reverse xs.reverse := by
  induction vs generalizing xs with
  | nil => cases h; exact .nil
  | cons v vs ih =>
    cases h with
    | cons h t =>
      rw [List.reverse_cons, List.reverse_cons]
      exact (ih t).append (.cons h .nil)
theorem VFs.lookup : ∀ {vs : List (Str × V)} {xs : List (Str × D)} {f : Str} {d : D}, VFs g F c vs xs → xs.lookup f = some d → ∃ v, vs.lookup f = some v ∧ Val g F c v d
  | _, _, _, _, .nil, h => by simp at h
  | _, _, f, d, .cons (k := k) h t, e => by
    rw [List.lookup_cons] at e ⊢
    cases q : (f == k) with
    | true => rw [q] at e; cases e; exact ⟨_, rfl, h⟩
    | false => rw [q] at e; exact VFs.lookup t e
theorem VFs.lookup_none : ∀ {vs : List (Str × V)} {xs : List (Str × D)} {f : Str}, VFs g F c vs xs → xs.lookup f = none → vs.lookup f = none
  | _, _, _, .nil, h => rfl
  | _, _, f, .cons (k := k) h t, e => by
    rw [List.lookup_cons] at e ⊢
    cases q : (f == k) with
    | true => rw [q] at e; cases e
    | false => rw [q] at e; exact VFs.lookup_none t e
theorem VFs.length : ∀ {vs : List (Str × V)} {xs : List (Str × D)}, VFs g F c vs xs → vs.length = xs.length
  | _, _, .nil => rfl
  | _, _, .cons _ t => by rw [List.length_cons, List.length_cons, VFs.length t]
theorem VKv.length : ∀ {vs : List (Key × V)} {xs : List (Key × D)}, VKv g F c vs xs → vs.length = xs.length
  | _, _, .nil => rfl
  | _, _, .cons _ t => by rw [List.length_cons, List.length_cons, VKv.length t]
end
def live : List Addr → Store → List Addr
  | a :: c, x :: S => if x.alive then a :: live c S else live c S
  | _, _ => []
def frz (g : G) (c : List Addr) (S : Store) (H : Hp) : Hp := fun a => if a ∈ live c S ∨ a ∈ g.hid then none else H a
section
variable {g : G}
theorem frz_of {c : List Addr} {S : Store} {H : Hp} {a : Addr} {o : HO} (h : frz g c S H a = some o) : H a = some o ∧ a ∉ live c S ∧ a ∉ g.hid := by
  unfold frz at h
  split at h
  · cases h
  · rename_i q
    exact ⟨h, fun z => q (.inl z), fun z => q (.inr z)⟩
theorem frz_in {c : List Addr} {S : Store} {H : Hp} {a : Addr} (h : a ∉ live c S) (h' : a ∉ g.hid) : frz g c S H a = H a := if_neg fun z => z.elim h h'
theorem frz_mem {c : List Addr} {S : Store} {H : Hp} {a : Addr} (h : a ∈ live c S) : frz g c S H a = none := if_pos (.inl h)
theorem frz_hid {c : List Addr} {S : Store} {H : Hp} {a : Addr} (h : a ∈ g.hid) : frz g c S H a = none := if_pos (.inr h)
theorem frz_ex {c : List Addr} {S : Store} {H : Hp} : Ex (frz g c S H) H := fun a o h => (frz_of h).1
end
theorem live_mem : ∀ {c : List Addr} {S : Store} {a : Addr}, a ∈ live c S → ∃ (n : Nat) (x : Cell), c[n]? = some a ∧ S[n]? = some x ∧ x.alive = true
  | [], _, _, h => by simp [live] at h
  | _ :: _, [], _, h => by simp [live] at h
  | b :: c, x :: S, a, h => by
    unfold live at h
    split at h
    · rcases List.mem_cons.mp h with rfl | h
      · exact ⟨0, x, rfl, rfl, by assumption⟩
      · obtain ⟨n, y, h1, h2, h3⟩ := live_mem h
        exact ⟨n + 1, y, by simpa using h1, by simpa using h2, h3⟩
    · obtain ⟨n, y, h1, h2, h3⟩ := live_mem h
      exact ⟨n + 1, y, by simpa using h1, by simpa using h2, h3⟩
theorem mem_live : ∀ {c : List Addr} {S : Store} {a : Addr} {n : Nat} {x : Cell}, c[n]? = some a → S[n]? = some x → x.alive = true → a ∈ live c S
  | [], _, _, _, _, h, _, _ => by simp at h
  | _ :: _, [], _, _, _, _, h, _ => by simp at h
  | b :: c, y :: S, a, 0, x, h1, h2, h3 => by
    simp at h1 h2; subst h1; subst h2
    unfold live; rw [if_pos h3]; exact List.mem_cons_self
  | b :: c, y :: S, a, n + 1, x, h1, h2, h3 => by
    have := mem_live (n := n) (by simpa using h1) (by simpa using h2) h3
    unfold live; split
    · exact List.mem_cons_of_mem _ this
    · exact this
theorem live_inj : ∀ {c : List Addr} {S : Store} {a : Addr} {n m : Nat} {x y : Cell}, (live c S).Nodup → c[n]? = some a → S[n]? = some x → x.alive = true → c[m]? = some a → S[m]? = some y → y.alive = true → n = m
  | [], _, _, _, _, _, _, _, h, _, _, _, _, _ => by simp at h
  | _ :: _, [], _, _, _, _, _, _, _, h, _, _, _, _ => by simp at h
  | b :: c, z :: S, a, n, m, x, y, nd, h1, h2, h3, h4, h5, h6 => by
    have key : ∀ {k : Nat} {u : Cell}, (b :: c)[k + 1]? = some a → (z :: S)[k + 1]? = some u → u.alive = true → a ∈ live c S := fun q1 q2 q3 => mem_live (by simpa using q1) (by simpa using q2) q3
    cases n with
    | zero =>
      cases m with
      | zero => rfl
      | succ m =>
        exfalso
        simp at h1 h2; subst h1; subst h2
        have := key h4 h5 h6
        unfold live at nd
        rw [if_pos h3] at nd
        exact (List.nodup_cons.mp nd).1 this
    | succ n =>
      cases m with
      | zero =>
        exfalso
        simp at h4 h5; subst h4; subst h5
        have := key h1 h2 h3
        unfold live at nd
        rw [if_pos h6] at nd
        exact (List.nodup_cons.mp nd).1 this
      | succ m =>
        have nd' : (live c S).Nodup := by
          unfold live at nd
          split at nd
          · exact (List.nodup_cons.mp nd).2
          · exact nd
        rw [live_inj (n := n) (m := m) nd' (by simpa using h1) (by simpa using h2) h3 (by simpa using h4) (by simpa using h5) h6]
theorem live_set : ∀ {c : List Addr} {S : Store} {n : Nat} {x y : Cell}, S[n]? = some x → x.alive = y.alive → live c (S.set n y) = live c S
  | [], S, n, x, y, _, _ => by cases S <;> simp [live] <;> (cases n <;> simp [live])
  | _ :: _, [], _, _, _, h, _ => by simp at h
  | b :: c, z :: S, 0, x, y, h, e => by
    simp at h; subst h
    simp only [List.set_cons_zero, live, e]
  | b :: c, z :: S, n + 1, x, y, h, e => by
    simp only [List.set_cons_succ, live]
    rw [live_set (by simpa using h) e]
theorem live_snoc : ∀ {c : List Addr} {S : Store} (p : Addr) (x : Cell), c.length = S.length → live (c ++ [p]) (S ++ [x]) = live c S ++ (if x.alive then [p] else [])
  | [], [], p, x, _ => by simp [live]
  | b :: c, z :: S, p, x, h => by
    have ih := live_snoc (c := c) (S := S) p x (by simpa using h)
    simp only [List.cons_append, live]
    rw [ih]
    split <;> rfl
  | [], _ :: _, _, _, h => by simp at h
  | _ :: _, [], _, _, h => by simp at h
def CellOk (g : G) (F : Hp) (c : List Addr) (H : Hp) (a : Addr) : Cell → Prop
  | .lst xs => ∃ vs, H a = some (.lst vs) ∧ Vls g F c vs xs
  | .dct kvs => ∃ ws, H a = some (.dK ws) ∧ VKv g F c ws kvs
  | .ins C fs => ∃ Ca dx ws, g.mg C = some (.ref Ca) ∧ H a = some (.ins Ca dx ws) ∧ VFs g F c ws fs
  | .fz d => Val g F c (.ref a) d
  | .dead => True
def XRel (g : G) (F : Hp) (c : List Addr) (u : Value) (o : Option Addr) (C : Str) (fs : List (Str × D)) : Prop :=
  ∃ Ca, g.mg C = some (.ref Ca) ∧ u = .ref Ca ∧ ((fs = [] ∧ o = none) ∨ ∃ d ws, o = some d ∧ F d = some (.xd ws) ∧ VFs g F c ws fs)
theorem XRel.mono {g : G} {F F' : Hp} {c c' : List Addr} {u : Value} {o : Option Addr} {C : Str} {fs : List (Str × D)} (e : Ex F F') (p : Pre c c') (h : XRel g F c u o C fs) : XRel g F' c' u o C fs := by
  obtain ⟨Ca, h1, h2, h3⟩ := h
  refine ⟨Ca, h1, h2, h3.imp id fun ⟨d, ws, q1, q2, q3⟩ => ⟨d, ws, q1, e _ _ q2, q3.mono e p⟩⟩
def CuOk (g : G) (F : Hp) (c : List Addr) (q : CuE) : Prop := c[q.n]? = some q.a ∧ XRel g F c q.u q.o q.C q.fs
theorem CuOk.mono {g : G} {F F' : Hp} {c c' : List Addr} {q : CuE} (e : Ex F F') (p : Pre c c') (h : CuOk g F c q) : CuOk g F' c' q := ⟨p _ _ h.1, h.2.mono e p⟩
structure Rep (g : G) (c : List Addr) (S : Store) (H : Hp) : Prop where
  len : c.length = S.length
  nd : (live c S).Nodup
  hl : ∀ a ∈ live c S, a ∉ g.hid
  hs : ∀ a ∈ g.hid, ∃ o, H a = some o
  cu : ∀ q, g.cur = some q → CuOk g (frz g c S H) c q
  ok : ∀ (n : Nat) (a : Addr) (x : Cell), c[n]? = some a → S[n]? = some x → CellOk g (frz g c S H) c H a x
structure Fut (g : G) (c : List Addr) (S : Store) (H : Hp) (c' : List Addr) (S' : Store) (H' : Hp) : Prop where
  pre : Pre c c'
  rep : Rep g c' S' H'
  ex : Ex (frz g c S H) (frz g c' S' H')
  hid : ∀ a ∈ g.hid, H' a = H a
theorem Fut.refl {g : G} {c : List Addr} {S : Store} {H : Hp} (r : Rep g c S H) : Fut g c S H c S H := ⟨Pre.refl c, r, Evl.Ex.refl _, fun _ _ => rfl⟩
theorem Fut.trans {g : G} {c c1 c2 : List Addr} {S S1 S2 : Store} {H H1 H2 : Hp} (a : Fut g c S H c1 S1 H1) (b : Fut g c1 S1 H1 c2 S2 H2) : Fut g c S H c2 S2 H2 :=
  ⟨a.pre.trans b.pre, b.rep, a.ex.trans b.ex, fun x hx => (b.hid x hx).trans (a.hid x hx)⟩
theorem Fut.val {g : G} {c c' : List Addr} {S S' : Store} {H H' : Hp} {v : V} {d : D} (f : Fut g c S H c' S' H') (h : Val g (frz g c S H) c v d) : Val g (frz g c' S' H') c' v d := h.mono f.ex f.pre
theorem Fut.vls {g : G} {c c' : List Addr} {S S' : Store} {H H' : Hp} {v : List V} {d : List D} (f : Fut g c S H c' S' H') (h : Vls g (frz g c S H) c v d) : Vls g (frz g c' S' H') c' v d := h.mono f.ex f.pre
theorem live_some {g : G} {c : List Addr} {S : Store} {H : Hp} {a : Addr} (r : Rep g c S H) (h : a ∈ live c S) : ∃ o, H a = some o := by
  obtain ⟨n, x, h1, h2, h3⟩ := live_mem h
  have ok := r.ok n a x h1 h2
  cases x with
  | lst xs => obtain ⟨vs, e, _⟩ := ok; exact ⟨_, e⟩
  | dct xs => obtain ⟨vs, e, _⟩ := ok; exact ⟨_, e⟩
  | ins C fs => obtain ⟨_, _, _, _, e, _⟩ := ok; exact ⟨_, e⟩
  | fz d => cases h3
  | dead => cases h3
theorem Fut.new {g : G} {c : List Addr} {S : Store} {H : Hp} {p : Addr} {o : HO} (r : Rep g c S H) (hp : H p = none) : Fut g c S H c S (upd H p o) := by
  have np : p ∉ live c S := fun z => by
    obtain ⟨o, e⟩ := live_some r z
    rw [hp] at e; cases e
  have ex : Ex (frz g c S H) (frz g c S (upd H p o)) := fun a u h => by
    obtain ⟨h1, h2, h3⟩ := frz_of h
    rw [frz_in h2 h3, upd_ne (ne_of_none h1 hp)]
    exact h1
  have nh : ∀ a ∈ g.hid, a ≠ p := fun a ha z => by
    obtain ⟨o, e⟩ := r.hs a ha
    rw [z, hp] at e; cases e
  refine ⟨Pre.refl c, ⟨r.len, r.nd, r.hl, fun a ha => by rw [upd_ne (nh a ha)]; exact r.hs a ha, fun q e => (r.cu q e).mono ex (Pre.refl c), fun n a x h1 h2 => ?_⟩, ex, fun a ha => upd_ne (nh a ha)⟩
  have ok := r.ok n a x h1 h2
  cases x with
  | lst xs => obtain ⟨vs, e, h⟩ := ok; exact ⟨vs, by rw [upd_ne (ne_of_none e hp)]; exact e, h.mono ex (Pre.refl c)⟩
  | dct xs => obtain ⟨vs, e, h⟩ := ok; exact ⟨vs, by rw [upd_ne (ne_of_none e hp)]; exact e, h.mono ex (Pre.refl c)⟩
  | ins C fs => obtain ⟨Ca, dx, ws, m, e, h⟩ := ok; exact ⟨Ca, dx, ws, m, by rw [upd_ne (ne_of_none e hp)]; exact e, h.mono ex (Pre.refl c)⟩
  | fz d => exact Val.mono ex (Pre.refl c) ok
  | dead => trivial
theorem Fut.frz_new {g : G} {c : List Addr} {S : Store} {H : Hp} {p : Addr} {o : HO} (r : Rep g c S H) (hp : H p = none) : frz g c S (upd H p o) p = some o := by
  have np : p ∉ live c S := fun z => by
    obtain ⟨o, e⟩ := live_some r z
    rw [hp] at e; cases e
  have nh : p ∉ g.hid := fun z => by
    obtain ⟨o, e⟩ := r.hs p z
    rw [hp] at e; cases e
  rw [frz_in np nh, upd_same]
theorem Fut.cell {g : G} {c : List Addr} {S : Store} {H : Hp} {p : Addr} {o : HO} {x : Cell} (r : Rep g c S H) (hp : H p = none) (hx : x.alive = true)
    (ok : CellOk g (frz g c S H) c (upd H p o) p x) : Fut g c S H (c ++ [p]) (S ++ [x]) (upd H p o) := by
  have np : p ∉ live c S := fun z => by
    obtain ⟨o, e⟩ := live_some r z
    rw [hp] at e; cases e
  have lv : live (c ++ [p]) (S ++ [x]) = live c S ++ [p] := by rw [live_snoc p x r.len, if_pos hx]
  have nh : ∀ a ∈ g.hid, a ≠ p := fun a ha z => by
    obtain ⟨o, e⟩ := r.hs a ha
    rw [z, hp] at e; cases e
  have nhp : p ∉ g.hid := fun z => nh p z rfl
  have ef : frz g (c ++ [p]) (S ++ [x]) (upd H p o) = frz g c S H := by
    funext a
    by_cases h : a = p
    · subst h
      rw [frz_mem (by rw [lv]; exact List.mem_append_right _ (List.mem_singleton.mpr rfl)), frz_in np nhp, hp]
    · by_cases q : a ∈ live c S
      · rw [frz_mem (by rw [lv]; exact List.mem_append_left _ q), frz_mem q]
      · by_cases q2 : a ∈ g.hid
        · rw [frz_hid q2, frz_hid q2]
        · rw [frz_in q q2, frz_in (by rw [lv]; exact fun z => (List.mem_append.mp z).elim q fun z => h (List.mem_singleton.mp z)) q2, upd_ne h]
  have pre := Pre.snoc c p
  have exr : Ex (frz g c S H) (frz g c S H) := Evl.Ex.refl _
  refine ⟨pre, ⟨by simp [r.len], ?_, fun a ha => ?_, fun a ha => by rw [upd_ne (nh a ha)]; exact r.hs a ha, fun q e => by rw [ef]; exact (r.cu q e).mono exr pre, fun n a y h1 h2 => ?_⟩, by rw [ef]; exact exr, fun a ha => upd_ne (nh a ha)⟩
  · rw [lv]
    exact List.nodup_append.mpr ⟨r.nd, by simp, fun a ha b hb => by
      rw [List.mem_singleton.mp hb]; intro z; subst z; exact np ha⟩
  · rw [lv] at ha
    rcases List.mem_append.mp ha with z | z
    · exact r.hl a z
    · rw [List.mem_singleton.mp z]; exact nhp
  · rw [ef]
    rcases Nat.lt_or_ge n c.length with q | q
    · rw [List.getElem?_append_left q] at h1
      rw [List.getElem?_append_left (by rw [← r.len]; exact q)] at h2
      have ok' := r.ok n a y h1 h2
      cases y with
      | lst xs => obtain ⟨vs, e, h⟩ := ok'; exact ⟨vs, by rw [upd_ne (ne_of_none e hp)]; exact e, h.mono exr pre⟩
      | dct xs => obtain ⟨vs, e, h⟩ := ok'; exact ⟨vs, by rw [upd_ne (ne_of_none e hp)]; exact e, h.mono exr pre⟩
      | ins C fs => obtain ⟨Ca, dx, ws, m, e, h⟩ := ok'; exact ⟨Ca, dx, ws, m, by rw [upd_ne (ne_of_none e hp)]; exact e, h.mono exr pre⟩
      | fz d => exact Val.mono exr pre ok'
      | dead => trivial
    · have hn : n = c.length := by
        rcases Nat.eq_or_lt_of_le q with z | z
        · exact z.symm
        · rw [List.getElem?_eq_none (by simp; omega)] at h1; cases h1
      subst hn
      simp at h1
      rw [r.len] at h2
      simp at h2
      subst h1 h2
      cases x with
      | lst xs => obtain ⟨vs, e, h⟩ := ok; exact ⟨vs, e, h.mono exr pre⟩
      | dct xs => obtain ⟨vs, e, h⟩ := ok; exact ⟨vs, e, h.mono exr pre⟩
      | ins C fs => obtain ⟨Ca, dx, ws, m, e, h⟩ := ok; exact ⟨Ca, dx, ws, m, e, h.mono exr pre⟩
      | fz d => cases hx
      | dead => cases hx
theorem Fut.put {g : G} {c : List Addr} {S : Store} {H : Hp} {n : Nat} {a : Addr} {o : HO} {x y : Cell} (r : Rep g c S H) (ha : c[n]? = some a) (hs : S[n]? = some x) (hx : x.alive = true) (hy : y.alive = true)
    (ok : CellOk g (frz g c S H) c (upd H a o) a y) : Fut g c S H c (S.set n y) (upd H a o) := by
  have lv : live c (S.set n y) = live c S := live_set hs (by rw [hx, hy])
  have hm := mem_live ha hs hx
  have ef : frz g c (S.set n y) (upd H a o) = frz g c S H := by
    funext b
    by_cases q : b ∈ live c S
    · rw [frz_mem (by rw [lv]; exact q), frz_mem q]
    · by_cases q2 : b ∈ g.hid
      · rw [frz_hid q2, frz_hid q2]
      · rw [frz_in (by rw [lv]; exact q) q2, frz_in q q2, upd_ne (fun z : b = a => q (by rw [z]; exact hm))]
  have nh : ∀ b ∈ g.hid, b ≠ a := fun b hb z => r.hl a hm (z ▸ hb)
  refine ⟨Pre.refl c, ⟨by simp [r.len], by rw [lv]; exact r.nd, by rw [lv]; exact r.hl, fun b hb => by rw [upd_ne (nh b hb)]; exact r.hs b hb, fun q e => by rw [ef]; exact r.cu q e, fun m b z h1 h2 => ?_⟩, by rw [ef]; exact Evl.Ex.refl _, fun b hb => upd_ne (nh b hb)⟩
  rw [ef]
  by_cases e : m = n
  · subst e
    rw [ha] at h1; cases h1
    have hl : m < S.length := by
      rcases Nat.lt_or_ge m S.length with q | q
      · exact q
      · rw [List.getElem?_eq_none q] at hs; cases hs
    rw [List.getElem?_set_self hl] at h2; cases h2
    exact ok
  · rw [List.getElem?_set_ne (Ne.symm e)] at h2
    have ok' := r.ok m b z h1 h2
    have ne : z.alive = true → b ≠ a := fun hz q => by
      subst q
      exact e (live_inj r.nd h1 h2 hz ha hs hx)
    cases z with
    | lst xs => obtain ⟨vs, e, h⟩ := ok'; exact ⟨vs, by rw [upd_ne (ne rfl)]; exact e, h⟩
    | dct xs => obtain ⟨vs, e, h⟩ := ok'; exact ⟨vs, by rw [upd_ne (ne rfl)]; exact e, h⟩
    | ins C fs => obtain ⟨Ca, dx, ws, m, e, h⟩ := ok'; exact ⟨Ca, dx, ws, m, by rw [upd_ne (ne rfl)]; exact e, h⟩
    | fz d => exact ok'
    | dead => trivial
theorem live_sub : ∀ {c : List Addr} {S : Store} {n : Nat} {y : Cell}, y.alive = false → (live c (S.set n y)).Sublist (live c S)
  | [], S, n, y, _ => by cases S <;> (cases n <;> simp [live])
  | _ :: _, [], n, y, _ => by cases n <;> simp [live]
  | b :: c, z :: S, 0, y, h => by
    simp only [List.set_cons_zero, live, h]
    rw [if_neg Bool.false_ne_true]
    split
    · exact List.Sublist.cons _ (List.Sublist.refl _)
    · exact List.Sublist.refl _
  | b :: c, z :: S, n + 1, y, h => by
    simp only [List.set_cons_succ, live]
    have ih := live_sub (c := c) (S := S) (n := n) h
    split
    · exact List.Sublist.cons₂ _ ih
    · exact ih
theorem Fut.fix {g : G} {c : List Addr} {S : Store} {H : Hp} {n : Nat} {a : Addr} {x : Cell} {d : D} (r : Rep g c S H) (ha : c[n]? = some a) (hs : S[n]? = some x) (hx : x.alive = true)
    (ok : ∀ F, Ex (frz g c S H) F → F a = H a → Val g F c (.ref a) d) : Fut g c S H c (S.set n (.fz d)) H ∧ Val g (frz g c (S.set n (.fz d)) H) c (.ref a) d := by
  have sub : (live c (S.set n (.fz d))).Sublist (live c S) := live_sub rfl
  have ex : Ex (frz g c S H) (frz g c (S.set n (.fz d)) H) := fun b o h => by
    obtain ⟨h1, h2, h3⟩ := frz_of h
    rw [frz_in (fun z => h2 (sub.subset z)) h3]; exact h1
  have hl : n < S.length := by
    rcases Nat.lt_or_ge n S.length with q | q
    · exact q
    · rw [List.getElem?_eq_none q] at hs; cases hs
  have na : a ∉ live c (S.set n (.fz d)) := fun z => by
    obtain ⟨m, y, h1, h2, h3⟩ := live_mem z
    by_cases e : m = n
    · subst e
      rw [List.getElem?_set_self hl] at h2; cases h2; cases h3
    · rw [List.getElem?_set_ne (Ne.symm e)] at h2
      exact e (live_inj r.nd h1 h2 h3 ha hs hx)
  have hv : Val g (frz g c (S.set n (.fz d)) H) c (.ref a) d := ok _ ex (frz_in na (r.hl a (mem_live ha hs hx)))
  refine ⟨⟨Pre.refl c, ⟨by simp [r.len], r.nd.sublist sub, fun b hb => r.hl b (sub.subset hb), r.hs, fun q e => (r.cu q e).mono ex (Pre.refl c), fun m b z h1 h2 => ?_⟩, ex, fun _ _ => rfl⟩, hv⟩
  by_cases e : m = n
  · subst e
    rw [ha] at h1; cases h1
    rw [List.getElem?_set_self hl] at h2; cases h2
    exact hv
  · rw [List.getElem?_set_ne (Ne.symm e)] at h2
    have ok' := r.ok m b z h1 h2
    cases z with
    | lst xs => obtain ⟨vs, e, h⟩ := ok'; exact ⟨vs, e, h.mono ex (Pre.refl c)⟩
    | dct xs => obtain ⟨vs, e, h⟩ := ok'; exact ⟨vs, e, h.mono ex (Pre.refl c)⟩
    | ins C fs => obtain ⟨Ca, dx, ws, m, e, h⟩ := ok'; exact ⟨Ca, dx, ws, m, e, h.mono ex (Pre.refl c)⟩
    | fz d => exact Val.mono ex (Pre.refl c) ok'
    | dead => trivial
def G.hide (g : G) (p : Addr) : G := { g with hid := p :: g.hid }
section
variable {g g' : G} {F : Hp} {c : List Addr}
def SameM (g g' : G) : Prop := g.K = g'.K ∧ g.mg = g'.mg ∧ g.P = g'.P ∧ g.w = g'.w
theorem SameM.hide (g : G) (p : Addr) : SameM g (g.hide p) := ⟨rfl, rfl, rfl, rfl⟩
theorem SameM.symm (h : SameM g g') : SameM g' g := ⟨h.1.symm, h.2.1.symm, h.2.2.1.symm, h.2.2.2.symm⟩
mutual
theorem Val.same (e : SameM g g') : ∀ {v : V} {d : D}, Val g F c v d → Val g' F c v d
  | _, _, .non => .non
  | _, _, .bl b => .bl b
  | _, _, .int i => .int i
  | _, _, .str h => .str h
  | _, _, .lst s h => .lst s (Vls.same e h)
  | _, _, .rol s h => .rol (by rw [← e.1]; exact s) (Vls.same e h)
  | _, _, .set n s => .set n (by rw [← e.2.2.1, ← e.2.2.2]; exact s)
  | _, _, .tup s h => .tup (by rw [← e.1]; exact s) (Vls.same e h)
  | _, _, .tpo s h => .tpo (by rw [← e.1]; exact s) (Vls.same e h)
  | _, _, .dct s h => .dct s (VKv.same e h)
  | _, _, .obj m s h => .obj (by rw [← e.2.1]; exact m) s (VFs.same e h)
  | _, _, .cel h => .cel h
  | _, _, .fn h => .fn (by rw [← e.2.1]; exact h)
  | _, _, .ty n => .ty n
theorem Vls.same (e : SameM g g') : ∀ {vs : List V} {xs : List D}, Vls g F c vs xs → Vls g' F c vs xs
  | _, _, .nil => .nil
  | _, _, .cons h t => .cons (Val.same e h) (Vls.same e t)
theorem VKv.same (e : SameM g g') : ∀ {vs : List (Key × V)} {xs : List (Key × D)}, VKv g F c vs xs → VKv g' F c vs xs
  | _, _, .nil => .nil
  | _, _, .cons h t => .cons (Val.same e h) (VKv.same e t)
theorem VFs.same (e : SameM g g') : ∀ {vs : List (Str × V)} {xs : List (Str × D)}, VFs g F c vs xs → VFs g' F c vs xs
  | _, _, .nil => .nil
  | _, _, .cons h t => .cons (Val.same e h) (VFs.same e t)
end
theorem XRel.same {u : Value} {o : Option Addr} {C : Str} {fs : List (Str × D)} (e : SameM g g') (h : XRel g F c u o C fs) : XRel g' F c u o C fs := by
  obtain ⟨Ca, h1, h2, h3⟩ := h
  exact ⟨Ca, by rw [← e.2.1]; exact h1, h2, h3.imp id fun ⟨d, ws, q1, q2, q3⟩ => ⟨d, ws, q1, q2, q3.same e⟩⟩
theorem CuOk.same {q : CuE} (e : SameM g g') (h : CuOk g F c q) : CuOk g' F c q := ⟨h.1, h.2.same e⟩
theorem CellOk.same (e : SameM g g') {H : Hp} {a : Addr} {x : Cell} (h : CellOk g F c H a x) : CellOk g' F c H a x := by
  cases x with
  | lst xs => obtain ⟨vs, q, h⟩ := h; exact ⟨vs, q, h.same e⟩
  | dct xs => obtain ⟨vs, q, h⟩ := h; exact ⟨vs, q, h.same e⟩
  | ins C fs => obtain ⟨Ca, dx, ws, m, q, h⟩ := h; exact ⟨Ca, dx, ws, by rw [← e.2.1]; exact m, q, h.same e⟩
  | fz d => exact Val.same e h
  | dead => trivial
theorem CellOk.mono {F' : Hp} {c' : List Addr} {H : Hp} {a : Addr} {x : Cell} (e : Ex F F') (p : Pre c c') (h : CellOk g F c H a x) : CellOk g F' c' H a x := by
  cases x with
  | lst xs => obtain ⟨vs, q, h⟩ := h; exact ⟨vs, q, h.mono e p⟩
  | dct xs => obtain ⟨vs, q, h⟩ := h; exact ⟨vs, q, h.mono e p⟩
  | ins C fs => obtain ⟨Ca, dx, ws, m, q, h⟩ := h; exact ⟨Ca, dx, ws, m, q, h.mono e p⟩
  | fz d => exact Val.mono e p h
  | dead => trivial
theorem CellOk.at {H H' : Hp} {a : Addr} {x : Cell} (e : x.alive = true → H' a = H a) (h : CellOk g F c H a x) : CellOk g F c H' a x := by
  cases x with
  | lst xs => obtain ⟨vs, q, h⟩ := h; exact ⟨vs, (e rfl).trans q, h⟩
  | dct xs => obtain ⟨vs, q, h⟩ := h; exact ⟨vs, (e rfl).trans q, h⟩
  | ins C fs => obtain ⟨Ca, dx, ws, m, q, h⟩ := h; exact ⟨Ca, dx, ws, m, (e rfl).trans q, h⟩
  | fz d => exact h
  | dead => trivial
variable {S : Store} {H : Hp} {p : Addr} {o : HO}
theorem Rep.hide (r : Rep g c S H) (hp : H p = none) : Rep (g.hide p) c S (upd H p o) ∧ frz (g.hide p) c S (upd H p o) = frz g c S H := by
  have np : p ∉ live c S := fun z => by
    obtain ⟨o, e⟩ := live_some r z
    rw [hp] at e; cases e
  have ef : frz (g.hide p) c S (upd H p o) = frz g c S H := by
    funext a
    by_cases q : a ∈ live c S
    · rw [frz_mem q, frz_mem q]
    · by_cases q1 : a = p
      · subst q1
        rw [frz_hid (show a ∈ a :: g.hid from List.mem_cons_self)]
        by_cases q2 : a ∈ g.hid
        · rw [frz_hid q2]
        · rw [frz_in q q2, hp]
      · by_cases q2 : a ∈ g.hid
        · rw [frz_hid q2, frz_hid (show a ∈ p :: g.hid from List.mem_cons_of_mem _ q2)]
        · rw [frz_in q q2, frz_in q (show a ∉ p :: g.hid from fun z => (List.mem_cons.mp z).elim q1 q2), upd_ne q1]
  refine ⟨⟨r.len, r.nd, fun a ha => ?_, fun a ha => ?_, fun q e => by rw [ef]; exact (r.cu q e).same (SameM.hide g p), fun n a x h1 h2 => ?_⟩, ef⟩
  · exact fun z => (List.mem_cons.mp (show a ∈ p :: g.hid from z)).elim (fun e => np (e ▸ ha)) (r.hl a ha)
  · rcases List.mem_cons.mp (show a ∈ p :: g.hid from ha) with e | z
    · subst e; exact ⟨o, upd_same⟩
    · obtain ⟨u, e⟩ := r.hs a z
      exact ⟨u, by rw [upd_ne (ne_of_none e hp)]; exact e⟩
  · rw [ef]
    refine ((r.ok n a x h1 h2).same (SameM.hide g p)).at fun hx => upd_ne fun e => ?_
    subst e
    exact np (mem_live h1 h2 hx)
theorem Rep.hput (r : Rep (g.hide p) c S H) : Rep (g.hide p) c S (upd H p o) ∧ frz (g.hide p) c S (upd H p o) = frz (g.hide p) c S H := by
  have hm : p ∈ (g.hide p).hid := List.mem_cons_self
  have ef : frz (g.hide p) c S (upd H p o) = frz (g.hide p) c S H := by
    funext a
    by_cases q : a ∈ live c S
    · rw [frz_mem q, frz_mem q]
    · by_cases q2 : a ∈ (g.hide p).hid
      · rw [frz_hid q2, frz_hid q2]
      · rw [frz_in q q2, frz_in q q2, upd_ne (fun e => q2 (by rw [e]; exact hm))]
  refine ⟨⟨r.len, r.nd, r.hl, fun a ha => ?_, fun q e => by rw [ef]; exact r.cu q e, fun n a x h1 h2 => ?_⟩, ef⟩
  · by_cases e : a = p
    · subst e; exact ⟨o, upd_same⟩
    · rw [upd_ne e]; exact r.hs a ha
  · rw [ef]
    refine (r.ok n a x h1 h2).at fun hx => upd_ne fun e => ?_
    subst e
    exact r.hl a (mem_live h1 h2 hx) hm
theorem Rep.bare (r : Rep (g.hide p) c S H) : Rep g c S H ∧ Ex (frz (g.hide p) c S H) (frz g c S H) ∧ (p ∉ g.hid → frz g c S H p = H p) := by
  have hm : p ∈ (g.hide p).hid := List.mem_cons_self
  have ex : Ex (frz (g.hide p) c S H) (frz g c S H) := fun a o h => by
    obtain ⟨h1, h2, h3⟩ := frz_of h
    rw [frz_in h2 (fun z => h3 (show a ∈ p :: g.hid from List.mem_cons_of_mem _ z))]
    exact h1
  refine ⟨⟨r.len, r.nd, fun a ha z => r.hl a ha (show a ∈ p :: g.hid from List.mem_cons_of_mem _ z), fun a ha => r.hs a (show a ∈ p :: g.hid from List.mem_cons_of_mem _ ha), fun q e => ((r.cu q e).same (SameM.hide g p).symm).mono ex (Pre.refl c), fun n a x h1 h2 => ?_⟩, ex, fun h => ?_⟩
  · exact ((r.ok n a x h1 h2).same (SameM.hide g p).symm).mono ex (Pre.refl c)
  · exact frz_in (fun z => r.hl p z hm) h
end
end ND
namespace ND
open PySem L2
inductive Res (α : Type) where
  | ok (a : α) (S : Store) | err (C : Str) (fs : List (Str × D)) (S : Store) | bad
def M (α : Type) : Type := Store → Res α
def M.ret {α : Type} (a : α) : M α := fun S => .ok a S
def M.bnd {α β : Type} (m : M α) (f : α → M β) : M β := fun S => match m S with
  | .ok a S' => f a S'
  | .err C fs S' => .err C fs S'
  | .bad => .bad
instance : Monad M where
  pure := M.ret
  bind := M.bnd
def M.no {α : Type} : M α := fun _ => .bad
noncomputable def okP (p : Prop) : Bool := @decide p (Classical.propDecidable p)
@[simp] theorem okP_iff {p : Prop} : (okP p = true) = p := by
  unfold okP
  exact propext (@decide_eq_true_iff p (Classical.propDecidable p))
theorem okP_of {p : Prop} (h : okP p = true) : p := okP_iff.mp h
def M.chk {α : Type} (b : Bool) (m : M α) : M α := fun S => if b = true then m S else .bad
theorem bind_ok {α β : Type} {m : M α} {f : α → M β} {S S' : Store} {a : α} (h : m S = .ok a S') : (m >>= f) S = f a S' := by
  show M.bnd m f S = _
  unfold M.bnd; rw [h]
theorem bind_def {α β : Type} (m : M α) (f : α → M β) (S : Store) : (m >>= f) S = (match m S with
  | .ok a S' => f a S'
  | .err C fs S' => .err C fs S'
  | .bad => .bad) := rfl
theorem pure_def {α : Type} (a : α) (S : Store) : (pure a : M α) S = .ok a S := rfl
abbrev DSt := List (Option D)
abbrev EM := DSt → M D
abbrev TM := DSt → M Bool
abbrev AM := DSt → M (List D)
inductive Flow where
  | nx (σ : DSt) | rt (d : D) | bk (σ : DSt) | ct (σ : DSt)
inductive SRes where
  | ok (f : Flow) (S : Store) | err (C : Str) (fs : List (Str × D)) (σ : DSt) (S : Store) | bad
abbrev SM := DSt → Store → SRes
inductive Sl (g : G) (F : Hp) (c : List Addr) : St → DSt → Prop
  | nil : Sl g F c [] []
  | un {x : Option V} {σ : St} {τ : DSt} : Sl g F c σ τ → Sl g F c (x :: σ) (none :: τ)
  | hs {v : V} {d : D} {σ : St} {τ : DSt} : Val g F c v d → Sl g F c σ τ → Sl g F c (some v :: σ) (some d :: τ)
section
variable {g : G} {F F' : Hp} {c c' : List Addr} {σ : St} {τ : DSt}
theorem Sl.mono (e : Ex F F') (p : Pre c c') (h : Sl g F c σ τ) : Sl g F' c' σ τ := by
  induction h with
  | nil => exact .nil
  | un _ ih => exact .un ih
  | hs v _ ih => exact .hs (v.mono e p) ih
theorem Sl.get (h : Sl g F c σ τ) : ∀ {i : Nat} {d : D}, τ[i]? = some (some d) → ∃ v, σ[i]? = some (some v) ∧ Val g F c v d := by
  induction h with
  | nil => intro i d e; simp at e
  | un _ ih =>
    intro i d e
    cases i with
    | zero => simp at e
    | succ i =>
      obtain ⟨v, h1, h2⟩ := ih (i := i) (by simpa using e)
      exact ⟨v, by simpa using h1, h2⟩
  | hs v _ ih =>
    intro i d e
    cases i with
    | zero => simp at e; subst e; exact ⟨_, rfl, v⟩
    | succ i =>
      obtain ⟨v, h1, h2⟩ := ih (i := i) (by simpa using e)
      exact ⟨v, by simpa using h1, h2⟩
theorem Sl.set {v : V} {d : D} (h : Sl g F c σ τ) (hv : Val g F c v d) : ∀ (i : Nat), Sl g F c (σ.set i (some v)) (τ.set i (some d)) := by
  induction h with
  | nil => intro i; cases i <;> exact .nil
  | un h ih =>
    intro i
    cases i with
    | zero => exact .hs hv h
    | succ i => exact .un (ih i)
  | hs v h ih =>
    intro i
    cases i with
    | zero => exact .hs hv h
    | succ i => exact .hs v (ih i)
theorem Sl.length (h : Sl g F c σ τ) : σ.length = τ.length := by
  induction h with
  | nil => rfl
  | un _ ih => simp [ih]
  | hs _ _ ih => simp [ih]
theorem Sl.forget (h : Sl g F c σ τ) : ∀ (i : Nat) (x : Option V), Sl g F c (σ.set i x) (τ.set i none) := by
  induction h with
  | nil => intro i x; cases i <;> exact .nil
  | un h ih =>
    intro i x
    cases i with
    | zero => exact .un h
    | succ i => exact .un (ih i x)
  | hs v h ih =>
    intro i x
    cases i with
    | zero => exact .un h
    | succ i => exact .hs v (ih i x)
end
def Out {α : Type} (g : G) (c : List Addr) (S : Store) (H : Hp) (R : α → List Addr → Store → Hp → Prop) (E : XK) : Res α → Prop
  | .ok a S' => ∀ H' c', Fut g c S H c' S' H' → R a c' S' H'
  | .err C fs S' => ∀ u o H' c', Fut g c S H c' S' H' → XRel g (frz g c' S' H') c' u o C fs → E u o H'
  | .bad => False
theorem Out.fut {α : Type} {g : G} {c c1 : List Addr} {S S1 : Store} {H H1 : Hp} {R : α → List Addr → Store → Hp → Prop} {E : XK} {r : Res α} (f : Fut g c S H c1 S1 H1) (h : Out g c S H R E r) : Out g c1 S1 H1 R E r := by
  cases r with
  | ok a S' => exact fun H' c' q => h H' c' (f.trans q)
  | err C fs S' => exact fun u o H' c' q => h u o H' c' (f.trans q)
  | bad => exact h
theorem Out.imp {α : Type} {g : G} {c : List Addr} {S : Store} {H : Hp} {R R' : α → List Addr → Store → Hp → Prop} {E : XK} {r : Res α} (h : Out g c S H R E r) (k : ∀ a c' S' H', Fut g c S H c' S' H' → R a c' S' H' → R' a c' S' H') : Out g c S H R' E r := by
  cases r with
  | ok a S' => exact fun H' c' q => k a c' S' H' q (h H' c' q)
  | err C fs S' => exact h
  | bad => exact h
theorem Out.bind {α β : Type} {g : G} {c : List Addr} {S : Store} {H : Hp} {R : β → List Addr → Store → Hp → Prop} {E : XK} {m : M α} {k : α → M β} (h : Out g c S H R E ((m >>= k) S)) :
    Out g c S H (fun a c1 S1 H1 => Out g c1 S1 H1 R E (k a S1)) E (m S) := by
  rw [bind_def] at h
  cases q : m S with
  | ok a S' => rw [q] at h; exact fun H' c' f => h.fut f
  | err C fs S' => rw [q] at h; exact h
  | bad => rw [q] at h; exact h
theorem Out.chk {α : Type} {g : G} {c : List Addr} {S : Store} {H : Hp} {R : α → List Addr → Store → Hp → Prop} {E : XK} {b : Bool} {m : M α} (h : Out g c S H R E (M.chk b m S)) : b = true ∧ Out g c S H R E (m S) := by
  unfold M.chk at h
  cases b with
  | true => exact ⟨rfl, h⟩
  | false => exact h.elim
abbrev RV (g : G) (Q : VK) : D → List Addr → Store → Hp → Prop := fun d c' S' H' => ∀ v, Val g (frz g c' S' H') c' v d → Q v H'
abbrev RB (Q : Bool → Hp → Prop) : Bool → List Addr → Store → Hp → Prop := fun b _ _ H' => Q b H'
abbrev RL (g : G) (Q : List V → Hp → Prop) : List D → List Addr → Store → Hp → Prop := fun ds c' S' H' => ∀ vs, Vls g (frz g c' S' H') c' vs ds → Q vs H'
abbrev WS (W : WX) (σ : St) : XK := fun u o H' => W u o σ H'
def tE (g : G) (W : WX) (m : EM) : TE := fun σ H Q => ∃ c S τ, Rep g c S H ∧ Sl g (frz g c S H) c σ τ ∧ Out g c S H (RV g Q) (WS W σ) (m τ S)
def tT (g : G) (W : WX) (m : TM) : TT := fun σ H Q => ∃ c S τ, Rep g c S H ∧ Sl g (frz g c S H) c σ τ ∧ Out g c S H (RB Q) (WS W σ) (m τ S)
def tAr (g : G) (W : WX) (m : AM) : TA := fun σ H Q => ∃ c S τ, Rep g c S H ∧ Sl g (frz g c S H) c σ τ ∧ Out g c S H (RL g Q) (WS W σ) (m τ S)
def OutS (g : G) (W : WX) (c : List Addr) (S : Store) (H : Hp) (De : Ends) : SRes → Prop
  | .ok (.nx τ) S' => ∀ σ' H' c', Fut g c S H c' S' H' → Sl g (frz g c' S' H') c' σ' τ → De.nx σ' H'
  | .ok (.bk τ) S' => ∀ σ' H' c', Fut g c S H c' S' H' → Sl g (frz g c' S' H') c' σ' τ → De.bk σ' H'
  | .ok (.ct τ) S' => ∀ σ' H' c', Fut g c S H c' S' H' → Sl g (frz g c' S' H') c' σ' τ → De.ct σ' H'
  | .ok (.rt d) S' => ∀ v H' c', Fut g c S H c' S' H' → Val g (frz g c' S' H') c' v d → De.rt v H'
  | .err C fs τ S' => ∀ u o σ' H' c', Fut g c S H c' S' H' → Sl g (frz g c' S' H') c' σ' τ → XRel g (frz g c' S' H') c' u o C fs → W u o σ' H'
  | .bad => False
theorem OutS.fut {g : G} {W : WX} {c c1 : List Addr} {S S1 : Store} {H H1 : Hp} {De : Ends} {r : SRes} (f : Fut g c S H c1 S1 H1) (h : OutS g W c S H De r) : OutS g W c1 S1 H1 De r := by
  cases r with
  | ok fl S' =>
    cases fl with
    | nx τ => exact fun σ' H' c' q => h σ' H' c' (f.trans q)
    | bk τ => exact fun σ' H' c' q => h σ' H' c' (f.trans q)
    | ct τ => exact fun σ' H' c' q => h σ' H' c' (f.trans q)
    | rt d => exact fun σ' H' c' q => h σ' H' c' (f.trans q)
  | err C fs τ S' => exact fun u o σ' H' c' q => h u o σ' H' c' (f.trans q)
  | bad => exact h
def tS (g : G) (W : WX) (m : SM) : TS := fun De σ H => ∃ c S τ, Rep g c S H ∧ Sl g (frz g c S H) c σ τ ∧ OutS g W c S H De (m τ S)
theorem PE.imp {X : Cx} {e : Expr} {t t' : TE} (h : PE X e t) (k : ∀ σ H Q, t' σ H Q → t σ H Q) : PE X e t' := ⟨fun pins s σ H Q I q => h.run pins s σ H Q I (k σ H Q q)⟩
theorem PT.imp {X : Cx} {e : Expr} {t t' : TT} (h : PT X e t) (k : ∀ σ H Q, t' σ H Q → t σ H Q) : PT X e t' := ⟨fun pins s σ H Q I q => h.run pins s σ H Q I (k σ H Q q)⟩
theorem PW.imp {X : Cx} {e : Expr} {t t' : TT} (h : PW X e t) (k : ∀ σ H Q, t' σ H Q → t σ H Q) : PW X e t' := ⟨fun wh pins s σ H Q I q => h.run wh pins s σ H Q I (k σ H Q q)⟩
theorem PA.imp {X : Cx} {e : List Expr} {t t' : TA} (h : PA X e t) (k : ∀ σ H Q, t' σ H Q → t σ H Q) : PA X e t' := ⟨fun pos pins s σ H Q I q => h.run pos pins s σ H Q I (k σ H Q q)⟩
theorem PS.imp {X : Cx} {e : Stmt} {t t' : TS} (h : PS X e t) (k : ∀ De σ H, t' De σ H → t De σ H) : PS X e t' := ⟨fun pins s σ H De I q => h.run pins s σ H De I (k De σ H q)⟩
theorem PSs.imp {X : Cx} {e : List Stmt} {t t' : TS} (h : PSs X e t) (k : ∀ De σ H, t' De σ H → t De σ H) : PSs X e t' := ⟨fun pins s σ H De I q => h.run pins s σ H De I (k De σ H q)⟩
abbrev gx (X : Cx) (cur : Option CuE) (hid : List Addr) : G := ⟨X.K, X.mg, X.prog, X.w, cur, hid⟩
section
variable {X : Cx} {g : G} {W : WX} {a b c e : Expr} {ma mb mc : EM} {pos : Pos}
theorem tE_then {m : EM} {k : D → M D} {σ : St} {H : Hp} {Q Q' : VK} (h : tE g W (fun τ => m τ >>= k) σ H Q')
    (q : ∀ c S H1 v d, Rep g c S H1 → Val g (frz g c S H1) c v d → Out g c S H1 (RV g Q') (WS W σ) (k d S) → Q v H1) : tE g W m σ H Q := by
  obtain ⟨c, S, τ, r, s, o⟩ := h
  exact ⟨c, S, τ, r, s, (Out.bind o).imp fun d c' S' H' f o' v hv => q c' S' H' v d f.rep hv o'⟩
theorem tE_thenS {m : EM} {β : Type} {k : D → DSt → M β} {R : β → List Addr → Store → Hp → Prop} {σ : St} {H : Hp} {Q : VK} (h : ∃ c S τ, Rep g c S H ∧ Sl g (frz g c S H) c σ τ ∧ Out g c S H R (WS W σ) ((m τ >>= fun d => k d τ) S))
    (q : ∀ c S H1 τ v d, Rep g c S H1 → Sl g (frz g c S H1) c σ τ → Val g (frz g c S H1) c v d → Out g c S H1 R (WS W σ) (k d τ S) → Q v H1) : tE g W m σ H Q := by
  obtain ⟨c, S, τ, r, s, o⟩ := h
  exact ⟨c, S, τ, r, s, (Out.bind o).imp fun d c' S' H' f o' v hv => q c' S' H' τ v d f.rep (s.mono f.ex f.pre) hv o'⟩
theorem tT_thenS {m : TM} {β : Type} {k : Bool → DSt → M β} {R : β → List Addr → Store → Hp → Prop} {σ : St} {H : Hp} {Q : Bool → Hp → Prop} (h : ∃ c S τ, Rep g c S H ∧ Sl g (frz g c S H) c σ τ ∧ Out g c S H R (WS W σ) ((m τ >>= fun d => k d τ) S))
    (q : ∀ c S H1 τ d, Rep g c S H1 → Sl g (frz g c S H1) c σ τ → Out g c S H1 R (WS W σ) (k d τ S) → Q d H1) : tT g W m σ H Q := by
  obtain ⟨c, S, τ, r, s, o⟩ := h
  exact ⟨c, S, τ, r, s, (Out.bind o).imp fun d c' S' H' f o' => q c' S' H' τ d f.rep (s.mono f.ex f.pre) o'⟩
theorem tA_thenS {m : AM} {β : Type} {k : List D → DSt → M β} {R : β → List Addr → Store → Hp → Prop} {σ : St} {H : Hp} {Q : List V → Hp → Prop} (h : ∃ c S τ, Rep g c S H ∧ Sl g (frz g c S H) c σ τ ∧ Out g c S H R (WS W σ) ((m τ >>= fun d => k d τ) S))
    (q : ∀ c S H1 τ v d, Rep g c S H1 → Sl g (frz g c S H1) c σ τ → Vls g (frz g c S H1) c v d → Out g c S H1 R (WS W σ) (k d τ S) → Q v H1) : tAr g W m σ H Q := by
  obtain ⟨c, S, τ, r, s, o⟩ := h
  exact ⟨c, S, τ, r, s, (Out.bind o).imp fun d c' S' H' f o' v hv => q c' S' H' τ v d f.rep (s.mono f.ex f.pre) hv o'⟩
def mVar (i : Nat) : EM := fun τ S => match τ[i]? with
  | some (some d) => .ok d S
  | _ => .bad
theorem d_var {i : Nat} {x : Str} {p : Pos} (hN : X.N[i]? = some x := by rfl) (hv : Vis X.env.scope x := by first | exact Or.inl rfl | exact Or.inr (Or.inl rfl) | exact Or.inr (Or.inr rfl)) (hd : (x == ("__debug__" : Str)) = false := by decide)
    (hcd : (x == ("__classdict__" : Str)) = false := by decide) : PE X (.Name x p) (tE g W (mVar i)) := PE.imp (pe_var hN hv hd hcd) fun σ H Q h => by
  obtain ⟨c, S, τ, r, s, o⟩ := h
  unfold mVar at o
  split at o
  · rename_i d e
    obtain ⟨v, h1, h2⟩ := s.get e
    exact ⟨v, h1, o H c (Fut.refl r) v h2⟩
  · exact o.elim
def mC (d : D) : EM := fun _ => pure d
theorem tE_c {d : D} {v : V} (hv : ∀ F c, Val g F c v d) (σ : St) (H : Hp) (Q : VK) (h : tE g W (mC d) σ H Q) : tC v σ H Q := by
  obtain ⟨c, S, τ, r, s, o⟩ := h
  exact o H c (Fut.refl r) v (hv _ _)
theorem d_int {i : Int} {j : Nat} : PE X (.Constant (.int i) j pos) (tE g W (mC (.int i))) := PE.imp pe_int (tE_c fun _ _ => .int i)
theorem d_bl {i : Bool} {j : Nat} : PE X (.Constant (.bool i) j pos) (tE g W (mC (.bl i))) := PE.imp pe_bl (tE_c fun _ _ => .bl i)
theorem d_non {j : Nat} : PE X (.Constant .none j pos) (tE g W (mC .non)) := PE.imp pe_non (tE_c fun _ _ => .non)
theorem d_str {i : Str} {j : Nat} (h : SOk i) : PE X (.Constant (.str i) j pos) (tE g W (mC (.str i))) := PE.imp pe_str (tE_c fun _ _ => .str h)
theorem d_globI {x : Str} {i : Int} {p : Pos} (hg : Gl X x) (hm : ∃ t, X.mg x = some (.int i t)) (hd : (x == ("__debug__" : Str)) = false := by decide) : PE X (.Name x p) (tE g W (mC (.int i))) := by
  obtain ⟨t, hm⟩ := hm
  exact PE.imp (pe_glob (v := .int i) hg hm ⟨t, rfl⟩ hd) (tE_c fun _ _ => .int i)
theorem d_globS {x : Str} {i : Str} {p : Pos} (hg : Gl X x) (hm : ∃ t, X.mg x = some (.str i t)) (hi : SOk i) (hd : (x == ("__debug__" : Str)) = false := by decide) : PE X (.Name x p) (tE g W (mC (.str i))) := by
  obtain ⟨t, hm⟩ := hm
  exact PE.imp (pe_glob (v := .str i) hg hm ⟨t, rfl⟩ hd) (tE_c fun _ _ => .str hi)
theorem d_ty {x : Str} {n : String} {p : Pos} (hg : Gl X x) (hm : X.mg x = none) (hv : bootBuiltins x = some (.type n)) (hn : x ≠ "__name__" := by decide) (hd : (x == ("__debug__" : Str)) = false := by decide) : PE X (.Name x p) (tE g W (mC (.ty n))) :=
  PE.imp (pe_bltn (v := .ty n) hg hm hv rfl hn hd) (tE_c fun _ _ => .ty n)
theorem d_fn {x : Str} {f : Addr} {p : Pos} {cur : Option CuE} {hid : List Addr} (hg : Gl X x) (hm : X.mg x = some (.ref f)) (hd : (x == ("__debug__" : Str)) = false := by decide) : PE X (.Name x p) (tE (gx X cur hid) W (mC (.fn x))) :=
  PE.imp (pe_glob (v := .ref f) hg hm rfl hd) (tE_c fun _ _ => .fn hm)
def OpD (g : G) (r : R2) (op : D → D → M D) : Prop := ∀ (c : List Addr) (S : Store) (H : Hp) (v w : V) (d e : D) (Q : VK) (E : XK), Rep g c S H → Val g (frz g c S H) c v d → Val g (frz g c S H) c w e → Out g c S H (RV g Q) E (op d e S) → r v w H Q
def mBin (op : D → D → M D) (ma mb : EM) : EM := fun τ => ma τ >>= fun x => mb τ >>= fun y => op x y
theorem tE_bin {r : R2} {op : D → D → M D} (ho : OpD g r op) {σ : St} {H : Hp} {Q : VK} (h : tE g W (mBin op ma mb) σ H Q) : tOp r (tE g W ma) (tE g W mb) σ H Q :=
  tE_thenS (k := fun x τ => mb τ >>= fun y => op x y) h fun c S H1 τ v d r1 s1 v1 o1 =>
    ⟨c, S, τ, r1, s1, (Out.bind o1).imp fun e c2 S2 H2 f2 o2 w hw => ho c2 S2 H2 v w d e Q _ f2.rep (f2.val v1) hw o2⟩
theorem d_bin {op : Operator} {r : R2} {f : D → D → M D} (h : OpR X (binaryOp op) r) (ho : OpD g r f) (ha : PE X a (tE g W ma)) (hb : PE X b (tE g W mb)) : PE X (.BinOp a op b pos) (tE g W (mBin f ma mb)) :=
  PE.imp (pe_op h ha hb) fun _ _ _ q => tE_bin ho q
theorem d_cmp {op : CmpOp} {r : R2} {f : D → D → M D} (h : OpR X (compareOp op) r) (ho : OpD g r f) (ha : PE X a (tE g W ma)) (hb : PE X b (tE g W mb)) (hm : behindInMarks op b = false) : PE X (.Compare a [op] [b] pos) (tE g W (mBin f ma mb)) :=
  PE.imp (pe_cmpR h ha hb hm) fun _ _ _ q => tE_bin ho q
def UnD (g : G) (r : V → Hp → VK → Prop) (op : D → M D) : Prop := ∀ (c : List Addr) (S : Store) (H : Hp) (v : V) (d : D) (Q : VK) (E : XK), Rep g c S H → Val g (frz g c S H) c v d → Out g c S H (RV g Q) E (op d S) → r v H Q
def mUn (op : D → M D) (ma : EM) : EM := fun τ => ma τ >>= op
theorem d_un {op : UnaryOp} {r : V → Hp → VK → Prop} {f : D → M D} (h : UnR X (unaryOp op) r) (ho : UnD g r f) (ha : PE X a (tE g W ma)) : PE X (.UnaryOp op a pos) (tE g W (mUn f ma)) :=
  PE.imp (pe_un h ha) fun _ _ Q q => tE_then q fun c S H1 v d r1 v1 o1 => ho c S H1 v d Q _ r1 v1 o1
theorem OpR.or {f : Value → Value → Sem Value} {r r' : R2} (h : OpR X f r) (h' : OpR X f r') : OpR X f (fun x y H Q => r x y H Q ∨ r' x y H Q) := fun pins s σ H x y v u Q I rx ry q =>
  q.elim (h pins s σ H x y v u Q I rx ry) (h' pins s σ H x y v u Q I rx ry)
theorem CallR.or {f : Value} {r r' : List V → Hp → VK → Prop} (h : CallR X f r) (h' : CallR X f r') : CallR X f (fun x H Q => r x H Q ∨ r' x H Q) := fun pins s σ H x u Q I rx q =>
  q.elim (h pins s σ H x u Q I rx) (h' pins s σ H x u Q I rx)
def asB (d : D) : M Bool := match d with
  | .bl b => pure b
  | _ => M.no
def mAsT (m : EM) : TM := fun τ => m τ >>= asB
theorem tT_of {m : EM} {σ : St} {H : Hp} {Q : Bool → Hp → Prop} (h : tT g W (mAsT m) σ H Q) : tE g W m σ H fun x H1 => ∃ k, x = .bl k ∧ Q k H1 := by
  obtain ⟨c, S, τ, r, s, o⟩ := h
  refine ⟨c, S, τ, r, s, (Out.bind o).imp fun d c' S' H' f o' v hv => ?_⟩
  cases hv with
  | bl b => exact ⟨b, rfl, o' H' c' (Fut.refl f.rep)⟩
  | _ => exact o'.elim
theorem dt_val {m : EM} (h : PE X e (tE g W m)) (he : ∀ whole, isTrue e X.env whole = (do let v ← whole; standAt e.pos; holding [v] (truthy v)) := by intro _; rfl) : PT X e (tT g W (mAsT m)) :=
  PT.imp (pt_val h he) fun _ _ _ q => tT_of q
theorem dt_cmp {op : CmpOp} {r : R2} {f : D → D → M D} (h : OpR X (compareOp op) r) (ho : OpD g r f) (ha : PE X a (tE g W ma)) (hb : PE X b (tE g W mb)) (hm : behindInMarks op b = false) : PT X (.Compare a [op] [b] pos) (tT g W (mAsT (mBin f ma mb))) :=
  PT.imp (pt_cmpR h ha hb hm) fun σ H Q q => tE_bin ho (tT_of q)
def mTAnd (m n : TM) : TM := fun τ => m τ >>= fun b => if b = true then n τ else pure false
def mTOr (m n : TM) : TM := fun τ => m τ >>= fun b => if b = true then pure true else n τ
def mTNot (m : TM) : TM := fun τ => m τ >>= fun b => pure (!b)
variable {tA tB' : TM} {rest : List Expr} {op : BoolOp}
theorem dw_and1 (ha : PT X a (tT g W tA)) : PW X (.BoolOp .And [a] pos) (tT g W tA) := pw_and1 ha
theorem dw_or1 (ha : PT X a (tT g W tA)) : PW X (.BoolOp .Or [a] pos) (tT g W tA) := pw_or1 ha
theorem dw_and (ha : PT X a (tT g W tA)) (hb : PW X (.BoolOp .And (b :: rest) pos) (tT g W tB')) : PW X (.BoolOp .And (a :: b :: rest) pos) (tT g W (mTAnd tA tB')) :=
  PW.imp (pw_and ha hb) fun σ H Q h => tT_thenS (k := fun b τ => if b = true then tB' τ else pure false) h fun c S H1 τ d r1 s1 o1 => by
    cases d with
    | true => exact ⟨c, S, τ, r1, s1, o1⟩
    | false => exact o1 H1 c (Fut.refl r1)
theorem dw_or (ha : PT X a (tT g W tA)) (hb : PW X (.BoolOp .Or (b :: rest) pos) (tT g W tB')) : PW X (.BoolOp .Or (a :: b :: rest) pos) (tT g W (mTOr tA tB')) :=
  PW.imp (pw_or ha hb) fun σ H Q h => tT_thenS (k := fun b τ => if b = true then pure true else tB' τ) h fun c S H1 τ d r1 s1 o1 => by
    cases d with
    | true => exact o1 H1 c (Fut.refl r1)
    | false => exact ⟨c, S, τ, r1, s1, o1⟩
theorem dt_not (ha : PT X a (tT g W tA)) : PT X (.UnaryOp .Not a pos) (tT g W (mTNot tA)) :=
  PT.imp (pt_not ha) fun σ H Q h => tT_thenS (k := fun b _ => pure (!b)) h fun c S H1 τ d r1 s1 o1 => o1 H1 c (Fut.refl r1)
def mAnd (m n : EM) : EM := fun τ => m τ >>= asB >>= fun b => if b = true then n τ else pure (.bl false)
def mOr (m n : EM) : EM := fun τ => m τ >>= asB >>= fun b => if b = true then pure (.bl true) else n τ
def notB (d : D) : M D := asB d >>= fun b => pure (.bl (!b))
theorem bind_assoc' {α β γ : Type} (m : M α) (f : α → M β) (h : β → M γ) : (m >>= f >>= h) = (m >>= fun x => f x >>= h) := by
  funext S
  rw [bind_def, bind_def, bind_def]
  cases m S <;> rfl
theorem d_one {m : EM} (h : PE X a (tE g W m)) : PE X (.BoolOp op [a] pos) (tE g W m) := pe_one h
theorem asB_out {β : Type} {c : List Addr} {S : Store} {H : Hp} {v : V} {d : D} {k : Bool → M β} {R : β → List Addr → Store → Hp → Prop} {E : XK} (hv : Val g (frz g c S H) c v d) (o : Out g c S H R E ((asB d >>= k) S)) : ∃ b, v = .bl b ∧ Out g c S H R E (k b S) := by
  cases hv with
  | bl b => exact ⟨b, rfl, o⟩
  | _ => exact o.elim
theorem d_and (ha : PE X a (tE g W ma)) (hb : PE X (.BoolOp .And (b :: rest) pos) (tE g W mb)) : PE X (.BoolOp .And (a :: b :: rest) pos) (tE g W (mAnd ma mb)) :=
  PE.imp (pe_and ha hb) fun σ H Q h => by
    obtain ⟨c, S, τ, r, s, o⟩ := h
    unfold mAnd at o
    rw [bind_assoc'] at o
    refine tE_thenS (k := fun x τ => asB x >>= fun b => if b = true then mb τ else pure (.bl false)) ⟨c, S, τ, r, s, o⟩ fun c S H1 τ v d r1 s1 v1 o1 => ?_
    obtain ⟨k, rfl, o2⟩ := asB_out v1 o1
    refine ⟨k, rfl, ?_⟩
    cases k with
    | true => exact ⟨c, S, τ, r1, s1, o2⟩
    | false => exact o2 H1 c (Fut.refl r1) _ (.bl false)
theorem d_or (ha : PE X a (tE g W ma)) (hb : PE X (.BoolOp .Or (b :: rest) pos) (tE g W mb)) : PE X (.BoolOp .Or (a :: b :: rest) pos) (tE g W (mOr ma mb)) :=
  PE.imp (pe_or ha hb) fun σ H Q h => by
    obtain ⟨c, S, τ, r, s, o⟩ := h
    unfold mOr at o
    rw [bind_assoc'] at o
    refine tE_thenS (k := fun x τ => asB x >>= fun b => if b = true then pure (.bl true) else mb τ) ⟨c, S, τ, r, s, o⟩ fun c S H1 τ v d r1 s1 v1 o1 => ?_
    obtain ⟨k, rfl, o2⟩ := asB_out v1 o1
    refine ⟨k, rfl, ?_⟩
    cases k with
    | false => exact ⟨c, S, τ, r1, s1, o2⟩
    | true => exact o2 H1 c (Fut.refl r1) _ (.bl true)
theorem d_not (ha : PE X a (tE g W ma)) : PE X (.UnaryOp .Not a pos) (tE g W (mUn notB ma)) :=
  PE.imp (pe_not ha) fun σ H Q h => tE_then h fun c S H1 v d r1 v1 o1 => by
    obtain ⟨k, rfl, o2⟩ := asB_out v1 o1
    exact ⟨k, rfl, o2 H1 c (Fut.refl r1) _ (.bl _)⟩
def mIf (t : TM) (ma mb : EM) : EM := fun τ => t τ >>= fun b => if b = true then ma τ else mb τ
theorem d_ifx (hc : PT X c (tT g W tA)) (ha : PE X a (tE g W ma)) (hb : PE X b (tE g W mb)) : PE X (.IfExp c a b pos) (tE g W (mIf tA ma mb)) :=
  PE.imp (pe_ifExp hc ha hb) fun σ H Q h => tT_thenS (k := fun b τ => if b = true then ma τ else mb τ) h fun c S H1 τ d r1 s1 o1 => by
    cases d with
    | true => exact ⟨c, S, τ, r1, s1, o1⟩
    | false => exact ⟨c, S, τ, r1, s1, o1⟩
end
end ND
set_option maxHeartbeats 1000000
namespace ND
open PySem L2
def dr (S : Store) : D → D
  | .cel n => (match S[n]? with
    | some (.lst xs) => .lst xs
    | some (.dct kvs) => .dct kvs
    | some (.ins C fs) => .obj C fs
    | some (.fz d) => d
    | _ => .cel n)
  | d => d
inductive Seen (g : G) (c : List Addr) (S : Store) (H : Hp) : V → D → Prop
  | same {v : V} {d : D} : Val g (frz g c S H) c v d → Seen g c S H v d
  | lst {a : Addr} {vs : List V} {xs : List D} : H a = some (.lst vs) → Vls g (frz g c S H) c vs xs → Seen g c S H (.ref a) (.lst xs)
  | dct {a : Addr} {ws : List (Key × V)} {kvs : List (Key × D)} : H a = some (.dK ws) → VKv g (frz g c S H) c ws kvs → Seen g c S H (.ref a) (.dct kvs)
  | obj {a Ca dx : Addr} {C : Str} {ws : List (Str × V)} {fs : List (Str × D)} : g.mg C = some (.ref Ca) → H a = some (.ins Ca dx ws) → VFs g (frz g c S H) c ws fs → Seen g c S H (.ref a) (.obj C fs)
section
variable {g : G} {c : List Addr} {S : Store} {H : Hp} {v w : V} {d e : D}
theorem dr_seen (r : Rep g c S H) (h : Val g (frz g c S H) c v d) : Seen g c S H v (dr S d) := by
  cases h with
  | cel hn =>
    rename_i a n
    show Seen g c S H (.ref a) (match S[n]? with
      | some (.lst xs) => .lst xs
      | some (.dct kvs) => .dct kvs
      | some (.ins C fs) => .obj C fs
      | some (.fz d) => d
      | _ => .cel n)
    cases q : S[n]? with
    | none => exact .same (.cel hn)
    | some x =>
      have ok := r.ok n a x hn q
      cases x with
      | lst xs => obtain ⟨vs, e, h⟩ := ok; exact .lst e h
      | dct xs => obtain ⟨vs, e, h⟩ := ok; exact .dct e h
      | ins C fs => obtain ⟨Ca, dx, ws, m, e, h⟩ := ok; exact .obj m e h
      | fz d => exact .same ok
      | dead => exact .same (.cel hn)
  | non => exact .same .non
  | bl b => exact .same (.bl b)
  | int i => exact .same (.int i)
  | str h => exact .same (.str h)
  | lst a b => exact .same (.lst a b)
  | rol a b => exact .same (.rol a b)
  | tup a b => exact .same (.tup a b)
  | tpo a b => exact .same (.tpo a b)
  | set a b => exact .same (.set a b)
  | dct a b => exact .same (.dct a b)
  | obj a b c => exact .same (.obj a b c)
  | fn h => exact .same (.fn h)
  | ty n => exact .same (.ty n)
theorem Seen.int {i : Int} (h : Seen g c S H v (.int i)) : v = .int i := by
  cases h with
  | same h => cases h; rfl
theorem Seen.bl {i : Bool} (h : Seen g c S H v (.bl i)) : v = .bl i := by
  cases h with
  | same h => cases h; rfl
theorem Seen.non (h : Seen g c S H v .non) : v = .non := by
  cases h with
  | same h => cases h; rfl
theorem Seen.ty {n : String} (h : Seen g c S H v (.ty n)) : v = .ty n := by
  cases h with
  | same h => cases h; rfl
theorem Seen.str {x : Str} (h : Seen g c S H v (.str x)) : v = .str x ∧ SOk x := by
  cases h with
  | same h => cases h with | str h => exact ⟨rfl, h⟩
theorem Seen.lst' {xs : List D} (h : Seen g c S H v (.lst xs)) : ∃ a vs, v = .ref a ∧ H a = some (.lst vs) ∧ Vls g (frz g c S H) c vs xs := by
  cases h with
  | same h => cases h with | lst h1 h2 => exact ⟨_, _, rfl, (frz_of h1).1, h2⟩
  | lst h1 h2 => exact ⟨_, _, rfl, h1, h2⟩
theorem Seen.rol {xs : List D} (h : Seen g c S H v (.rol xs)) : ∃ a vs, v = .ref a ∧ SqL g.K H a vs ∧ Vls g (frz g c S H) c vs xs := by
  cases h with
  | same h => cases h with | rol h1 h2 => exact ⟨_, _, rfl, Evl.ex_l frz_ex h1, h2⟩
theorem Seen.tup {xs : List D} (h : Seen g c S H v (.tup xs)) : ∃ a vs, v = .ref a ∧ SqT g.K H a vs ∧ Vls g (frz g c S H) c vs xs := by
  cases h with
  | same h => cases h with | tup h1 h2 => exact ⟨_, _, rfl, Evl.ex_t frz_ex h1.sq, h2⟩
theorem Seen.dct' {kvs : List (Key × D)} (h : Seen g c S H v (.dct kvs)) : ∃ a ws, v = .ref a ∧ H a = some (.dK ws) ∧ VKv g (frz g c S H) c ws kvs := by
  cases h with
  | same h => cases h with | dct h1 h2 => exact ⟨_, _, rfl, (frz_of h1).1, h2⟩
  | dct h1 h2 => exact ⟨_, _, rfl, h1, h2⟩
theorem Seen.obj' {C : Str} {fs : List (Str × D)} (h : Seen g c S H v (.obj C fs)) : ∃ a Ca dx ws, v = .ref a ∧ g.mg C = some (.ref Ca) ∧ H a = some (.ins Ca dx ws) ∧ VFs g (frz g c S H) c ws fs := by
  cases h with
  | same h => cases h with | obj h0 h1 h2 => exact ⟨_, _, _, _, rfl, h0, (frz_of h1).1, h2⟩
  | obj h0 h1 h2 => exact ⟨_, _, _, _, rfl, h0, h1, h2⟩
theorem Seen.sqL {xs : List D} (h : Seen g c S H v (.lst xs) ∨ Seen g c S H v (.rol xs)) : ∃ a vs, v = .ref a ∧ SqL g.K H a vs ∧ Vls g (frz g c S H) c vs xs := by
  rcases h with h | h
  · obtain ⟨a, vs, h1, h2, h3⟩ := h.lst'
    exact ⟨a, vs, h1, SqL.of h2, h3⟩
  · exact h.rol
variable {Q : VK} {p : Addr}
theorem at_now {Q : VK} {E : XK} (r : Rep g c S H) (o : Out g c S H (RV g Q) E (.ok d S)) (h : Val g (frz g c S H) c v d) : Q v H := o H c (Fut.refl r) v h
theorem new_lst {E : XK} {vs : List V} {xs : List D} (r : Rep g c S H) (o : Out g c S H (RV g Q) E (.ok (.lst xs) S)) (h : Vls g (frz g c S H) c vs xs) (hp : H p = none) : Q (.ref p) (upd H p (.lst vs)) := by
  have f := Fut.new (o := .lst vs) r hp
  exact o _ c f _ (.lst (Fut.frz_new r hp) (f.vls h))
theorem new_tup {E : XK} {vs : List V} {xs : List D} (r : Rep g c S H) (o : Out g c S H (RV g Q) E (.ok (.tup xs) S)) (h : Vls g (frz g c S H) c vs xs) : NewT H Q vs := fun p ob hp hb => by
  have f := Fut.new (o := .frz ob (.tup vs)) r hp
  exact o _ c f _ (.tup (.inl ⟨ob, hb, Fut.frz_new r hp⟩) (f.vls h))
end
def addD (x y : D) : M D := fun S => match dr S x, dr S y with
  | .int i, .int j => .ok (.int (i + j)) S
  | .str i, .str j => if i.length + j.length ≤ sizeLine then .ok (.str (i ++ j)) S else .bad
  | .lst xs, .lst ys => if xs.length + ys.length ≤ sizeLine then .ok (.lst (xs ++ ys)) S else .bad
  | .tup xs, .tup ys => if xs.length + ys.length ≤ sizeLine then .ok (.tup (xs ++ ys)) S else .bad
  | _, _ => .bad
theorem sOk_append {x y : Str} (h : SOk x) (h' : SOk y) (hl : x.length + y.length ≤ sizeLine) : SOk (x ++ y) := by
  refine ⟨?_, ?_⟩
  · have h1 := h.1
    have h2 := h'.1
    unfold PyData.strOk at *
    show (x.cps ++ y.cps).all _ = true
    rw [Array.all_append, h1, h2]; rfl
  · show (x.cps ++ y.cps).size ≤ sizeLine
    rw [Array.size_append]; exact hl
abbrev rAddD (K : PySem.W.Frag) : R2 := fun x y H Q => (((rI0 fun i j => .int (i + j)) x y H Q ∨ (∃ i j, x = .str i ∧ y = .str j ∧ i.length + j.length ≤ sizeLine ∧ Q (.str (i ++ j)) H)) ∨ rCat x y H Q) ∨ rCatF K x y H Q
theorem or_add {X : Cx} : OpR X (binaryOp .Add) (rAddD X.K) := ((op_add.or op_add_str).or op_cat).or op_catF
theorem od_add {g : G} : OpD g (rAddD g.K) addD := by
  intro c S H v w d e Q E r hv hw o
  have sv := dr_seen r hv
  have sw := dr_seen r hw
  unfold addD at o
  split at o
  · rename_i i j h1 h2
    rw [h1] at sv; rw [h2] at sw
    exact .inl (.inl (.inl ⟨i, j, sv.int, sw.int, at_now r o (.int _)⟩))
  · rename_i i j h1 h2
    rw [h1] at sv; rw [h2] at sw
    obtain ⟨e1, k1⟩ := sv.str
    obtain ⟨e2, k2⟩ := sw.str
    split at o
    · rename_i hl
      exact .inl (.inl (.inr ⟨i, j, e1, e2, hl, at_now r o (.str (sOk_append k1 k2 hl))⟩))
    · exact o.elim
  · rename_i xs ys h1 h2
    rw [h1] at sv; rw [h2] at sw
    obtain ⟨a, vs, e1, k1, l1⟩ := sv.lst'
    obtain ⟨b, ws, e2, k2, l2⟩ := sw.lst'
    split at o
    · rename_i hl
      exact .inl (.inr ⟨a, b, vs, ws, e1, e2, k1, k2, by rw [l1.length, l2.length]; exact hl, fun p hp => new_lst r o (l1.append l2) hp⟩)
    · exact o.elim
  · rename_i xs ys h1 h2
    rw [h1] at sv; rw [h2] at sw
    obtain ⟨a, vs, e1, k1, l1⟩ := sv.tup
    obtain ⟨b, ws, e2, k2, l2⟩ := sw.tup
    split at o
    · rename_i hl
      refine .inr ⟨a, b, vs, ws, e1, e2, k1, k2, by rw [l1.length, l2.length]; exact hl, fun z => ?_, fun z z2 => ?_, fun z z2 => new_tup r o (l1.append l2)⟩
      · subst z
        cases l1
        subst e2
        cases sw with
        | same sw => exact at_now r o sw
      · subst z2
        cases l2
        subst e1
        rw [List.append_nil] at o
        cases sv with
        | same sv => exact at_now r o sv
    · exact o.elim
  · exact o.elim
def intD (C : Int → Int → Bool) (f : Int → Int → D) (x y : D) : M D := match x, y with
  | .int i, .int j => M.chk (C i j) (pure (f i j))
  | _, _ => M.no
theorem od_int {g : G} {C : Int → Int → Bool} {P : Int → Int → Prop} {f : Int → Int → V} {fd : Int → Int → D} (hC : ∀ i j, C i j = true → P i j) (hf : ∀ F c i j, Val g F c (f i j) (fd i j)) : OpD g (rI P f) (intD C fd) := by
  intro c S H v w d e Q E r hv hw o
  cases hv with
  | int i =>
    cases hw with
    | int j =>
      obtain ⟨h, o⟩ := Out.chk o
      exact ⟨i, j, rfl, rfl, hC i j h, at_now r o (hf _ _ i j)⟩
    | _ => exact o.elim
  | _ => exact o.elim
theorem od_int0 {g : G} {f : Int → Int → V} {fd : Int → Int → D} (hf : ∀ F c i j, Val g F c (f i j) (fd i j)) : OpD g (rI0 f) (intD (fun _ _ => true) fd) := by
  intro c S H v w d e Q E r hv hw o
  cases hv with
  | int i =>
    cases hw with
    | int j => exact ⟨i, j, rfl, rfl, at_now r (Out.chk o).2 (hf _ _ i j)⟩
    | _ => exact o.elim
  | _ => exact o.elim
def subD : D → D → M D := intD (fun _ _ => true) fun i j => .int (i - j)
theorem od_sub {g : G} : OpD g (rI0 fun i j => .int (i - j)) subD := od_int0 fun _ _ _ _ => .int _
noncomputable def mulC (i j : Int) : Bool := okP (-(2 ^ 64) < i ∧ i < 2 ^ 64) || okP (-(2 ^ 64) < j ∧ j < 2 ^ 64)
theorem mulC_ok (i j : Int) (h : mulC i j = true) : CMul i j := by
  unfold mulC at h
  rcases Bool.or_eq_true_iff.mp h with h | h
  · exact .inl (okP_of h)
  · exact .inr (okP_of h)
noncomputable def mulID : D → D → M D := intD mulC fun i j => .int (i * j)
theorem od_mulI {g : G} : OpD g (rI CMul fun i j => .int (i * j)) mulID := od_int mulC_ok fun _ _ _ _ => .int _
noncomputable def fdivD : D → D → M D := intD (fun _ j => okP (0 < j ∧ j < 1073741824)) fun i j => .int (i / j)
theorem od_fdiv {g : G} : OpD g (rI CDiv fun i j => .int (i / j)) fdivD := od_int (fun i j h => show 0 < j ∧ j < 1073741824 from okP_of h) fun _ _ _ _ => .int _
def modD : D → D → M D := intD (fun _ j => decide (0 < j)) fun i j => .int (i % j)
theorem od_mod {g : G} : OpD g (rI (fun _ j => 0 < j) fun i j => .int (i % j)) modD := od_int (fun _ _ h => of_decide_eq_true h) fun _ _ _ _ => .int _
noncomputable def powC (i j : Int) : Bool := okP (0 ≤ j ∧ j ≤ 1000000 ∧ i.natAbs < 2 ^ 64)
noncomputable def powD : D → D → M D := intD powC fun i j => .int (i ^ j.toNat)
theorem od_pow {g : G} : OpD g (rI CPow fun i j => .int (i ^ j.toNat)) powD := od_int (fun i j h => show 0 ≤ j ∧ j ≤ 1000000 ∧ i.natAbs < 2 ^ 64 from okP_of h) fun _ _ _ _ => .int _
def shrD : D → D → M D := intD (fun _ j => decide (0 ≤ j)) fun i j => .int (i / 2 ^ j.toNat)
theorem od_shr {g : G} : OpD g (rI (fun _ j => 0 ≤ j) fun i j => .int (i / 2 ^ j.toNat)) shrD := od_int (fun _ _ h => of_decide_eq_true h) fun _ _ _ _ => .int _
def andD : D → D → M D := intD (fun _ _ => true) fun i j => .int (Builtin.bitAnd i j)
theorem od_and {g : G} : OpD g (rI0 fun i j => .int (Builtin.bitAnd i j)) andD := od_int0 fun _ _ _ _ => .int _
def orD : D → D → M D := intD (fun _ _ => true) fun i j => .int (Builtin.bitOr i j)
theorem od_or {g : G} : OpD g (rI0 fun i j => .int (Builtin.bitOr i j)) orD := od_int0 fun _ _ _ _ => .int _
def negD (x : D) : M D := match x with
  | .int i => pure (.int (-i))
  | _ => M.no
theorem ud_neg {g : G} : UnD g (rU fun i => .int (-i)) negD := by
  intro c S H v d Q E r hv o
  cases hv with
  | int i => exact ⟨i, rfl, at_now r o (.int _)⟩
  | _ => exact o.elim
def invD (x : D) : M D := match x with
  | .int i => pure (.int (Builtin.bitNot i))
  | _ => M.no
theorem ud_inv {g : G} : UnD g (rU fun i => .int (Builtin.bitNot i)) invD := by
  intro c S H v d Q E r hv o
  cases hv with
  | int i => exact ⟨i, rfl, at_now r o (.int _)⟩
  | _ => exact o.elim
mutual
def py : D → Option PyData
  | .non => some .none
  | .bl b => some (.bool b)
  | .int i => some (.int i)
  | .str x => some (.str x)
  | .lst xs => (pys xs).map .list
  | .rol xs => (pys xs).map .list
  | .tup xs => (pys xs).map .tuple
  | _ => none
def pys : List D → Option (List PyData)
  | [] => some []
  | x :: xs => (match py x, pys xs with
    | some d, some ds => some (d :: ds)
    | _, _ => none)
end
mutual
theorem dp_of {g : G} {F : Hp} {c : List Addr} : ∀ {v : V} {d : D} {z : PyData}, Val g F c v d → py d = some z → Dp g.K F v z ∧ z.canLay0 = true
  | _, _, _, .non, e => by cases e; exact ⟨.non, by simp [PyData.canLay0]⟩
  | _, _, _, .bl b, e => by cases e; exact ⟨.bl b, by simp [PyData.canLay0]⟩
  | _, _, _, .int i, e => by cases e; exact ⟨.int i, by simp [PyData.canLay0]⟩
  | _, _, _, .str h, e => by cases e; exact ⟨.str _, by simpa [PyData.canLay0] using h.1⟩
  | _, _, _, .lst (xs := xs) h1 h2, e => by
    rw [py] at e
    cases q : pys xs with
    | none => rw [q] at e; cases e
    | some zs =>
      rw [q] at e; cases e
      obtain ⟨h, l⟩ := dps_of h2 q
      exact ⟨.lst (SqL.of h1) h, by simpa [PyData.canLay0] using l⟩
  | _, _, _, .rol (xs := xs) h1 h2, e => by
    rw [py] at e
    cases q : pys xs with
    | none => rw [q] at e; cases e
    | some zs =>
      rw [q] at e; cases e
      obtain ⟨h, l⟩ := dps_of h2 q
      exact ⟨.lst h1 h, by simpa [PyData.canLay0] using l⟩
  | _, _, _, .tup (xs := xs) h1 h2, e => by
    rw [py] at e
    cases q : pys xs with
    | none => rw [q] at e; cases e
    | some zs =>
      rw [q] at e; cases e
      obtain ⟨h, l⟩ := dps_of h2 q
      exact ⟨.tup h1.sq h, by simpa [PyData.canLay0] using l⟩
  | _, _, _, .tpo _ _, e => by cases e
  | _, _, _, .dct _ _, e => by cases e
  | _, _, _, .set _ _, e => by cases e
  | _, _, _, .obj _ _ _, e => by cases e
  | _, _, _, .cel _, e => by cases e
  | _, _, _, .fn _, e => by cases e
  | _, _, _, .ty _, e => by cases e
theorem dps_of {g : G} {F : Hp} {c : List Addr} : ∀ {v : List V} {d : List D} {z : List PyData}, Vls g F c v d → pys d = some z → DpAll g.K F v z ∧ PyData.canLayAll0 z = true
  | _, _, _, .nil, e => by cases e; exact ⟨.nil, by simp [PyData.canLayAll0]⟩
  | _, _, _, .cons (d := d) (xs := xs) h t, e => by
    rw [pys] at e
    cases q1 : py d with
    | none => rw [q1] at e; cases e
    | some z1 =>
      cases q2 : pys xs with
      | none => rw [q1, q2] at e; cases e
      | some z2 =>
        rw [q1, q2] at e; cases e
        obtain ⟨h1, l1⟩ := dp_of h q1
        obtain ⟨h2, l2⟩ := dps_of t q2
        exact ⟨.cons h1 h2, by simp [PyData.canLayAll0, l1, l2]⟩
end
mutual
theorem Dp.mono {K : PySem.W.Frag} {F F' : Hp} (e : Ex F F') : ∀ {v : V} {z : PyData}, Dp K F v z → Dp K F' v z
  | _, _, .non => .non
  | _, _, .bl b => .bl b
  | _, _, .int i => .int i
  | _, _, .str x => .str x
  | _, _, .lst h t => .lst (Evl.ex_l e h) (DpAll.mono e t)
  | _, _, .tup h t => .tup (Evl.ex_t e h) (DpAll.mono e t)
theorem DpAll.mono {K : PySem.W.Frag} {F F' : Hp} (e : Ex F F') : ∀ {v : List V} {z : List PyData}, DpAll K F v z → DpAll K F' v z
  | _, _, .nil => .nil
  | _, _, .cons h t => .cons (Dp.mono e h) (DpAll.mono e t)
end
theorem Seen.dp {g : G} {c : List Addr} {S : Store} {H : Hp} {v : V} {d : D} {z : PyData} (h : Seen g c S H v d) (e : py d = some z) : Dp g.K H v z ∧ z.canLay0 = true := by
  cases h with
  | same h =>
    obtain ⟨h1, h2⟩ := dp_of h e
    exact ⟨Dp.mono frz_ex h1, h2⟩
  | lst h1 h2 =>
    rename_i xs
    rw [py] at e
    cases q : pys xs with
    | none => rw [q] at e; cases e
    | some zs =>
      rw [q] at e; cases e
      obtain ⟨h, l⟩ := dps_of h2 q
      exact ⟨.lst (SqL.of h1) (DpAll.mono frz_ex h), by simpa [PyData.canLay0] using l⟩
  | dct => cases e
  | obj => cases e
def pyD (S : Store) (x : D) : Option PyData := match py (dr S x) with
  | some z => if z.depth ≤ 64 then some z else none
  | none => none
theorem pyD_ok {g : G} {c : List Addr} {S : Store} {H : Hp} {v : V} {d : D} {z : PyData} (r : Rep g c S H) (h : Val g (frz g c S H) c v d) (e : pyD S d = some z) : Dp g.K H v z ∧ SeqAt.shaped z = true := by
  unfold pyD at e
  cases q : py (dr S d) with
  | none => rw [q] at e; cases e
  | some z' =>
    rw [q] at e
    have e' : (if z'.depth ≤ 64 then some z' else none) = some z := e
    split at e'
    · rename_i hd
      cases e'
      obtain ⟨h1, h2⟩ := (dr_seen r h).dp q
      exact ⟨h1, by unfold SeqAt.shaped; rw [h2, decide_eq_true hd]; rfl⟩
    · cases e'
def eqvD (neg : Bool) (x y : D) : M D := fun S => match pyD S x, pyD S y with
  | some a, some b => .ok (.bl (if neg then !PyData.eqv a b else PyData.eqv a b)) S
  | _, _ => .bad
theorem od_eq {g : G} : OpD g (rEqD g.K) (eqvD false) := by
  intro c S H v w d e Q E r hv hw o
  unfold eqvD at o
  split at o
  · rename_i a b h1 h2
    obtain ⟨p1, q1⟩ := pyD_ok r hv h1
    obtain ⟨p2, q2⟩ := pyD_ok r hw h2
    exact ⟨a, b, p1, p2, q1, q2, at_now r o (.bl _)⟩
  · exact o.elim
theorem od_ne {g : G} : OpD g (rNeD g.K) (eqvD true) := by
  intro c S H v w d e Q E r hv hw o
  unfold eqvD at o
  split at o
  · rename_i a b h1 h2
    obtain ⟨p1, q1⟩ := pyD_ok r hv h1
    obtain ⟨p2, q2⟩ := pyD_ok r hw h2
    exact ⟨a, b, p1, p2, q1, q2, at_now r o (.bl _)⟩
  · exact o.elim
def cmpD (f : Int → Int → Bool) (k : List Nat → List Nat → Bool) (x y : D) : M D := match x, y with
  | .int i, .int j => pure (.bl (f i j))
  | .str i, .str j => pure (.bl (k i.cps.toList j.cps.toList))
  | _, _ => M.no
abbrev rCmpD (f : Int → Int → Bool) (k : List Nat → List Nat → Bool) : R2 := fun x y H Q => (rI0 fun i j => .bl (f i j)) x y H Q ∨ ∃ i j, x = .str i ∧ y = .str j ∧ Q (.bl (k i.cps.toList j.cps.toList)) H
theorem od_cmp {g : G} {f : Int → Int → Bool} {k : List Nat → List Nat → Bool} : OpD g (rCmpD f k) (cmpD f k) := by
  intro c S H v w d e Q E r hv hw o
  cases hv with
  | int i =>
    cases hw with
    | int j => exact .inl ⟨i, j, rfl, rfl, at_now r o (.bl _)⟩
    | _ => exact o.elim
  | str h =>
    cases hw with
    | str h' => exact .inr ⟨_, _, rfl, rfl, at_now r o (.bl _)⟩
    | _ => exact o.elim
  | _ => exact o.elim
def ltD := cmpD (fun i j => decide (i < j)) (fun a b => decide (a < b))
def leD := cmpD (fun i j => decide (i ≤ j)) (fun a b => !decide (b < a))
def gtD := cmpD (fun i j => decide (j < i)) (fun a b => decide (b < a))
def geD := cmpD (fun i j => decide (j ≤ i)) (fun a b => !decide (a < b))
theorem or_lt {X : Cx} : OpR X (compareOp .Lt) (rCmpD (fun i j => decide (i < j)) (fun a b => decide (a < b))) := op_lt.or op_lt_str
theorem or_le {X : Cx} : OpR X (compareOp .LtE) (rCmpD (fun i j => decide (i ≤ j)) (fun a b => !decide (b < a))) := op_le.or op_le_str
theorem or_gt {X : Cx} : OpR X (compareOp .Gt) (rCmpD (fun i j => decide (j < i)) (fun a b => decide (b < a))) := op_gt.or op_gt_str
theorem or_ge {X : Cx} : OpR X (compareOp .GtE) (rCmpD (fun i j => decide (j ≤ i)) (fun a b => !decide (a < b))) := op_ge.or op_ge_str
def isD (neg : Bool) (x y : D) : M D := match x, y with
  | .bl a, .bl b => pure (.bl (if neg then !decide (a = b) else decide (a = b)))
  | .non, .non => pure (.bl (!neg))
  | .str _, .bl _ => pure (.bl neg)
  | .int _, .non | .str _, .non | .bl _, .non | .lst _, .non | .tup _, .non | .dct _, .non | .obj _ _, .non | .cel _, .non | .fn _, .non => pure (.bl neg)
  | _, _ => M.no
abbrev rIsD (neg : Bool) : R2 := fun x y H Q => (y = .non ∧ Q (.bl (if neg then !decide (x = .non) else decide (x = .non))) H) ∨ (∃ a b, x = .bl a ∧ y = .bl b ∧ Q (.bl (if neg then !decide (a = b) else decide (a = b))) H) ∨ ∃ z b, x = .str z ∧ y = .bl b ∧ Q (.bl neg) H
theorem op_isT {X : Cx} : OpR X (compareOp .Is) (fun x y H Q => ∃ z b, x = .str z ∧ y = .bl b ∧ Q (.bl false) H) := fun ps sh st G x y v u Q inv rx ry ⟨z, b, ex, ey, q⟩ => by
  subst ex ey
  obtain ⟨t, rfl⟩ := rx
  obtain rfl : u = Value.bool b := ry
  exact wpAny_is_other rfl (by intro e; cases e) ⟨.bl false, G, inv, rfl, q⟩
theorem op_isnotT {X : Cx} : OpR X (compareOp .IsNot) (fun x y H Q => ∃ z b, x = .str z ∧ y = .bl b ∧ Q (.bl true) H) := fun ps sh st G x y v u Q inv rx ry ⟨z, b, ex, ey, q⟩ => by
  subst ex ey
  obtain ⟨t, rfl⟩ := rx
  obtain rfl : u = Value.bool b := ry
  exact wpAny_isNot_other rfl (by intro e; cases e) ⟨.bl true, G, inv, rfl, q⟩
theorem or_is {X : Cx} : OpR X (compareOp .Is) (rIsD false) := op_isN.or (op_is_bl.or op_isT)
theorem or_isnot {X : Cx} : OpR X (compareOp .IsNot) (rIsD true) := op_notN.or (op_isnot_bl.or op_isnotT)
theorem od_is {g : G} {neg : Bool} : OpD g (rIsD neg) (isD neg) := by
  intro c S H v w d e Q E r hv hw o
  have no : ∀ {u : V}, u ≠ .non → (if neg then !decide (u = .non) else decide (u = .non)) = neg := fun {u} h => by
    cases neg <;> simp [h]
  cases hw with
  | non =>
    cases hv with
    | non => exact .inl ⟨rfl, by cases neg <;> exact at_now r o (.bl _)⟩
    | bl b => exact .inl ⟨rfl, by rw [no (by intro z; cases z)]; exact at_now r o (.bl _)⟩
    | int b => exact .inl ⟨rfl, by rw [no (by intro z; cases z)]; exact at_now r o (.bl _)⟩
    | str b => exact .inl ⟨rfl, by rw [no (by intro z; cases z)]; exact at_now r o (.bl _)⟩
    | lst _ _ => exact .inl ⟨rfl, by rw [no (by intro z; cases z)]; exact at_now r o (.bl _)⟩
    | tup _ _ => exact .inl ⟨rfl, by rw [no (by intro z; cases z)]; exact at_now r o (.bl _)⟩
    | cel _ => exact .inl ⟨rfl, by rw [no (by intro z; cases z)]; exact at_now r o (.bl _)⟩
    | fn _ => exact .inl ⟨rfl, by rw [no (by intro z; cases z)]; exact at_now r o (.bl _)⟩
    | dct _ _ => exact .inl ⟨rfl, by rw [no (by intro z; cases z)]; exact at_now r o (.bl _)⟩
    | obj _ _ _ => exact .inl ⟨rfl, by rw [no (by intro z; cases z)]; exact at_now r o (.bl _)⟩
    | _ => exact o.elim
  | bl b =>
    cases hv with
    | bl a => exact .inr (.inl ⟨a, b, rfl, rfl, at_now r o (.bl _)⟩)
    | str _ => exact .inr (.inr ⟨_, b, rfl, rfl, at_now r o (.bl _)⟩)
    | _ => exact o.elim
  | _ => cases hv <;> exact o.elim
end ND
namespace ND
open PySem L2
section
variable {X : Cx} {g : G} {W : WX} {a b e o : Expr} {es : List Expr} {m ma mb mo : EM} {ms : AM} {pos : Pos} {cur : Option CuE} {hid : List Addr}
def mNil : AM := fun _ => pure []
def mCons (m : EM) (ms : AM) : AM := fun τ => m τ >>= fun x => ms τ >>= fun xs => pure (x :: xs)
theorem d_anil : PA X [] (tAr g W mNil) := PA.imp pa_nil fun σ H Q h => by
  obtain ⟨c, S, τ, r, s, o⟩ := h
  exact o H c (Fut.refl r) [] .nil
theorem d_acons (ha : PE X e (tE g W m)) (hr : PA X es (tAr g W ms)) (hs : starEach (e :: es) X.env = (false, eval e X.env) :: starEach es X.env := by rfl) : PA X (e :: es) (tAr g W (mCons m ms)) :=
  PA.imp (pa_cons ha hr hs) fun σ H Q h => tE_thenS (k := fun x τ => ms τ >>= fun xs => pure (x :: xs)) h fun c S H1 τ v d r1 s1 v1 o1 =>
    ⟨c, S, τ, r1, s1, (Out.bind o1).imp fun ds c2 S2 H2 f2 o2 vs hvs => o2 H2 c2 (Fut.refl f2.rep) (v :: vs) (.cons (f2.val v1) hvs)⟩
def mTup (ms : AM) : EM := fun τ => ms τ >>= fun xs => M.chk (decide (xs.length ≤ sizeLine)) (pure (.tup xs))
def mLst (ms : AM) : EM := fun τ => ms τ >>= fun xs => M.chk (decide (xs.length ≤ sizeLine)) (pure (.lst xs))
def newCell (x : Cell) : M D := fun S => .ok (.cel S.length) (S ++ [x])
def mLstC (ms : AM) : EM := fun τ => ms τ >>= fun xs => M.chk (decide (xs.length ≤ sizeLine)) (newCell (.lst xs))
theorem d_tup {k : Nat} (h : PA X es (tAr g W ms)) : PE X (.Tuple es k pos) (tE g W (mTup ms)) :=
  PE.imp (pe_tupF h) fun σ H Q h => tA_thenS (R := RV g Q) (k := fun xs _ => M.chk (decide (xs.length ≤ sizeLine)) (pure (D.tup xs))) h fun c S H1 τ vs ds r1 s1 v1 o1 => by
    obtain ⟨hl, o2⟩ := Out.chk o1
    exact ⟨by rw [v1.length]; exact of_decide_eq_true hl, new_tup r1 o2 v1⟩
theorem d_lst (h : PA X es (tAr g W ms)) : PE X (.List es pos) (tE g W (mLst ms)) :=
  PE.imp (pe_lst h) fun σ H Q h => tA_thenS (R := RV g Q) (k := fun xs _ => M.chk (decide (xs.length ≤ sizeLine)) (pure (D.lst xs))) h fun c S H1 τ vs ds r1 s1 v1 o1 => by
    obtain ⟨hl, o2⟩ := Out.chk o1
    exact ⟨by rw [v1.length]; exact of_decide_eq_true hl, fun p hp => new_lst r1 o2 v1 hp⟩
theorem snoc_at (c : List Addr) (S : Store) (p : Addr) (h : c.length = S.length) : (c ++ [p])[S.length]? = some p := by rw [← h]; simp
theorem new_cell {c : List Addr} {S : Store} {H : Hp} {Q : VK} {p : Addr} {E : XK} {x : Cell} {o : HO} (r : Rep g c S H) (hx : x.alive = true) (ok : CellOk g (frz g c S H) c (upd H p o) p x) (q : Out g c S H (RV g Q) E (newCell x S)) (hp : H p = none) : Q (.ref p) (upd H p o) := by
  have f := Fut.cell (o := o) r hp hx ok
  exact q _ _ f _ (.cel (snoc_at c S p r.len))
theorem d_lstC (h : PA X es (tAr g W ms)) : PE X (.List es pos) (tE g W (mLstC ms)) :=
  PE.imp (pe_lst h) fun σ H Q h => tA_thenS (k := fun xs _ => M.chk (decide (xs.length ≤ sizeLine)) (newCell (.lst xs))) h fun c S H1 τ vs ds r1 s1 v1 o1 => by
    obtain ⟨hl, o2⟩ := Out.chk o1
    exact ⟨by rw [v1.length]; exact of_decide_eq_true hl, fun p hp => new_cell (x := .lst ds) r1 rfl ⟨vs, upd_same, v1⟩ o2 hp⟩
def keyOf : D → Option Key
  | .int i => some (.inl i)
  | .str x => some (.inr x)
  | _ => none
theorem keyOf_val {F : Hp} {c : List Addr} {v : V} {d : D} {k : Key} (h : Val g F c v d) (e : keyOf d = some k) : v = kV k := by
  cases h with
  | int i => cases e; rfl
  | str h => cases e; rfl
  | _ => cases e
def valD (kvs : List (Key × D)) (k : Key) : Option D := (kvs.find? fun kv => decide (kv.1 = k)).map (·.2)
theorem VKv.val {F : Hp} {c : List Addr} : ∀ {ws : List (Key × V)} {kvs : List (Key × D)} {k : Key}, VKv g F c ws kvs → (valD kvs k = none ∧ valV ws k = none) ∨ ∃ v d, valD kvs k = some d ∧ valV ws k = some v ∧ Val g F c v d
  | _, _, _, .nil => .inl ⟨rfl, rfl⟩
  | _, _, k, .cons (k := k') (v := v) (d := d) (vs := vs) (xs := xs) h t => by
    by_cases e : k' = k
    · refine .inr ⟨v, d, ?_, ?_, h⟩
      · simp [valD, List.find?_cons, e]
      · simp [valV, List.find?_cons, e]
    · have e1 : valD ((k', d) :: xs) k = valD xs k := by simp [valD, List.find?_cons, e]
      have e2 : valV ((k', v) :: vs) k = valV vs k := by simp [valV, List.find?_cons, e]
      rw [e1, e2]
      exact VKv.val t
def ixD (x y : D) : M D := fun S => match dr S x, y with
  | .lst xs, .int i | .rol xs, .int i | .tup xs, .int i => (match atI xs i with
    | some d => .ok d S
    | none => .bad)
  | .str z, .int i => (match atI z.cps.toList i with
    | some c => .ok (.str ⟨#[c]⟩) S
    | none => .bad)
  | .dct kvs, k => (match keyOf k with
    | some k => (match valD kvs k with
      | some d => .ok d S
      | none => .bad)
    | none => .bad)
  | _, _ => .bad
abbrev rIxDc : R2 := fun x y H Q => ∃ a v, x = .ref a ∧ DGet H a y (some v) ∧ Q v H
theorem ix_dict (hu : X.A.units + 1 < cLine) : IxR X rIxDc := by
  intro value slice pins s σ H x y v u Q I rx ry h hs
  obtain ⟨a, w, rfl, dg, q⟩ := h
  cases rx
  have hT := dict_typeIs I dg
  refine PyProof.Rows.tail_any (ops := [.ref a, u]) hT PySem.F.slot_dict_getitem.lookup ?_ hs
  exact d_getItem hu I dg ry fun w' s3 I3 rw' => ⟨w, H, I3, rw', q⟩
theorem atI_vls {F : Hp} {c : List Addr} {vs : List V} {xs : List D} {i : Int} {d : D} (h : Vls g F c vs xs) (e : atI xs i = some d) : ∃ v, atI vs i = some v ∧ Val g F c v d := by
  unfold atI at *
  rw [h.length]
  cases q : ixN xs.length i with
  | none => rw [q] at e; cases e
  | some j =>
    rw [q] at e
    exact h.get e
theorem strOk_mem {x : Str} (h : SOk x) {c : Nat} (hc : c ∈ x.cps.toList) : c < 0x110000 := by
  have h1 := h.1
  unfold PyData.strOk at h1
  rw [Array.all_eq_true'] at h1
  exact of_decide_eq_true (h1 c (by simpa using hc))
theorem sOk_one {c : Nat} (h : c < 0x110000) : SOk ⟨#[c]⟩ := by
  refine ⟨?_, ?_⟩
  · unfold PyData.strOk
    simp [h]
  · show 1 ≤ sizeLine
    decide
theorem atI_mem {α : Type} {xs : List α} {i : Int} {d : α} (e : atI xs i = some d) : d ∈ xs := by
  unfold atI at e
  cases q : ixN xs.length i with
  | none => rw [q] at e; cases e
  | some j => rw [q] at e; exact List.mem_of_getElem? e
theorem od_ix : OpD g (fun x y H Q => rIx g.K x y H Q ∨ rIxDc x y H Q) ixD := by
  intro c S H v w d e Q E r hv hw o
  have sv := dr_seen r hv
  unfold ixD at o
  split at o
  · rename_i xs i h1
    rw [h1] at sv
    obtain ⟨a, vs, e1, k1, l1⟩ := sv.lst'
    cases hw
    split at o
    · rename_i z hz
      obtain ⟨u, h2, h3⟩ := atI_vls l1 hz
      exact .inl (.inl ⟨a, vs, i, u, e1, rfl, SqL.of k1, h2, at_now r o h3⟩)
    · exact o.elim
  · rename_i xs i h1
    rw [h1] at sv
    obtain ⟨a, vs, e1, k1, l1⟩ := sv.rol
    cases hw
    split at o
    · rename_i z hz
      obtain ⟨u, h2, h3⟩ := atI_vls l1 hz
      exact .inl (.inl ⟨a, vs, i, u, e1, rfl, k1, h2, at_now r o h3⟩)
    · exact o.elim
  · rename_i xs i h1
    rw [h1] at sv
    obtain ⟨a, vs, e1, k1, l1⟩ := sv.tup
    cases hw
    split at o
    · rename_i z hz
      obtain ⟨u, h2, h3⟩ := atI_vls l1 hz
      exact .inl (.inr (.inl ⟨a, vs, i, u, e1, rfl, k1, h2, at_now r o h3⟩))
    · exact o.elim
  · rename_i z i h1
    rw [h1] at sv
    obtain ⟨e1, k1⟩ := sv.str
    cases hw
    split at o
    · rename_i u hz
      exact .inl (.inr (.inr ⟨z, i, u, e1, rfl, k1.2, hz, at_now r o (.str (sOk_one (strOk_mem k1 (atI_mem hz))))⟩))
    · exact o.elim
  · rename_i kvs h1
    rw [h1] at sv
    obtain ⟨a, ws, e1, k1, l1⟩ := sv.dct'
    split at o
    · rename_i k hk
      have ew := keyOf_val hw hk
      rcases l1.val (k := k) with ⟨h2, h3⟩ | ⟨u, z, h2, h3, h4⟩
      · rw [h2] at o; exact o.elim
      · rw [h2] at o
        refine .inr ⟨a, u, e1, ?_, at_now r o h4⟩
        subst ew
        rw [← h3]
        exact DGet.k k1
    · exact o.elim
  · exact o.elim
theorem d_ix (hu : X.A.units + 1 < cLine) (ha : PE X a (tE (gx X cur hid) W ma)) (hb : PE X b (tE (gx X cur hid) W mb)) (hs : PlainIx b) : PE X (.Subscript a b pos) (tE (gx X cur hid) W (mBin ixD ma mb)) :=
  PE.imp (pe_ix (ix_seq.or (ix_dict hu)) ha hb hs) fun _ _ _ q => tE_bin od_ix q
abbrev OM := DSt → M (Option Int)
def mNoPart : OM := fun _ => pure none
def asI (d : D) : M Int := match d with
  | .int i => pure i
  | _ => M.no
def mPart (m : EM) : OM := fun τ => m τ >>= asI >>= fun i => pure (some i)
abbrev RO (Q : Option Int → Hp → Prop) : Option Int → List Addr → Store → Hp → Prop := fun b _ _ H' => Q b H'
def tO (g : G) (W : WX) (m : OM) : TO := fun σ H Q => ∃ c S τ, Rep g c S H ∧ Sl g (frz g c S H) c σ τ ∧ Out g c S H (RO Q) (WS W σ) (m τ S)
theorem PO.imp {e : Option Expr} {t t' : TO} (h : PO X e t) (k : ∀ σ H Q, t' σ H Q → t σ H Q) : PO X e t' := ⟨fun pins s σ H Q I q => h.run pins s σ H Q I (k σ H Q q)⟩
theorem d_po0 : PO X none (tO g W mNoPart) := PO.imp po_none fun σ H Q h => by
  obtain ⟨c, S, τ, r, s, o⟩ := h
  exact o H c (Fut.refl r)
theorem d_po (h : PE X e (tE g W m)) : PO X (some e) (tO g W (mPart m)) := PO.imp (po_some h) fun σ H Q h => by
  obtain ⟨c, S, τ, r, s, o⟩ := h
  unfold mPart at o
  rw [bind_assoc'] at o
  refine ⟨c, S, τ, r, s, (Out.bind o).imp fun d c' S' H' f o' v hv => ?_⟩
  cases hv with
  | int i => exact ⟨i, rfl, o' H' c' (Fut.refl f.rep)⟩
  | _ => exact o'.elim
def cut {α : Type} (xs : List α) (lo hi : Option Int) : List α := (xs.drop (HT.sIx xs.length 0 lo)).take (HT.sIx xs.length xs.length hi - HT.sIx xs.length 0 lo)
theorem Vls.cut {F : Hp} {c : List Addr} {vs : List V} {xs : List D} (h : Vls g F c vs xs) (lo hi : Option Int) : Vls g F c (cutV vs lo hi) (ND.cut xs lo hi) := by
  unfold cutV ND.cut
  rw [h.length]
  exact (h.drop _).take _
theorem cut_whole {α : Type} (xs : List α) (lo hi : Option Int) (h : HT.sIx xs.length 0 lo = 0 ∧ HT.sIx xs.length xs.length hi = xs.length) : cut xs lo hi = xs := by
  unfold cut
  rw [h.1, h.2]
  simp
theorem sOk_cut {z : Str} (h : SOk z) (lo hi : Option Int) : SOk (cutS z lo hi) := by
  refine ⟨?_, ?_⟩
  · unfold PyData.strOk
    rw [Array.all_eq_true']
    intro c hc
    have : c ∈ z.cps.toList := by
      have hc' : c ∈ ((z.cps.toList.drop (HT.sIx z.length 0 lo)).take (HT.sIx z.length z.length hi - HT.sIx z.length 0 lo)) := by simpa [cutS] using hc
      exact List.mem_of_mem_drop (List.mem_of_mem_take hc')
    exact decide_eq_true (strOk_mem h this)
  · show (cutS z lo hi).cps.size ≤ sizeLine
    have : (cutS z lo hi).cps.size ≤ z.cps.toList.length := by
      unfold cutS
      simp only [List.size_toArray, List.length_take, List.length_drop]
      omega
    exact Nat.le_trans this (by rw [Array.length_toList]; exact h.2)
def slD (x : D) (lo hi : Option Int) : M D := fun S => match dr S x with
  | .lst xs | .rol xs => .ok (.lst (cut xs lo hi)) S
  | .tup xs => .ok (.tup (cut xs lo hi)) S
  | .str z => .ok (.str (cutS z lo hi)) S
  | _ => .bad
abbrev rSlD (K : PySem.W.Frag) : V → Option Int → Option Int → Hp → VK → Prop := fun x lo hi H Q => (rSlL K x lo hi H Q ∨ rSlF K x lo hi H Q) ∨ rSlS x lo hi H Q
theorem sl_ok {c : List Addr} {S : Store} {H : Hp} {v : V} {d : D} {lo hi : Option Int} {Q : VK} {E : XK} (r : Rep g c S H) (hv : Val g (frz g c S H) c v d) (o : Out g c S H (RV g Q) E (slD d lo hi S)) : rSlD g.K v lo hi H Q := by
  have sv := dr_seen r hv
  unfold slD at o
  split at o
  · rename_i xs h1
    rw [h1] at sv
    obtain ⟨a, vs, e1, k1, l1⟩ := sv.lst'
    exact .inl (.inl ⟨a, vs, e1, SqL.of k1, fun p hp => new_lst r o (l1.cut lo hi) hp⟩)
  · rename_i xs h1
    rw [h1] at sv
    obtain ⟨a, vs, e1, k1, l1⟩ := sv.rol
    exact .inl (.inl ⟨a, vs, e1, k1, fun p hp => new_lst r o (l1.cut lo hi) hp⟩)
  · rename_i xs h1
    rw [h1] at sv
    obtain ⟨a, vs, e1, k1, l1⟩ := sv.tup
    refine .inl (.inr ⟨a, vs, e1, k1, fun hw => ?_, fun _ => new_tup r o (l1.cut lo hi)⟩)
    rw [l1.length] at hw
    rw [cut_whole xs lo hi hw] at o
    subst e1
    cases sv with
    | same sv => exact at_now r o sv
  · rename_i z h1
    rw [h1] at sv
    obtain ⟨e1, k1⟩ := sv.str
    exact .inr ⟨z, e1, k1.2, at_now r o (.str (sOk_cut k1 lo hi))⟩
  · exact o.elim
def mSl (m : EM) (ml mh : OM) : EM := fun τ => m τ >>= fun x => ml τ >>= fun lo => mh τ >>= fun hi => slD x lo hi
theorem d_sl {lo hi : Option Expr} {ml mh : OM} {p2 : Pos} (he : PE X e (tE (gx X cur hid) W m)) (hl : PO X lo (tO (gx X cur hid) W ml)) (hh : PO X hi (tO (gx X cur hid) W mh)) : PE X (.Subscript e (.Slice lo hi none p2) pos) (tE (gx X cur hid) W (mSl m ml mh)) :=
  PE.imp (pe_slice ((sl_list.or sl_tupF).or sl_str) he hl hh) fun σ H Q h => tE_thenS (k := fun x τ => ml τ >>= fun lo => mh τ >>= fun hi => slD x lo hi) h fun c S H1 τ v d r1 s1 v1 o1 =>
    ⟨c, S, τ, r1, s1, (Out.bind o1).imp fun lo c2 S2 H2 f2 o2 => ⟨c2, S2, τ, f2.rep, s1.mono f2.ex f2.pre, (Out.bind o2).imp fun hi c3 S3 H3 f3 o3 => sl_ok f3.rep (f3.val (f2.val v1)) o3⟩⟩
def strIn (w z : Str) : Bool := if w.cps.size = 1 then decide (w.cps.getD 0 0 ∈ z.cps.toList) else !(Builtin.Str.occurrences z w 0 z.length 1).isEmpty
def flatP : PyData → Bool
  | .none | .bool _ | .int _ | .str _ => true
  | _ => false
def inB (x y : D) (S : Store) : Option Bool := match dr S y with
  | .str z => (match x with
    | .str w => some (strIn w z)
    | _ => none)
  | .dct kvs => (match keyOf x with
    | some k => some (valD kvs k).isSome
    | none => none)
  | .tup _ => (match pyD S x, pyD S y with
    | some a, some (.tuple ds) => if flatP a && ds.all flatP then some (ds.any fun z => PyData.eqv z a) else none
    | _, _ => none)
  | _ => (match pyD S x, pyD S y with
    | some a, some (.list ds) => some (ds.any fun z => PyData.eqv z a)
    | _, _ => none)
def inD (neg : Bool) (x y : D) : M D := fun S => match inB x y S with
  | some b => .ok (.bl (if neg then !b else b)) S
  | none => .bad
theorem dp_flat {K : PySem.W.Frag} {H : Hp} {v : V} {z : PyData} (h : Dp K H v z) (f : flatP z = true) : flatV v = true ∧ ∀ {w : V} {y : PyData}, Dp K H w y → flatP y = true → eqV v w = PyData.eqv z y := by
  cases h with
  | non =>
    refine ⟨rfl, fun hw fy => ?_⟩
    cases hw <;> first | rfl | cases fy
  | bl b =>
    refine ⟨rfl, fun hw fy => ?_⟩
    cases hw <;> first | rfl | cases fy
  | int b =>
    refine ⟨rfl, fun hw fy => ?_⟩
    cases hw <;> first | rfl | cases fy
  | str b =>
    refine ⟨rfl, fun hw fy => ?_⟩
    cases hw <;> first | rfl | cases fy
  | lst _ _ => cases f
  | tup _ _ => cases f
theorem dps_flat {K : PySem.W.Frag} {H : Hp} {w : V} {y : PyData} (hw : Dp K H w y) (fy : flatP y = true) : ∀ {vs : List V} {zs : List PyData}, DpAll K H vs zs → zs.all flatP = true → vs.all flatV = true ∧ inV w vs = zs.any fun z => PyData.eqv z y
  | _, _, .nil, _ => ⟨rfl, rfl⟩
  | _, _, .cons h t, f => by
    rw [List.all_cons, Bool.and_eq_true] at f
    obtain ⟨h1, h2⟩ := dps_flat hw fy t f.2
    obtain ⟨h3, h4⟩ := dp_flat h f.1
    refine ⟨by rw [List.all_cons, h1, h3]; rfl, ?_⟩
    unfold inV at *
    rw [List.any_cons, List.any_cons, h2, h4 hw fy]
abbrev rInS (neg : Bool) : R2 := fun x y H Q => ∃ i j, x = .str i ∧ y = .str j ∧ Q (.bl (if neg then !strIn i j else strIn i j)) H
theorem one_of {w : Str} (h : w.cps.size = 1) : w = ⟨#[w.cps.getD 0 0]⟩ := by
  obtain ⟨a⟩ := w
  obtain ⟨l⟩ := a
  cases l with
  | nil => cases h
  | cons x l =>
    cases l with
    | nil => rfl
    | cons y l => simp at h
theorem or_inS : OpR X (compareOp .In) (rInS false) := by
  intro pins s σ H x y v u Q I rx ry q
  obtain ⟨i, j, e1, e2, q⟩ := q
  have q : Q (.bl (strIn i j)) H := q
  by_cases h : i.cps.size = 1
  · unfold strIn at q
    rw [if_pos h] at q
    refine op_in_sign pins s σ H x y v u Q I rx ry ⟨i.cps.getD 0 0, j, ?_, e2, q⟩
    rw [e1]
    exact congrArg V.str (one_of h)
  · unfold strIn at q
    rw [if_neg h] at q
    exact op_in_str pins s σ H x y v u Q I rx ry ⟨i, j, e1, e2, q⟩
theorem or_notInS : OpR X (compareOp .NotIn) (rInS true) := by
  intro pins s σ H x y v u Q I rx ry q
  obtain ⟨i, j, e1, e2, q⟩ := q
  have q : Q (.bl (!strIn i j)) H := q
  by_cases h : i.cps.size = 1
  · unfold strIn at q
    rw [if_pos h] at q
    refine op_notIn_sign pins s σ H x y v u Q I rx ry ⟨i.cps.getD 0 0, j, ?_, e2, q⟩
    rw [e1]
    exact congrArg V.str (one_of h)
  · unfold strIn at q
    rw [if_neg h] at q
    exact op_notin_str pins s σ H x y v u Q I rx ry ⟨i, j, e1, e2, q⟩
abbrev rDin (neg : Bool) : R2 := fun y x H Q => ∃ a o, x = .ref a ∧ DGet H a y o ∧ Q (.bl (if neg then !o.isSome else o.isSome)) H
theorem or_din (hu : X.A.units + 1 < cLine) : OpR X (compareOp .In) (rDin false) := by
  intro pins s σ H x y v u Q I rx ry q
  obtain ⟨a, o, rfl, dg, q⟩ := q
  cases ry
  exact d_in hu I dg rx fun s3 I3 => ⟨.bl o.isSome, H, I3, rfl, q⟩
theorem or_dnotin (hu : X.A.units + 1 < cLine) : OpR X (compareOp .NotIn) (rDin true) := by
  intro pins s σ H x y v u Q I rx ry q
  obtain ⟨a, o, rfl, dg, q⟩ := q
  cases ry
  exact d_notIn hu I dg rx fun s3 I3 => ⟨.bl (!o.isSome), H, I3, rfl, q⟩
abbrev rInLst (K : PySem.W.Frag) (neg : Bool) : R2 := fun x y H Q => ∃ d ds, Dp K H x d ∧ Dp K H y (.list ds) ∧ SeqAt.shaped d = true ∧ SeqAt.shaped (.list ds) = true ∧ Q (.bl (if neg then !ds.any fun z => PyData.eqv z d else ds.any fun z => PyData.eqv z d)) H
abbrev rInAny (K : PySem.W.Frag) (neg : Bool) : R2 := fun x y H Q => ((rInS neg x y H Q ∨ rDin neg x y H Q) ∨ rIn K neg x y H Q) ∨ rInLst K neg x y H Q
theorem or_in (hu : X.A.units + 65 < cLine) : OpR X (compareOp .In) (rInAny X.K false) := ((or_inS.or (or_din (by omega))).or op_in_seq).or (op_inD hu)
theorem or_notin (hu : X.A.units + 65 < cLine) : OpR X (compareOp .NotIn) (rInAny X.K true) := ((or_notInS.or (or_dnotin (by omega))).or op_notIn_seq).or (op_notInD hu)
theorem od_in {neg : Bool} : OpD g (rInAny g.K neg) (inD neg) := by
  intro c S H v w d e Q E r hv hw o
  unfold inD at o
  cases q : inB d e S with
  | none => rw [q] at o; exact o.elim
  | some b =>
    rw [q] at o
    have sw := dr_seen r hw
    unfold inB at q
    split at q
    · rename_i z h1
      rw [h1] at sw
      obtain ⟨e1, _⟩ := sw.str
      split at q
      · rename_i x
        cases q
        cases hv with
        | str hx => exact .inl (.inl (.inl ⟨x, z, rfl, e1, at_now r o (.bl _)⟩))
      · cases q
    · rename_i kvs h1
      rw [h1] at sw
      obtain ⟨a, ws, e1, k1, l1⟩ := sw.dct'
      split at q
      · rename_i k hk
        cases q
        have ew := keyOf_val hv hk
        refine .inl (.inl (.inr ⟨a, valV ws k, e1, ?_, ?_⟩))
        · rw [ew]; exact DGet.k k1
        · rcases l1.val (k := k) with ⟨h2, h3⟩ | ⟨u, z, h2, h3, h4⟩
          · rw [h3]; rw [h2] at o; exact at_now r o (.bl _)
          · rw [h3]; rw [h2] at o; exact at_now r o (.bl _)
      · cases q
    · rename_i xs h1
      split at q
      · rename_i z ds p1 p2
        split at q
        · rename_i hf
          cases q
          rw [Bool.and_eq_true] at hf
          obtain ⟨d1, _⟩ := pyD_ok r hv p1
          obtain ⟨d2, _⟩ := pyD_ok r hw p2
          cases d2 with
          | tup hs ht =>
            obtain ⟨f1, f2⟩ := dps_flat d1 hf.1 ht hf.2
            refine .inl (.inr ⟨_, _, rfl, .inr hs, (dp_flat d1 hf.1).1, f1, ?_⟩)
            rw [f2]
            exact at_now r o (.bl _)
        · cases q
      · cases q
    · split at q
      · rename_i z ds p1 p2
        cases q
        obtain ⟨d1, q1⟩ := pyD_ok r hv p1
        obtain ⟨d2, q2⟩ := pyD_ok r hw p2
        exact .inr ⟨z, ds, d1, d2, q1, q2, at_now r o (.bl _)⟩
      · cases q
end
end ND
namespace ND
open PySem L2
abbrev Cur := Option CuE
section
variable {X : Cx} {g : G} {W : WX} {a b e o : Expr} {es : List Expr} {m ma mb mc mo : EM} {ms : AM} {pos p : Pos} {cur : Cur} {hid : List Addr}
def CbD (g : G) (r : List V → Hp → VK → Prop) (f : List D → M D) : Prop := ∀ (c : List Addr) (S : Store) (H : Hp) (vs : List V) (ds : List D) (Q : VK) (E : XK), Rep g c S H → Vls g (frz g c S H) c vs ds → Out g c S H (RV g Q) E (f ds S) → r vs H Q
def mCall (f : List D → M D) (ms : AM) : EM := fun τ => ms τ >>= f
theorem tE_call {r : List V → Hp → VK → Prop} {f : List D → M D} (hf : CbD g r f) {σ : St} {H : Hp} {Q : VK} (h : tE g W (mCall f ms) σ H Q) : tCB r (tAr g W ms) σ H Q :=
  tA_thenS (R := RV g Q) (k := fun xs _ => f xs) h fun c S H1 τ vs ds r1 s1 v1 o1 => hf c S H1 vs ds Q _ r1 v1 o1
theorem d_callB {x : Str} {id : String} {r : List V → Hp → VK → Prop} {f : List D → M D} (hc : CallR X (.builtin id) r) (hf : CbD g r f) (hg : Gl X x) (hm : X.mg x = none) (hv : bootBuiltins x = some (.builtin id)) (ha : PA X (e :: es) (tAr g W ms))
    (hn : x ≠ "__name__" := by decide) (hdb : (x == ("__debug__" : Str)) = false := by decide) (he : starEach (e :: es) X.env = (false, eval e X.env) :: starEach es X.env := by rfl) (hpl : (backTo pos (starEach es X.env)).any (·.1) = false := by rfl) :
    PE X (.Call (.Name x p) (e :: es) [] pos) (tE g W (mCall f ms)) := PE.imp (pe_callB hc hg hm hv ha hn hdb he hpl) fun _ _ _ q => tE_call hf q
theorem d_callTy {x : Str} {T : String} {r : List V → Hp → VK → Prop} {f : List D → M D} (hc : CallR X (.type T) r) (hf : CbD g r f) (hg : Gl X x) (hm : X.mg x = none) (hv : bootBuiltins x = some (.type T)) (ha : PA X (e :: es) (tAr g W ms))
    (hn : x ≠ "__name__" := by decide) (hdb : (x == ("__debug__" : Str)) = false := by decide) (he : starEach (e :: es) X.env = (false, eval e X.env) :: starEach es X.env := by rfl) (hpl : (backTo pos (starEach es X.env)).any (·.1) = false := by rfl) :
    PE X (.Call (.Name x p) (e :: es) [] pos) (tE g W (mCall f ms)) := PE.imp (pe_callTy hc hg hm hv ha hn hdb he hpl) fun _ _ _ q => tE_call hf q
theorem vls1 {F : Hp} {c : List Addr} {vs : List V} {d : D} (h : Vls g F c vs [d]) : ∃ v, vs = [v] ∧ Val g F c v d := by
  cases h with
  | cons h t => cases t; exact ⟨_, rfl, h⟩
theorem vls2 {F : Hp} {c : List Addr} {vs : List V} {d e : D} (h : Vls g F c vs [d, e]) : ∃ v w, vs = [v, w] ∧ Val g F c v d ∧ Val g F c w e := by
  cases h with
  | cons h t => obtain ⟨w, rfl, hw⟩ := vls1 t; exact ⟨_, w, rfl, h, hw⟩
def lenD (ds : List D) : M D := fun S => match ds with
  | [x] => (match dr S x with
    | .lst xs | .rol xs | .tup xs => .ok (.int xs.length) S
    | .str z => .ok (.int z.length) S
    | .dct kvs => .ok (.int kvs.length) S
    | _ => .bad)
  | _ => .bad
abbrev rLenD (K : PySem.W.Frag) : List V → Hp → VK → Prop := fun xs H Q => ((∃ p ys, xs = [.ref p] ∧ (SqL K H p ys ∨ SqT K H p ys) ∧ Q (.int ys.length) H) ∨ (∃ z, xs = [.str z] ∧ z.length ≤ sizeLine ∧ Q (.int z.length) H)) ∨ (∃ a kvs, xs = [V.ref a] ∧ H a = some (.dK kvs) ∧ Q (.int kvs.length) H)
theorem cr_len : CallR X (.builtin "len") (rLenD X.K) := (call_len_seq.or call_len_str).or call_lenD
theorem cd_len : CbD g (rLenD g.K) lenD := by
  intro c S H vs ds Q E r hv o
  unfold lenD at o
  split at o
  · obtain ⟨v, rfl, hv1⟩ := vls1 hv
    have sv := dr_seen r hv1
    split at o
    · rename_i xs h1
      rw [h1] at sv
      obtain ⟨a, vs, rfl, k1, l1⟩ := sv.lst'
      rw [← l1.length] at o
      exact .inl (.inl ⟨a, vs, rfl, .inl (SqL.of k1), at_now r o (.int _)⟩)
    · rename_i xs h1
      rw [h1] at sv
      obtain ⟨a, vs, rfl, k1, l1⟩ := sv.rol
      rw [← l1.length] at o
      exact .inl (.inl ⟨a, vs, rfl, .inl k1, at_now r o (.int _)⟩)
    · rename_i xs h1
      rw [h1] at sv
      obtain ⟨a, vs, rfl, k1, l1⟩ := sv.tup
      rw [← l1.length] at o
      exact .inl (.inl ⟨a, vs, rfl, .inr k1, at_now r o (.int _)⟩)
    · rename_i z h1
      rw [h1] at sv
      obtain ⟨rfl, k1⟩ := sv.str
      exact .inl (.inr ⟨z, rfl, k1.2, at_now r o (.int _)⟩)
    · rename_i kvs h1
      rw [h1] at sv
      obtain ⟨a, ws, rfl, k1, l1⟩ := sv.dct'
      rw [← l1.length] at o
      exact .inr ⟨a, ws, rfl, k1, at_now r o (.int _)⟩
    · exact o.elim
  · exact o.elim
def blsOf : List D → Option (List Bool)
  | [] => some []
  | .bl b :: r => (blsOf r).map (b :: ·)
  | _ => none
theorem bls_val {F : Hp} {c : List Addr} : ∀ {vs : List V} {xs : List D} {bs : List Bool}, Vls g F c vs xs → blsOf xs = some bs → vs = bs.map V.bl
  | _, _, _, .nil, e => by cases e; rfl
  | _, _, bs, .cons (xs := xs) h t, e => by
    cases h with
    | bl b =>
      rw [blsOf] at e
      cases q : blsOf xs with
      | none => rw [q] at e; cases e
      | some cs => rw [q] at e; cases e; rw [bls_val t q]; rfl
    | _ => cases e
def overBls (f : List Bool → Bool) (ds : List D) : M D := fun S => match ds with
  | [x] => (match dr S x with
    | .lst xs => (match blsOf xs with
      | some bs => .ok (.bl (f bs)) S
      | none => .bad)
    | _ => .bad)
  | _ => .bad
abbrev rBls (K : PySem.W.Frag) (f : List Bool → Bool) : List V → Hp → VK → Prop := fun vs H Q => ∃ (a : Addr) (bs : List Bool), vs = [V.ref a] ∧ SqL K H a (bs.map V.bl) ∧ Q (.bl (f bs)) H
theorem cd_bls {f : List Bool → Bool} : CbD g (rBls g.K f) (overBls f) := by
  intro c S H vs ds Q E r hv o
  unfold overBls at o
  split at o
  · obtain ⟨v, rfl, hv1⟩ := vls1 hv
    have sv := dr_seen r hv1
    split at o
    · rename_i xs h1
      rw [h1] at sv
      obtain ⟨a, vs, rfl, k1, l1⟩ := sv.lst'
      split at o
      · rename_i bs hb
        have e := bls_val l1 hb
        subst e
        exact ⟨a, bs, rfl, SqL.of k1, at_now r o (.bl _)⟩
      · exact o.elim
    · exact o.elim
  · exact o.elim
def allD : List D → M D := overBls fun bs => bs.all id
def anyD : List D → M D := overBls fun bs => bs.any id
def absD (ds : List D) : M D := match ds with
  | [.int i] => pure (.int (if i < 0 then -i else i))
  | _ => M.no
theorem cd_abs : CbD g (fun xs H Q => ∃ i, xs = [.int i] ∧ Q (.int (if i < 0 then -i else i)) H) absD := by
  intro c S H vs ds Q E r hv o
  unfold absD at o
  split at o
  · rename_i i
    obtain ⟨v, rfl, hv1⟩ := vls1 hv
    cases hv1
    exact ⟨i, rfl, at_now r o (.int _)⟩
  · exact o.elim
def twoD (f : Int → Int → Int) (ds : List D) : M D := match ds with
  | [.int i, .int j] => pure (.int (f i j))
  | _ => M.no
theorem cd_two {f : Int → Int → Int} : CbD g (fun xs H Q => ∃ i j, xs = [.int i, .int j] ∧ Q (.int (f i j)) H) (twoD f) := by
  intro c S H vs ds Q E r hv o
  unfold twoD at o
  split at o
  · rename_i i j
    obtain ⟨v, w, rfl, hv1, hw1⟩ := vls2 hv
    cases hv1; cases hw1
    exact ⟨i, j, rfl, at_now r o (.int _)⟩
  · exact o.elim
def listD (ds : List D) : M D := fun S => match ds with
  | [x] => (match dr S x with
    | .lst xs | .rol xs | .tup xs => .ok (.lst xs) S
    | _ => .bad)
  | _ => .bad
def listCD (ds : List D) : M D := fun S => match ds with
  | [x] => (match dr S x with
    | .lst xs | .rol xs | .tup xs => newCell (.lst xs) S
    | _ => .bad)
  | _ => .bad
def tupleD (ds : List D) : M D := fun S => match ds with
  | [x] => (match dr S x with
    | .lst xs | .rol xs | .tup xs => .ok (.tup xs) S
    | _ => .bad)
  | _ => .bad
abbrev rListD' (K : PySem.W.Frag) : List V → Hp → VK → Prop := fun xs H Q => ∃ p ys, xs = [.ref p] ∧ (SqL K H p ys ∨ SqT K H p ys) ∧ ∀ l, H l = none → Q (.ref l) (upd H l (.lst ys))
theorem cd_list : CbD g (rListD' g.K) listD := by
  intro c S H vs ds Q E r hv o
  unfold listD at o
  split at o
  · obtain ⟨v, rfl, hv1⟩ := vls1 hv
    have sv := dr_seen r hv1
    split at o
    · rename_i xs h1
      rw [h1] at sv
      obtain ⟨a, vs, rfl, k1, l1⟩ := sv.lst'
      exact ⟨a, vs, rfl, .inl (SqL.of k1), fun l hl => new_lst r o l1 hl⟩
    · rename_i xs h1
      rw [h1] at sv
      obtain ⟨a, vs, rfl, k1, l1⟩ := sv.rol
      exact ⟨a, vs, rfl, .inl k1, fun l hl => new_lst r o l1 hl⟩
    · rename_i xs h1
      rw [h1] at sv
      obtain ⟨a, vs, rfl, k1, l1⟩ := sv.tup
      exact ⟨a, vs, rfl, .inr k1, fun l hl => new_lst r o l1 hl⟩
    · exact o.elim
  · exact o.elim
theorem cd_listC : CbD g (rListD' g.K) listCD := by
  intro c S H vs ds Q E r hv o
  unfold listCD at o
  split at o
  · obtain ⟨v, rfl, hv1⟩ := vls1 hv
    have sv := dr_seen r hv1
    split at o
    · rename_i xs h1
      rw [h1] at sv
      obtain ⟨a, vs, rfl, k1, l1⟩ := sv.lst'
      exact ⟨a, vs, rfl, .inl (SqL.of k1), fun l hl => new_cell (x := .lst xs) r rfl ⟨vs, upd_same, l1⟩ o hl⟩
    · rename_i xs h1
      rw [h1] at sv
      obtain ⟨a, vs, rfl, k1, l1⟩ := sv.rol
      exact ⟨a, vs, rfl, .inl k1, fun l hl => new_cell (x := .lst xs) r rfl ⟨vs, upd_same, l1⟩ o hl⟩
    · rename_i xs h1
      rw [h1] at sv
      obtain ⟨a, vs, rfl, k1, l1⟩ := sv.tup
      exact ⟨a, vs, rfl, .inr k1, fun l hl => new_cell (x := .lst xs) r rfl ⟨vs, upd_same, l1⟩ o hl⟩
    · exact o.elim
  · exact o.elim
abbrev rTupleD (K : PySem.W.Frag) : List V → Hp → VK → Prop := fun xs H Q => ∃ p ys, xs = [.ref p] ∧ ((SqL K H p ys ∧ NewT H Q ys) ∨ (SqT K H p ys ∧ Q (.ref p) H))
theorem cd_tuple : CbD g (rTupleD g.K) tupleD := by
  intro c S H vs ds Q E r hv o
  unfold tupleD at o
  split at o
  · obtain ⟨v, rfl, hv1⟩ := vls1 hv
    have sv := dr_seen r hv1
    split at o
    · rename_i xs h1
      rw [h1] at sv
      obtain ⟨a, vs, rfl, k1, l1⟩ := sv.lst'
      exact ⟨a, vs, rfl, .inl ⟨SqL.of k1, new_tup r o l1⟩⟩
    · rename_i xs h1
      rw [h1] at sv
      obtain ⟨a, vs, rfl, k1, l1⟩ := sv.rol
      exact ⟨a, vs, rfl, .inl ⟨k1, new_tup r o l1⟩⟩
    · rename_i xs h1
      rw [h1] at sv
      obtain ⟨a, vs, rfl, k1, l1⟩ := sv.tup
      refine ⟨a, vs, rfl, .inr ⟨k1, ?_⟩⟩
      cases sv with
      | same sv => exact at_now r o sv
    · exact o.elim
  · exact o.elim
def intCD (ds : List D) : M D := match ds with
  | [.int i] => pure (.int i)
  | [.bl b] => pure (.int (if b then 1 else 0))
  | _ => M.no
theorem cd_int : CbD g (fun xs H Q => (∃ i, xs = [.int i] ∧ Q (.int i) H) ∨ ∃ k, xs = [.bl k] ∧ Q (.int (if k then 1 else 0)) H) intCD := by
  intro c S H vs ds Q E r hv o
  unfold intCD at o
  split at o
  · rename_i i
    obtain ⟨v, rfl, hv1⟩ := vls1 hv
    cases hv1
    exact .inl ⟨i, rfl, at_now r o (.int _)⟩
  · rename_i i
    obtain ⟨v, rfl, hv1⟩ := vls1 hv
    cases hv1
    exact .inr ⟨i, rfl, at_now r o (.int _)⟩
  · exact o.elim
def tyNm : D → Option String
  | .non => some "NoneType" | .bl _ => some "bool" | .int _ => some "int" | .str _ => some "str" | .lst _ => some "list" | .tup _ => some "tuple" | .dct _ => some "dict"
  | _ => none
def kitT (t n : String) : Option Bool := if ["bool", "int", "str", "list", "tuple", "dict"].contains n = true ∧ ["NoneType", "bool", "int", "str", "list", "tuple", "dict"].contains t = true then some (t == n || (t == "bool" && n == "int")) else none
theorem kitT_all : (["NoneType", "bool", "int", "str", "list", "tuple", "dict"].all fun t => ["bool", "int", "str", "list", "tuple", "dict"].all fun n => decide (kitB t n = some (t == n || (t == "bool" && n == "int")))) = true := by decide +kernel
theorem kitT_ok {t n : String} {b : Bool} (h : kitT t n = some b) : kitB t n = some b := by
  unfold kitT at h
  split at h
  · rename_i q
    have h1 := List.all_eq_true.mp kitT_all t (List.contains_iff_mem.mp q.2)
    have h2 := of_decide_eq_true (List.all_eq_true.mp h1 n (List.contains_iff_mem.mp q.1))
    rw [h2]; exact h
  · cases h
theorem tyx_of {c : List Addr} {S : Store} {H : Hp} {v : V} {d : D} {t : String} (h : Seen g c S H v d) (e : tyNm d = some t) : TyX g.K H v (.type t) := by
  cases d with
  | non => cases e; rw [h.non]; exact .base .non
  | bl b => cases e; rw [h.bl]; exact .base (.bl b)
  | int b => cases e; rw [h.int]; exact .base (.int b)
  | str b => cases e; rw [h.str.1]; exact .base (.str b)
  | lst xs => cases e; obtain ⟨a, vs, rfl, k, _⟩ := h.lst'; exact .base (.lst k)
  | dct xs => cases e; obtain ⟨a, vs, rfl, k, _⟩ := h.dct'; exact .base (.dK k)
  | tup xs =>
    cases e
    obtain ⟨a, vs, rfl, k, _⟩ := h.tup
    rcases k with (k | ⟨o, k⟩) | ⟨o, its, n, k1, k2, _⟩
    · exact .base (.tup k)
    · exact .fTuple k
    · exact .kTuple k1 k2
  | _ => cases e
def isiD (ds : List D) : M D := fun S => match ds with
  | [x, .ty n] => (match tyNm (dr S x) with
    | some t => (match kitT t n with
      | some b => .ok (.bl b) S
      | none => .bad)
    | none => .bad)
  | _ => .bad
theorem cd_isi : CbD g (rIsi g.K) isiD := by
  intro c S H vs ds Q E r hv o
  unfold isiD at o
  split at o
  · rename_i x n
    obtain ⟨v, w, rfl, hv1, hw1⟩ := vls2 hv
    cases hw1
    split at o
    · rename_i t ht
      split at o
      · rename_i b hb
        exact ⟨v, .ty n, .type t, .type n, b, rfl, .ty n, tyx_of (dr_seen r hv1) ht, kit_ty (kitT_ok hb), at_now r o (.bl _)⟩
      · exact o.elim
    · exact o.elim
  · exact o.elim
def kitAnyT (t : String) : List String → Option Bool
  | [] => some false
  | n :: r => (match kitT t n with
    | some true => some true
    | some false => kitAnyT t r
    | none => none)
theorem kitAnyT_ok {K : PySem.W.Frag} {t : String} : ∀ {ns : List String} {b : Bool}, kitAnyT t ns = some b → PySem.W.kitAny K (.type t) (ns.map Value.type) = some b
  | [], b, h => h
  | n :: r, b, h => by
    rw [kitAnyT] at h
    cases q : kitT t n with
    | none => rw [q] at h; cases h
    | some k =>
      rw [q] at h
      cases k with
      | true => cases h; exact kitAny_cons (kit_ty (kitT_ok q)) (fun z => nomatch z) fun _ => rfl
      | false => exact kitAny_cons (kit_ty (kitT_ok q)) (fun _ => kitAnyT_ok h) fun z => nomatch z
def isiTD (ns : List String) (x : D) : M D := fun S => match tyNm (dr S x) with
  | some t => (match kitAnyT t ns with
    | some b => .ok (.bl b) S
    | none => .bad)
  | none => .bad
inductive TyNs (X : Cx) : List Expr → List String → Prop
  | nil : TyNs X [] []
  | cons {x : Str} {n : String} {q : Pos} {es : List Expr} {ns : List String} : Gl X x → X.mg x = none → bootBuiltins x = some (.type n) → x ≠ "__name__" → (x == ("__debug__" : Str)) = false → TyNs X es ns → TyNs X (.Name x q :: es) (n :: ns)
def tTys (ns : List String) : TA := fun _ H Q => Q (ns.map V.ty) H
theorem pa_tys : ∀ {es : List Expr} {ns : List String}, TyNs X es ns → PA X es (tTys ns)
  | _, _, .nil => pa_nil
  | _, _, .cons (es := es) h1 h2 h3 h4 h5 t => pa_cons (pe_bltn (v := .ty _) h1 h2 h3 rfl h4 h5) (pa_tys t) (by rfl)
theorem d_isiT {k : Nat} {ns : List String} {q : Pos} (ht : TyNs X es ns) (hl : ns.length ≤ 100) (ha : PE X a (tE (gx X cur hid) W ma)) (hg : Gl X "isinstance") (hm : X.mg "isinstance" = none) (hs : starEach [a, .Tuple es k q] X.env = (false, eval a X.env) :: starEach [.Tuple es k q] X.env := by rfl) :
    PE X (.Call (.Name "isinstance" p) [a, .Tuple es k q] [] pos) (tE (gx X cur hid) W (mUn (isiTD ns) ma)) := by
  refine PE.imp (pe_callB call_isiT hg hm (by decide +kernel) (pa_cons ha (pa_cons (pe_tup (pa_tys ht)) pa_nil (by rfl)) hs) (he := hs)) fun σ H Q h => tE_then h fun c S H1 v d r1 v1 o1 => ?_
  refine ⟨by rw [List.length_map]; exact Nat.le_trans hl (by decide), fun tp hp => ?_⟩
  unfold isiTD at o1
  split at o1
  · rename_i t ht'
    split at o1
    · rename_i b hb
      have f := Fut.new (o := .tup (ns.map V.ty)) r1 hp
      have sv := dr_seen f.rep (f.val v1)
      refine ⟨v, tp, ns.map V.ty, .type t, ns.map Value.type, b, rfl, upd_same, ?_, tyx_of sv ht', kitAnyT_ok hb, o1 _ c f _ (.bl b)⟩
      clear hb hl ht f sv h o1
      induction ns with
      | nil => exact .nil
      | cons n r ih => exact .cons (.ty n) ih
    · exact o1.elim
  · exact o1.elim
def mChain (f k : D → D → M D) (ma mb mc : EM) : EM := fun τ => ma τ >>= fun x => mb τ >>= fun y => f x y >>= asB >>= fun b => if b = true then mc τ >>= fun z => k y z else pure (.bl false)
theorem tE_chain {r r' : R2} {f k : D → D → M D} (hf : OpD g r f) (hk : OpD g r' k) {σ : St} {H : Hp} {Q : VK} (h : tE g W (mChain f k ma mb mc) σ H Q) : tChain r r' (tE g W ma) (tE g W mb) (tE g W mc) σ H Q :=
  tE_thenS (k := fun x τ => mb τ >>= fun y => f x y >>= asB >>= fun b => if b = true then mc τ >>= fun z => k y z else pure (.bl false)) h fun c S H1 τ v d r1 s1 v1 o1 =>
    ⟨c, S, τ, r1, s1, (Out.bind o1).imp fun e c2 S2 H2 f2 o2 w hw => by
      rw [bind_assoc'] at o2
      refine hf c2 S2 H2 v w d e _ _ f2.rep (f2.val v1) hw ((Out.bind o2).imp fun z c3 S3 H3 f3 o3 u hu => ?_)
      obtain ⟨b, rfl, o4⟩ := asB_out hu o3
      refine ⟨b, rfl, ?_⟩
      cases b with
      | false => exact o4 H3 c3 (Fut.refl f3.rep) _ (.bl false)
      | true => exact ⟨c3, S3, τ, f3.rep, s1.mono (f2.trans f3).ex (f2.trans f3).pre, (Out.bind o4).imp fun y c4 S4 H4 f4 o5 x hx => hk c4 S4 H4 w x e y Q _ f4.rep (f4.val (f3.val hw)) hx o5⟩⟩
theorem d_chain {c : Expr} {op op' : CmpOp} {r r' : R2} {f k : D → D → M D} (h : OpR X (compareOp op) r) (h' : OpR X (compareOp op') r') (hf : OpD g r f) (hk : OpD g r' k) (ha : PE X a (tE g W ma)) (hb : PE X b (tE g W mb)) (hc : PE X c (tE g W mc))
    (hm : lastMarks [op, op'] [b, c] = false := by with_unfolding_all rfl) : PE X (.Compare a [op, op'] [b, c] pos) (tE g W (mChain f k ma mb mc)) := PE.imp (pe_chain h h' ha hb hc hm) fun _ _ _ q => tE_chain hf hk q
theorem dt_chain {c : Expr} {op op' : CmpOp} {r r' : R2} {f k : D → D → M D} (h : OpR X (compareOp op) r) (h' : OpR X (compareOp op') r') (hf : OpD g r f) (hk : OpD g r' k) (ha : PE X a (tE g W ma)) (hb : PE X b (tE g W mb)) (hc : PE X c (tE g W mc))
    (hm : lastMarks [op, op'] [b, c] = false := by with_unfolding_all rfl) : PT X (.Compare a [op, op'] [b, c] pos) (tT g W (mAsT (mChain f k ma mb mc))) := PT.imp (pt_chain h h' ha hb hc hm) fun _ _ _ q => tE_chain hf hk (tT_of q)
def MtD (g : G) (r : V → List V → Hp → VK → Prop) (f : D → List D → M D) : Prop := ∀ (c : List Addr) (S : Store) (H : Hp) (v : V) (d : D) (vs : List V) (ds : List D) (Q : VK) (E : XK), Rep g c S H → Val g (frz g c S H) c v d → Vls g (frz g c S H) c vs ds → Out g c S H (RV g Q) E (f d ds S) → r v vs H Q
def isK (T : String) (x : D) : M Unit := fun S => if tyNm (dr S x) = some T then .ok () S else .bad
def mMeth (T : String) (f : D → List D → M D) (mo : EM) (ms : AM) : EM := fun τ => mo τ >>= fun x => isK T x >>= fun _ => ms τ >>= fun xs => f x xs
theorem isK_tyV {c : List Addr} {S : Store} {H : Hp} {v : V} {d : D} {T : String} (hT : T = "str" ∨ T = "list" ∨ T = "dict" ∨ T = "int") (r : Rep g c S H) (hv : Val g (frz g c S H) c v d) (e : tyNm (dr S d) = some T) : tyV g.K T v H := by
  have sv := dr_seen r hv
  cases q : dr S d with
  | str x => rw [q] at e sv; cases e; rw [sv.str.1]; exact rfl
  | int x => rw [q] at e sv; cases e; rw [sv.int]; exact rfl
  | lst x => rw [q] at e sv; cases e; obtain ⟨a, vs, rfl, k, _⟩ := sv.lst'; exact .inl ⟨rfl, vs, SqL.of k⟩
  | dct x => rw [q] at e sv; cases e; obtain ⟨a, vs, rfl, k, _⟩ := sv.dct'; exact .inr (.inr (.inl ⟨rfl, .inl ⟨_, k⟩⟩))
  | tup x => rw [q] at e; have e' := Option.some.inj e; subst e'; exact absurd hT (by decide)
  | non => rw [q] at e; have e' := Option.some.inj e; subst e'; exact absurd hT (by decide)
  | bl x => rw [q] at e; have e' := Option.some.inj e; subst e'; exact absurd hT (by decide)
  | _ => rw [q] at e; cases e
theorem isK_out {β : Type} {c : List Addr} {S : Store} {H : Hp} {T : String} {d : D} {k : Unit → M β} {R : β → List Addr → Store → Hp → Prop} {E : XK} (o : Out g c S H R E ((isK T d >>= k) S)) : tyNm (dr S d) = some T ∧ Out g c S H R E (k () S) := by
  rw [bind_def] at o
  unfold isK at o
  split at o
  · rename_i a S' q
    split at q
    · rename_i h; cases q; exact ⟨h, o⟩
    · cases q
  · rename_i q
    split at q <;> cases q
  · exact o.elim
theorem d_meth {name : Str} {apos : Pos} {T id : String} {r : V → List V → Hp → VK → Prop} {f : D → List D → M D} (pa : PlainAttrs T) (slot : Slot T name id) (hty : typeOf (.builtin id) = pure (.type "method_descriptor")) (hm : MtR X id r) (hf : MtD (gx X cur hid) r f)
    (hT : T = "str" ∨ T = "list" ∨ T = "dict" ∨ T = "int") (ho : PE X o (tE (gx X cur hid) W mo)) (ha : PA X (e :: es) (tAr (gx X cur hid) W ms))
    (hbase : attributeBase o name X.env (eval o X.env) = eval o X.env := by rfl)
    (hfew : ((backTo pos (starEach (e :: es) X.env)).all (fun x => !x.1) && (backToKw pos (keywordEach [] X.env)).all (fun x => x.1.isSome)
      && decide ((e :: es).length + ([] : List Keyword).length + (if ([] : List Keyword).isEmpty then 0 else 1) < 30)) = true := by rfl)
    (hline : (apos.endLine == pos.line) = true := by rfl) (hs : starEach (e :: es) X.env = (false, eval e X.env) :: starEach es X.env := by rfl) (hplain : (backTo pos (starEach es X.env)).any (·.1) = false := by rfl) :
    PE X (.Call (.Attribute o name apos) (e :: es) [] pos) (tE (gx X cur hid) W (mMeth T f mo ms)) :=
  PE.imp (pe_bm pa slot hty hm ho ha hbase hfew hline hs hplain) fun σ H Q h => tE_thenS (k := fun x τ => isK T x >>= fun _ => ms τ >>= fun xs => f x xs) h fun c S H1 τ v d r1 s1 v1 o1 => by
    obtain ⟨e, o2⟩ := isK_out o1
    exact ⟨isK_tyV hT r1 v1 e, c, S, τ, r1, s1, (Out.bind o2).imp fun ds c2 S2 H2 f2 o3 vs hvs => hf c2 S2 H2 v d vs ds Q _ f2.rep (f2.val v1) hvs o3⟩
theorem d_meth0 {name : Str} {apos : Pos} {T id : String} {r : V → List V → Hp → VK → Prop} {f : D → List D → M D} (pa : PlainAttrs T) (slot : Slot T name id) (hty : typeOf (.builtin id) = pure (.type "method_descriptor")) (hm : MtR X id r) (hf : MtD (gx X cur hid) r f)
    (hT : T = "str" ∨ T = "list" ∨ T = "dict" ∨ T = "int") (ho : PE X o (tE (gx X cur hid) W mo))
    (hbase : attributeBase o name X.env (eval o X.env) = eval o X.env := by rfl) (hline : (apos.endLine == pos.line) = true := by rfl) :
    PE X (.Call (.Attribute o name apos) [] [] pos) (tE (gx X cur hid) W (mMeth T f mo mNil)) :=
  PE.imp (pe_bm0 pa slot hty hm ho hbase hline) fun σ H Q h => tE_thenS (k := fun x τ => isK T x >>= fun _ => mNil τ >>= fun xs => f x xs) h fun c S H1 τ v d r1 s1 v1 o1 => by
    obtain ⟨e, o2⟩ := isK_out o1
    exact ⟨isK_tyV hT r1 v1 e, hf c S H1 v d [] [] Q _ r1 v1 .nil o2⟩
def appendD (x : D) (ds : List D) : M D := fun S => match x, ds with
  | .cel n, [y] => (match S[n]? with
    | some (.lst xs) => if xs.length < sizeLine then .ok .non (S.set n (.lst (xs ++ [y]))) else .bad
    | _ => .bad)
  | _, _ => .bad
theorem cel_at {c : List Addr} {S : Store} {H : Hp} {v : V} {n : Nat} (hv : Val g (frz g c S H) c v (.cel n)) : ∃ a, v = .ref a ∧ c[n]? = some a := by
  cases hv with
  | cel h => exact ⟨_, rfl, h⟩
theorem md_append : MtD g rAppend appendD := by
  intro c S H v d vs ds Q E r hv hvs o
  unfold appendD at o
  split at o
  · rename_i n y
    obtain ⟨a, rfl, ha⟩ := cel_at hv
    obtain ⟨w, rfl, hw⟩ := vls1 hvs
    split at o
    · rename_i xs hx
      split at o
      · rename_i hl
        obtain ⟨us, hu, lu⟩ := r.ok n a _ ha hx
        refine ⟨a, us, w, rfl, rfl, hu, by rw [lu.length]; exact hl, ?_⟩
        have f := Fut.put (o := .lst (us ++ [w])) r ha hx rfl (y := .lst (xs ++ [y])) rfl ⟨us ++ [w], upd_same, lu.append (.cons hw .nil)⟩
        exact o _ c f _ .non
      · exact o.elim
    · exact o.elim
  · exact o.elim
def strsOf : List D → Option (List Str)
  | [] => some []
  | .str b :: r => (strsOf r).map (b :: ·)
  | _ => none
theorem strs_val {F : Hp} {c : List Addr} : ∀ {vs : List V} {xs : List D} {bs : List Str}, Vls g F c vs xs → strsOf xs = some bs → vs = bs.map V.str ∧ ∀ z ∈ bs, SOk z
  | _, _, _, .nil, e => by cases e; exact ⟨rfl, fun z h => by cases h⟩
  | _, _, bs, .cons (xs := xs) h t, e => by
    cases h with
    | str hs =>
      rw [strsOf] at e
      cases q : strsOf xs with
      | none => rw [q] at e; cases e
      | some cs =>
        rw [q] at e; cases e
        obtain ⟨h1, h2⟩ := strs_val t q
        refine ⟨by rw [h1]; rfl, fun z hz => ?_⟩
        rcases List.mem_cons.mp hz with rfl | hz
        · exact hs
        · exact h2 z hz
    | _ => cases e
end
end ND
namespace ND
open PySem L2
def sOf {α : Type} (m : M α) (τ : DSt) (k : α → Store → SRes) : Store → SRes := fun S => match m S with
  | .ok a S' => k a S'
  | .err C fs S' => .err C fs τ S'
  | .bad => .bad
section
variable {X : Cx} {g : G} {W : WX} {a b e o : Expr} {es : List Expr} {m ma mb mc mo : EM} {ms : AM} {pos p : Pos} {cur : Cur} {hid : List Addr} {st : Stmt} {rest : List Stmt} {s1 s2 : SM} {tm : TM}
theorem OutS.of {α : Type} {c : List Addr} {S : Store} {H : Hp} {De : Ends} {σ : St} {τ : DSt} {m : M α} {k : α → Store → SRes} {R : α → List Addr → Store → Hp → Prop} (sl : Sl g (frz g c S H) c σ τ) (h : OutS g W c S H De (sOf m τ k S))
    (q : ∀ a c1 S1 H1, Fut g c S H c1 S1 H1 → OutS g W c1 S1 H1 De (k a S1) → R a c1 S1 H1) : Out g c S H R (WS W σ) (m S) := by
  unfold sOf at h
  cases e : m S with
  | ok a S' => rw [e] at h; exact fun H' c' f => q a c' S' H' f (h.fut f)
  | err C fs S' => rw [e] at h; exact fun u o H' c' f x => h u o σ H' c' f (sl.mono f.ex f.pre) x
  | bad => rw [e] at h; exact h
theorem tS_of {m : EM} {k : D → DSt → Store → SRes} {De : Ends} {σ : St} {H : Hp} {Q : VK} (h : tS g W (fun τ => sOf (m τ) τ fun d => k d τ) De σ H)
    (q : ∀ c S H1 τ v d, Rep g c S H1 → Sl g (frz g c S H1) c σ τ → Val g (frz g c S H1) c v d → OutS g W c S H1 De (k d τ S) → Q v H1) : tE g W m σ H Q := by
  obtain ⟨c, S, τ, r, s, o⟩ := h
  exact ⟨c, S, τ, r, s, OutS.of s o fun d c1 S1 H1 f o1 v hv => q c1 S1 H1 τ v d f.rep (s.mono f.ex f.pre) hv o1⟩
theorem tS_ofT {m : TM} {k : Bool → DSt → Store → SRes} {De : Ends} {σ : St} {H : Hp} {Q : Bool → Hp → Prop} (h : tS g W (fun τ => sOf (m τ) τ fun d => k d τ) De σ H)
    (q : ∀ c S H1 τ d, Rep g c S H1 → Sl g (frz g c S H1) c σ τ → OutS g W c S H1 De (k d τ S) → Q d H1) : tT g W m σ H Q := by
  obtain ⟨c, S, τ, r, s, o⟩ := h
  exact ⟨c, S, τ, r, s, OutS.of s o fun d c1 S1 H1 f o1 => q c1 S1 H1 τ d f.rep (s.mono f.ex f.pre) o1⟩
theorem tS_ofA {m : AM} {k : List D → DSt → Store → SRes} {De : Ends} {σ : St} {H : Hp} {Q : List V → Hp → Prop} (h : tS g W (fun τ => sOf (m τ) τ fun d => k d τ) De σ H)
    (q : ∀ c S H1 τ v d, Rep g c S H1 → Sl g (frz g c S H1) c σ τ → Vls g (frz g c S H1) c v d → OutS g W c S H1 De (k d τ S) → Q v H1) : tAr g W m σ H Q := by
  obtain ⟨c, S, τ, r, s, o⟩ := h
  exact ⟨c, S, τ, r, s, OutS.of s o fun d c1 S1 H1 f o1 v hv => q c1 S1 H1 τ v d f.rep (s.mono f.ex f.pre) hv o1⟩
def sSkip : SM := fun τ S => .ok (.nx τ) S
def sThen (m n : SM) : SM := fun τ S => match m τ S with
  | .ok (.nx τ') S' => n τ' S'
  | r => r
theorem OutS.seq {c : List Addr} {S : Store} {H : Hp} {De : Ends} {r : SRes} {n : SM} (h : OutS g W c S H De (match r with
  | .ok (.nx τ') S' => n τ' S'
  | r => r)) : OutS g W c S H { De with nx := fun σ H => tS g W n De σ H } r := by
  cases r with
  | ok fl S' =>
    cases fl with
    | nx τ => exact fun σ' H' c' f s => ⟨c', S', τ, f.rep, s, h.fut f⟩
    | bk τ => exact h
    | ct τ => exact h
    | rt d => exact h
  | err C fs τ S' => exact h
  | bad => exact h
theorem dss_nil : PSs X [] (tS g W sSkip) := PSs.imp pss_nil fun De σ H h => by
  obtain ⟨c, S, τ, r, s, o⟩ := h
  exact o σ H c (Fut.refl r) s
theorem dss_cons (h1 : PS X st (tS g W s1)) (h2 : PSs X rest (tS g W s2)) : PSs X (st :: rest) (tS g W (sThen s1 s2)) := PSs.imp (pss_cons h1 h2) fun De σ H h => by
  obtain ⟨c, S, τ, r, s, o⟩ := h
  exact ⟨c, S, τ, r, s, OutS.seq (r := s1 τ S) o⟩
theorem dss_one (h1 : PS X st (tS g W s1)) : PSs X [st] (tS g W s1) := pss_one h1
theorem ds_pass : PS X (.Pass pos) (tS g W sSkip) := PS.imp ps_pass fun De σ H h => by
  obtain ⟨c, S, τ, r, s, o⟩ := h
  exact o σ H c (Fut.refl r) s
def sCont : SM := fun τ S => .ok (.ct τ) S
def sBrk : SM := fun τ S => .ok (.bk τ) S
theorem ds_cont : PS X (.Continue pos) (tS g W sCont) := PS.imp ps_continue fun De σ H h => by
  obtain ⟨c, S, τ, r, s, o⟩ := h
  exact o σ H c (Fut.refl r) s
theorem ds_brk : PS X (.Break pos) (tS g W sBrk) := PS.imp ps_break fun De σ H h => by
  obtain ⟨c, S, τ, r, s, o⟩ := h
  exact o σ H c (Fut.refl r) s
def sExpr (m : EM) : SM := fun τ => sOf (m τ) τ fun _ S => .ok (.nx τ) S
theorem ds_expr (he : PE X e (tE g W m)) (hs : swapsWith e none pos.line X.env = pure false := by rfl) : PS X (.Expr e pos) (tS g W (sExpr m)) := PS.imp (ps_expr he hs) fun De σ H h =>
  tS_of (k := fun _ τ S => .ok (.nx τ) S) h fun c S H1 τ v d r1 s1 v1 o1 => o1 σ H1 c (Fut.refl r1) s1
def sRet (m : EM) : SM := fun τ => sOf (m τ) τ fun d S => .ok (.rt d) S
theorem ds_ret (he : PE X e (tE g W m)) : PS X (.Return (some e) pos) (tS g W (sRet m)) := PS.imp (ps_ret he) fun De σ H h =>
  tS_of (k := fun d τ S => .ok (.rt d) S) h fun c S H1 τ v d r1 s1 v1 o1 => o1 v H1 c (Fut.refl r1) v1
def sRetN : SM := fun _ S => .ok (.rt .non) S
theorem ds_retN : PS X (.Return none pos) (tS g W sRetN) := PS.imp ps_retN fun De σ H h => by
  obtain ⟨c, S, τ, r, s, o⟩ := h
  exact o .non H c (Fut.refl r) .non
def fixD (x : D) : M D := fun S => match x with
  | .cel n => (match S[n]? with
    | some (.lst xs) => .ok (.lst xs) (S.set n (.fz (.lst xs)))
    | some (.dct xs) => .ok (.dct xs) (S.set n (.fz (.dct xs)))
    | some (.ins C xs) => .ok (.obj C xs) (S.set n (.fz (.obj C xs)))
    | some (.fz d) => .ok d S
    | _ => .bad)
  | d => .ok d S
theorem fix_out {c : List Addr} {S : Store} {H : Hp} {v : V} {d : D} {R : D → List Addr → Store → Hp → Prop} {E : XK} (r : Rep g c S H) (hv : Val g (frz g c S H) c v d) (o : Out g c S H R E (fixD d S)) : ∃ d' S', Fut g c S H c S' H ∧ Val g (frz g c S' H) c v d' ∧ fixD d S = .ok d' S' := by
  unfold fixD at o ⊢
  split at o
  · rename_i n
    obtain ⟨a, rfl, ha⟩ := cel_at hv
    split at o
    · rename_i xs hx
      obtain ⟨us, hu, lu⟩ := r.ok n a _ ha hx
      obtain ⟨f, k⟩ := Fut.fix (d := .lst xs) r ha hx rfl fun F ex e => .lst (e.trans hu) (lu.mono ex (Pre.refl c))
      exact ⟨_, _, f, k, rfl⟩
    · rename_i xs hx
      obtain ⟨us, hu, lu⟩ := r.ok n a _ ha hx
      obtain ⟨f, k⟩ := Fut.fix (d := .dct xs) r ha hx rfl fun F ex e => .dct (e.trans hu) (lu.mono ex (Pre.refl c))
      exact ⟨_, _, f, k, rfl⟩
    · rename_i C xs hx
      obtain ⟨Ca, dx, ws, mC, hu, lu⟩ := r.ok n a _ ha hx
      obtain ⟨f, k⟩ := Fut.fix (d := .obj C xs) r ha hx rfl fun F ex e => .obj mC (e.trans hu) (lu.mono ex (Pre.refl c))
      exact ⟨_, _, f, k, rfl⟩
    · rename_i d hx
      exact ⟨_, _, Fut.refl r, r.ok n a _ ha hx, rfl⟩
    · exact o.elim
  · exact ⟨_, _, Fut.refl r, hv, rfl⟩
def mFix (m : EM) : EM := fun τ => m τ >>= fixD
theorem d_fix (he : PE X e (tE g W m)) : PE X e (tE g W (mFix m)) := PE.imp he fun σ H Q h => by
  obtain ⟨c, S, τ, r, s, o⟩ := h
  refine ⟨c, S, τ, r, s, (Out.bind o).imp fun d c1 S1 H1 f1 o1 v hv => ?_⟩
  obtain ⟨d', S', f, k, e1⟩ := fix_out f1.rep hv o1
  rw [e1] at o1
  exact o1 H1 c1 f v k
def sIf (t : TM) (m n : SM) : SM := fun τ => sOf (t τ) τ fun b => if b = true then m τ else n τ
theorem ds_if {c : Expr} {xs ys : List Stmt} (hc : PT X c (tT g W tm)) (ha : PSs X xs (tS g W s1)) (hb : PSs X ys (tS g W s2)) : PS X (.If c xs ys pos) (tS g W (sIf tm s1 s2)) := PS.imp (ps_if hc ha hb) fun De σ H h =>
  tS_ofT (k := fun b τ => if b = true then s1 τ else s2 τ) h fun c S H1 τ d r1 sl o1 => by
    cases d with
    | true => exact ⟨c, S, τ, r1, sl, o1⟩
    | false => exact ⟨c, S, τ, r1, sl, o1⟩
def sSet (i : Nat) (m : EM) : SM := fun τ => sOf (m τ) τ fun d S => .ok (.nx (τ.set i (some d))) S
theorem ds_set {i : Nat} {x : Str} {p' : Pos} (hN : X.N.Nodup) (hi : X.N[i]? = some x) (hx : Loc X.env.scope x) (he : PE X e (tE g W m)) (hs : swapsWith e (some (.Name x p')) pos.line X.env = pure false := by rfl)
    (hf : X.fn x = true ∨ X.env.scope.names.lookup x = some .local := by first | exact .inl rfl | exact .inr rfl | assumption) : PS X (.Assign [.Name x p'] e pos) (tS g W (sSet i m)) := PS.imp (ps_set hN hi hx he hs hf) fun De σ H h =>
  tS_of (k := fun d τ S => .ok (.nx (τ.set i (some d))) S) h fun c S H1 τ v d r1 sl v1 o1 => o1 _ H1 c (Fut.refl r1) (sl.set v1 i)
def sPar2 (i j : Nat) (ms : AM) : SM := fun τ => sOf (ms τ) τ fun ds S => match ds with
  | [d, e] => .ok (.nx ((τ.set i (some d)).set j (some e))) S
  | _ => .bad
theorem ds_par2 {i j : Nat} (lib : PS X st (tPar i j (tAr g W ms))) : PS X st (tS g W (sPar2 i j ms)) := PS.imp lib fun De σ H h =>
  tS_ofA (k := fun ds τ S => match ds with
    | [d, e] => .ok (.nx ((τ.set i (some d)).set j (some e))) S
    | _ => .bad) h fun c S H1 τ vs ds r1 sl v1 o1 => by
    split at o1
    · obtain ⟨v, w, rfl, h1, h2⟩ := vls2 v1
      exact ⟨v, w, rfl, o1 _ H1 c (Fut.refl r1) ((sl.set h1 i).set h2 j)⟩
    · exact o1.elim
def sPar3 (i j l : Nat) (ms : AM) : SM := fun τ => sOf (ms τ) τ fun ds S => match ds with
  | [d, e, f] => .ok (.nx (((τ.set i (some d)).set j (some e)).set l (some f))) S
  | _ => .bad
theorem ds_par3 {c : Expr} {i j l : Nat} {x y z : Str} {px py pz pt : Pos} {kt k2 : Nat} {pt2 : Pos} (h : ∀ (ta : TA), PA X [a, b, c] ta → PS X (.Assign [.Tuple [.Name x px, .Name y py, .Name z pz] kt pt] (.Tuple [a, b, c] k2 pt2) pos) (tPar3 i j l ta)) (ha : PA X [a, b, c] (tAr g W ms)) :
    PS X (.Assign [.Tuple [.Name x px, .Name y py, .Name z pz] kt pt] (.Tuple [a, b, c] k2 pt2) pos) (tS g W (sPar3 i j l ms)) := PS.imp (h _ ha) fun De σ H h =>
  tS_ofA (k := fun ds τ S => match ds with
    | [d, e, f] => .ok (.nx (((τ.set i (some d)).set j (some e)).set l (some f))) S
    | _ => .bad) h fun c S H1 τ vs ds r1 sl v1 o1 => by
    split at o1
    · cases v1 with
      | cons h1 t =>
        obtain ⟨w, u, rfl, h2, h3⟩ := vls2 t
        exact ⟨_, w, u, rfl, o1 _ H1 c (Fut.refl r1) (((sl.set h1 i).set h2 j).set h3 l)⟩
    · exact o1.elim
def setD (x y z : D) : M Unit := fun S => match x, y with
  | .cel n, .int i => (match S[n]? with
    | some (.lst xs) => (match ixN xs.length i with
      | some j => .ok () (S.set n (.lst (xs.set j z)))
      | none => .bad)
    | _ => .bad)
  | _, _ => .bad
def sPut (mo mi mv : EM) : SM := fun τ => sOf (mv τ >>= fun z => mo τ >>= fun x => mi τ >>= fun y => setD x y z) τ fun _ S => .ok (.nx τ) S
theorem ds_put {mi mv : EM} (lib : PS X st (tAsg (tE g W mv) (gSub (tE g W mo) (tE g W mi) rSetL))) : PS X st (tS g W (sPut mo mi mv)) := PS.imp lib fun De σ H h => by
  obtain ⟨c, S, τ, r, s, q⟩ := h
  have q1 : Out g c S H (fun _ c1 S1 H1 => OutS g W c1 S1 H1 De (.ok (.nx τ) S1)) (WS W σ) ((mv τ >>= fun z => mo τ >>= fun x => mi τ >>= fun y => setD x y z) S) := OutS.of s q fun _ _ _ _ _ o => o
  refine ⟨c, S, τ, r, s, (Out.bind q1).imp fun z c1 S1 H1 f1 o1 v hv => ?_⟩
  refine ⟨c1, S1, τ, f1.rep, s.mono f1.ex f1.pre, (Out.bind o1).imp fun x c2 S2 H2 f2 o2 w hw' => ?_⟩
  refine ⟨c2, S2, τ, f2.rep, s.mono (f1.trans f2).ex (f1.trans f2).pre, (Out.bind o2).imp fun y c3 S3 H3 f3 o3 u hu => ?_⟩
  have hw3 := f3.val hw'
  have hv3 := f3.val (f2.val hv)
  have s3 := s.mono ((f1.trans f2).trans f3).ex ((f1.trans f2).trans f3).pre
  unfold setD at o3
  split at o3
  · rename_i n i
    obtain ⟨a, rfl, ha⟩ := cel_at hw3
    cases hu
    split at o3
    · rename_i xs hx
      split at o3
      · rename_i j hj
        obtain ⟨us, hu, lu⟩ := f3.rep.ok n a _ ha hx
        refine ⟨a, us, i, j, rfl, rfl, hu, by rw [lu.length]; exact hj, ?_⟩
        have f := Fut.put (o := .lst (us.set j v)) f3.rep ha hx rfl (y := .lst (xs.set j z)) rfl ⟨us.set j v, upd_same, lu.set j hv3⟩
        exact o3 _ c3 f σ _ c3 (Fut.refl f.rep) (s3.mono f.ex f.pre)
      · exact o3.elim
    · exact o3.elim
  · exact o3.elim
def sAug (i : Nat) (f : D → D → M D) (m : EM) : SM := fun τ => sOf (mVar i τ >>= fun x => m τ >>= fun y => f x y) τ fun d S => .ok (.nx (τ.set i (some d))) S
theorem ds_aug {i : Nat} {x : Str} {op : Operator} {ti : R2} {f : D → D → M D} {p' : Pos} (hN : X.N.Nodup) (hi : X.N[i]? = some x) (hx : Loc X.env.scope x) (he : PE X e (tE g W m)) (ho : OpR X (inplaceOp op) ti) (hf' : OpD g ti f)
    (hf : X.fn x = true ∨ X.env.scope.names.lookup x = some .local := by first | exact .inl rfl | exact .inr rfl | assumption) : PS X (.AugAssign (.Name x p') op e pos) (tS g W (sAug i f m)) := PS.imp (ps_aug hN hi hx he ho hf) fun De σ H h => by
  obtain ⟨c, S, τ, r, s, q⟩ := h
  have q1 : Out g c S H (fun d c1 S1 H1 => OutS g W c1 S1 H1 De (.ok (.nx (τ.set i (some d))) S1)) (WS W σ) ((mVar i τ >>= fun x => m τ >>= fun y => f x y) S) := OutS.of s q fun _ _ _ _ _ o => o
  have q2 := Out.bind q1
  unfold mVar at q2
  cases e1 : τ[i]? with
  | none => rw [e1] at q2; exact q2.elim
  | some z =>
    cases z with
    | none => rw [e1] at q2; exact q2.elim
    | some d =>
      rw [e1] at q2
      obtain ⟨v, h1, h2⟩ := s.get e1
      refine ⟨v, h1, c, S, τ, r, s, (Out.bind (q2 H c (Fut.refl r))).imp fun y c1 S1 H1 f1 o1 w hw => ?_⟩
      refine hf' c1 S1 H1 v w d y _ _ f1.rep (f1.val h2) hw (o1.imp fun z c2 S2 H2 f2 o2 u hu => ?_)
      exact o2 _ H2 c2 (Fut.refl f2.rep) ((s.mono (f1.trans f2).ex (f1.trans f2).pre).set hu i)
structure Later (g : G) (c : List Addr) (S : Store) (H : Hp) (g' : G) (c' : List Addr) (S' : Store) (H' : Hp) : Prop where
  same : SameM g g'
  pre : Pre c c'
  rep : Rep g' c' S' H'
  ex : Ex (frz g c S H) (frz g' c' S' H')
  hid : ∀ a ∈ g.hid, H' a = H a
theorem SameM.refl (g : G) : SameM g g := ⟨rfl, rfl, rfl, rfl⟩
theorem Fut.later {c c' : List Addr} {S S' : Store} {H H' : Hp} (f : Fut g c S H c' S' H') : Later g c S H g c' S' H' := ⟨SameM.refl g, f.pre, f.rep, f.ex, f.hid⟩
structure Walks (g : G) (c : List Addr) (S : Store) (H : Hp) (J : It) (xs : List D) : Prop where
  go : ∀ (i : Nat) (g' : G) (c' : List Addr) (S' : Store) (H' : Hp), Later g c S H g' c' S' H' → i < xs.length → J.go i H'
  yld : ∀ (i : Nat) (g' : G) (c' : List Addr) (S' : Store) (H' : Hp) (v : V) (H2 : Hp), Later g c S H g' c' S' H' → J.yld i H' v H2 → ∀ d, xs[i]? = some d → Fut g' c' S' H' c' S' H2 ∧ Val g' (frz g' c' S' H2) c' v d
  stop : ∀ (i : Nat) (g' : G) (c' : List Addr) (S' : Store) (H' : Hp), Later g c S H g' c' S' H' → xs.length ≤ i → J.stop i H'
abbrev IM := DSt → M (List D)
def tIt (g : G) (W : WX) (m : IM) : TI := fun σ H R => ∃ c S τ, Rep g c S H ∧ Sl g (frz g c S H) c σ τ ∧ Out g c S H (fun xs c' S' H' => ∀ J, Walks g c' S' H' J xs → R J H') (WS W σ) (m τ S)
theorem PI.imp {tg it : Expr} {t t' : TI} (h : PI X tg it t) (k : ∀ σ H R, t' σ H R → t σ H R) : PI X tg it t' := ⟨fun pins s σ H R I q => h.run pins s σ H R I (k σ H R q)⟩
theorem Walks.lst {c : List Addr} {S : Store} {H : Hp} {a : Addr} {vs : List V} {xs : List D} (h : SqL g.K (frz g c S H) a vs) (l : Vls g (frz g c S H) c vs xs) : Walks g c S H (Itl g.K a) xs where
  go := fun i g' c' S' H' f hi => ⟨vs, vs[i]'(by rw [l.length]; exact hi), Evl.ex_l (frz_ex) (Evl.ex_l f.ex h), by simp⟩
  yld := fun i g' c' S' H' v H2 f y d hd => by
    obtain ⟨rfl, y⟩ := y
    have hv := y vs (Evl.ex_l (frz_ex) (Evl.ex_l f.ex h))
    obtain ⟨w, hw, vw⟩ := l.get hd
    rw [hv] at hw
    cases hw
    exact ⟨Fut.refl f.rep, (vw.mono f.ex f.pre).same f.same⟩
  stop := fun i g' c' S' H' f hi => ⟨vs, Evl.ex_l (frz_ex) (Evl.ex_l f.ex h), by rw [l.length]; exact hi⟩
theorem Walks.tup {c : List Addr} {S : Store} {H : Hp} {a : Addr} {vs : List V} {xs : List D} (h : SqT g.K (frz g c S H) a vs) (l : Vls g (frz g c S H) c vs xs) : Walks g c S H (Itt g.K a) xs where
  go := fun i g' c' S' H' f hi => ⟨vs, vs[i]'(by rw [l.length]; exact hi), Evl.ex_t (frz_ex) (Evl.ex_t f.ex h), by simp⟩
  yld := fun i g' c' S' H' v H2 f y d hd => by
    obtain ⟨rfl, y⟩ := y
    have hv := y vs (Evl.ex_t (frz_ex) (Evl.ex_t f.ex h))
    obtain ⟨w, hw, vw⟩ := l.get hd
    rw [hv] at hw
    cases hw
    exact ⟨Fut.refl f.rep, (vw.mono f.ex f.pre).same f.same⟩
  stop := fun i g' c' S' H' f hi => ⟨vs, Evl.ex_t (frz_ex) (Evl.ex_t f.ex h), by rw [l.length]; exact hi⟩
def intsD (lo : Int) (n : Nat) : List D := (List.range n).map fun i => .int (lo + (i : Nat))
theorem intsD_get {lo : Int} {n i : Nat} {d : D} (hd : (intsD lo n)[i]? = some d) : d = .int (lo + i) := by
  unfold intsD at hd
  rw [List.getElem?_map] at hd
  cases q : (List.range n)[i]? with
  | none => rw [q] at hd; cases hd
  | some k =>
    rw [q] at hd
    obtain ⟨h1, h2⟩ := List.getElem?_eq_some_iff.mp q
    have : k = i := by simpa using h2.symm
    subst this
    exact (Option.some.inj hd).symm
theorem intsD_length (lo : Int) (n : Nat) : (intsD lo n).length = n := by simp [intsD]
theorem Walks.rng {c : List Addr} {S : Store} {H : Hp} {lo : Int} {n : Nat} : Walks g c S H (Itr lo n) (intsD lo n) where
  go := fun i g' c' S' H' f hi => by rw [intsD_length] at hi; exact hi
  yld := fun i g' c' S' H' v H2 f y d hd => by
    obtain ⟨rfl, rfl⟩ := y
    rw [intsD_get hd]
    exact ⟨Fut.refl f.rep, .int _⟩
  stop := fun i g' c' S' H' f hi => by rw [intsD_length] at hi; exact hi
def chS (x : Str) : List D := x.cps.toList.map fun c => .str ⟨#[c]⟩
theorem Walks.str {c : List Addr} {S : Store} {H : Hp} {x : Str} (h : SOk x) : Walks g c S H (Its x) (chS x) where
  go := fun i g' c' S' H' f hi => by
    have : (chS x).length = x.cps.size := by simp [chS]
    rw [this] at hi; exact hi
  yld := fun i g' c' S' H' v H2 f y d hd => by
    obtain ⟨rfl, k, hk, rfl⟩ := y
    have e : x.cps.toList[i]? = some k := by simpa using hk
    have : d = .str ⟨#[k]⟩ := by
      unfold chS at hd
      rw [List.getElem?_map, e] at hd
      exact (Option.some.inj hd).symm
    subst this
    exact ⟨Fut.refl f.rep, .str (sOk_one (strOk_mem h (List.mem_of_getElem? e)))⟩
  stop := fun i g' c' S' H' f hi => by
    have : (chS x).length = x.cps.size := by simp [chS]
    rw [this] at hi; exact hi
def walkLD (x : D) : M (List D) := fun S => match x with
  | .lst xs | .rol xs => .ok xs S
  | .cel n => (match S[n]? with
    | some (.fz (.lst xs)) => .ok xs S
    | _ => .bad)
  | _ => .bad
def walkTD (x : D) : M (List D) := fun S => match x with
  | .tup xs => .ok xs S
  | _ => .bad
def walkSD (x : D) : M (List D) := fun S => match x with
  | .str z => .ok (chS z) S
  | _ => .bad
def mWalkL (m : EM) : IM := fun τ => m τ >>= walkLD
def mWalkT (m : EM) : IM := fun τ => m τ >>= walkTD
def mWalkS (m : EM) : IM := fun τ => m τ >>= walkSD
theorem di_tup {tg l : Expr} (hl : PE X l (tE (gx X cur hid) W m)) : PI X tg l (tIt (gx X cur hid) W (mWalkT m)) := PI.imp (pi_tup hl) fun σ H R ⟨c, S, τ, r, s, o⟩ =>
  ⟨c, S, τ, r, s, (Out.bind o).imp fun d c1 S1 H1 f1 o1 v hv => match d, hv, o1 with
    | .tup _, .tup h1 h2, o1 => ⟨_, rfl, ⟨_, Evl.ex_t frz_ex h1.sq⟩, o1 H1 c1 (Fut.refl f1.rep) _ (Walks.tup (g := gx X cur hid) h1.sq h2)⟩⟩
theorem di_str {tg l : Expr} (hl : PE X l (tE (gx X cur hid) W m)) : PI X tg l (tIt (gx X cur hid) W (mWalkS m)) := PI.imp (pi_str hl) fun σ H R ⟨c, S, τ, r, s, o⟩ =>
  ⟨c, S, τ, r, s, (Out.bind o).imp fun d c1 S1 H1 f1 o1 v hv => match d, hv, o1 with
    | .str _, .str h, o1 => ⟨_, rfl, o1 H1 c1 (Fut.refl f1.rep) _ (Walks.str h)⟩⟩
theorem di_lst {tg l : Expr} (hl : PE X l (tE (gx X cur hid) W m)) : PI X tg l (tIt (gx X cur hid) W (mWalkL m)) := PI.imp (pi_list hl) fun σ H R h => by
  obtain ⟨c, S, τ, r, s, o⟩ := h
  refine ⟨c, S, τ, r, s, (Out.bind o).imp fun d c1 S1 H1 f1 o1 v hv => ?_⟩
  have go : ∀ {a : Addr} {vs : List V} {xs : List D}, SqL X.K (frz (gx X cur hid) c1 S1 H1) a vs → Vls (gx X cur hid) (frz (gx X cur hid) c1 S1 H1) c1 vs xs → (∀ J, Walks (gx X cur hid) c1 S1 H1 J xs → R J H1) →
      ∃ a', V.ref a = .ref a' ∧ (∃ xs, SqL X.K H1 a' xs) ∧ R (Itl X.K a') H1 := fun sq vl k => ⟨_, rfl, ⟨_, Evl.ex_l frz_ex sq⟩, k _ (Walks.lst (g := gx X cur hid) sq vl)⟩
  unfold walkLD at o1
  split at o1
  · cases hv with
    | lst h1 h2 => exact go (.inl (.inl h1)) h2 (o1 H1 c1 (Fut.refl f1.rep))
  · cases hv with
    | rol h1 h2 => exact go h1 h2 (o1 H1 c1 (Fut.refl f1.rep))
  · obtain ⟨a, rfl, ha⟩ := cel_at hv
    split at o1
    · rename_i xs hx
      cases f1.rep.ok _ a _ ha hx with
      | lst h1 h2 => exact go (.inl (.inl h1)) h2 (o1 H1 c1 (Fut.refl f1.rep))
    · exact o1.elim
  · exact o1.elim
noncomputable def rng1D (ds : List D) : M (List D) := match ds with
  | [.int n] => M.chk (okP (-(2 ^ 62) ≤ n ∧ n < 2 ^ 62)) (pure (intsD 0 n.toNat))
  | _ => M.no
noncomputable def rng2D (ds : List D) : M (List D) := match ds with
  | [.int i, .int j] => M.chk (okP (-(2 ^ 62) ≤ i ∧ i < 2 ^ 62 ∧ -(2 ^ 62) ≤ j ∧ j < 2 ^ 62)) (pure (intsD i (j - i).toNat))
  | _ => M.no
noncomputable def mRng1 (ms : AM) : IM := fun τ => ms τ >>= rng1D
noncomputable def mRng2 (ms : AM) : IM := fun τ => ms τ >>= rng2D
theorem di_rng1 {tg : Expr} (hg : Gl X "range") (hm : X.mg "range" = none) (ha : PA X [a] (tAr g W ms)) (hs : starEach [a] X.env = [(false, eval a X.env)] := by rfl) : PI X tg (.Call (.Name "range" p) [a] [] pos) (tIt g W (mRng1 ms)) := PI.imp (pi_range1 hg hm ha hs) fun σ H R h => by
  obtain ⟨c, S, τ, r, s, o⟩ := h
  refine ⟨c, S, τ, r, s, (Out.bind o).imp fun ds c1 S1 H1 f1 o1 vs hv => ?_⟩
  unfold rng1D at o1
  split at o1
  · rename_i n
    obtain ⟨v, rfl, hv1⟩ := vls1 hv
    cases hv1
    obtain ⟨h1, o2⟩ := Out.chk o1
    have h2 := okP_of h1
    exact ⟨n, rfl, h2.1, h2.2, o2 H1 c1 (Fut.refl f1.rep) _ Walks.rng⟩
  · exact o1.elim
theorem di_rng2 {tg : Expr} (hg : Gl X "range") (hm : X.mg "range" = none) (ha : PA X [a, b] (tAr g W ms)) (hs : starEach [a, b] X.env = [(false, eval a X.env), (false, eval b X.env)] := by rfl) (hs2 : starEach [b] X.env = [(false, eval b X.env)] := by rfl) : PI X tg (.Call (.Name "range" p) [a, b] [] pos) (tIt g W (mRng2 ms)) := PI.imp (pi_range2 hg hm ha hs hs2) fun σ H R h => by
  obtain ⟨c, S, τ, r, s, o⟩ := h
  refine ⟨c, S, τ, r, s, (Out.bind o).imp fun ds c1 S1 H1 f1 o1 vs hv => ?_⟩
  unfold rng2D at o1
  split at o1
  · rename_i i j
    obtain ⟨v, w, rfl, hv1, hw1⟩ := vls2 hv
    cases hv1; cases hw1
    obtain ⟨h1, o2⟩ := Out.chk o1
    have h2 := okP_of h1
    exact ⟨i, j, rfl, h2, o2 H1 c1 (Fut.refl f1.rep) _ Walks.rng⟩
  · exact o1.elim
inductive Tg where
  | nm (i : Nat) | tp (ts : List Tg)
mutual
def Tg.bind : Tg → D → DSt → Option DSt
  | .nm i, d, τ => some (τ.set i (some d))
  | .tp ts, .tup ds, τ => Tg.binds ts ds τ
  | .tp ts, .tpo ds, τ => Tg.binds ts ds τ
  | .tp _, _, _ => none
def Tg.binds : List Tg → List D → DSt → Option DSt
  | [], [], τ => some τ
  | t :: ts, d :: ds, τ => (match Tg.bind t d τ with
    | some τ' => Tg.binds ts ds τ'
    | none => none)
  | _, _, _ => none
end
mutual
def Tg.rd (K : PySem.W.Frag) : Tg → TG
  | .nm i => gName i
  | .tp ts => gTup K ts.length (Tg.rds K ts)
def Tg.rds (K : PySem.W.Frag) : List Tg → TGs
  | [] => gNil
  | t :: ts => gCons (Tg.rd K t) (Tg.rds K ts)
end
mutual
def Tg.slots : Tg → List Nat
  | .nm i => [i]
  | .tp ts => Tg.slotss ts
def Tg.slotss : List Tg → List Nat
  | [] => []
  | t :: ts => Tg.slots t ++ Tg.slotss ts
end
theorem binds_length : ∀ {ts : List Tg} {ds : List D} {τ τ' : DSt}, Tg.binds ts ds τ = some τ' → ts.length = ds.length
  | [], [], _, _, _ => rfl
  | [], _ :: _, _, _, h => by simp [Tg.binds] at h
  | _ :: _, [], _, _, h => by simp [Tg.binds] at h
  | t :: ts, d :: ds, τ, τ', h => by
    rw [Tg.binds] at h
    cases q : Tg.bind t d τ with
    | none => rw [q] at h; cases h
    | some τ1 => rw [q] at h; rw [List.length_cons, List.length_cons, binds_length h]
theorem wipe_set {σ : St} {vs : List Nat} {i : Nat} {x : Option V} (h : i ∈ vs) : wipe (σ.set i x) vs = wipe σ vs := by
  apply List.ext_getElem?
  intro j
  by_cases hj : j ∈ vs
  · have l1 : (wipe (σ.set i x) vs).length = σ.length := by rw [wipe_length, List.length_set]
    have l2 : (wipe σ vs).length = σ.length := wipe_length σ vs
    rcases Nat.lt_or_ge j σ.length with q | q
    · have e1 : (wipe (σ.set i x) vs)[j]? = some none := by
        cases z : (wipe (σ.set i x) vs)[j]? with
        | none => rw [List.getElem?_eq_none_iff] at z; omega
        | some y =>
          cases y with
          | none => rfl
          | some v => exact absurd hj (wipe_some z).2
      have e2 : (wipe σ vs)[j]? = some none := by
        cases z : (wipe σ vs)[j]? with
        | none => rw [List.getElem?_eq_none_iff] at z; omega
        | some y =>
          cases y with
          | none => rfl
          | some v => exact absurd hj (wipe_some z).2
      rw [e1, e2]
    · rw [List.getElem?_eq_none (by omega), List.getElem?_eq_none (by omega)]
  · rw [wipe_out hj, wipe_out hj, List.getElem?_set_ne]
    intro e; subst e; exact hj h
section
variable {c : List Addr} {S : Store} {H : Hp} {vs : List Nat}
mutual
theorem Tg.ok (r : Rep g c S H) : ∀ {t : Tg} {v : V} {d : D} {σ : St} {τ τ' : DSt} {Q : St → Hp → Prop}, Sl g (frz g c S H) c σ τ → Val g (frz g c S H) c v d → Tg.bind t d τ = some τ' → (∀ i ∈ t.slots, i ∈ vs) →
    (∀ σ', Sl g (frz g c S H) c σ' τ' → wipe σ' vs = wipe σ vs → Q σ' H) → Tg.rd g.K t v σ H Q
  | .nm i, v, d, σ, τ, τ', Q, s, hv, e, hs, q => by
    rw [Tg.bind] at e
    cases e
    rw [Tg.rd]
    exact q _ (s.set hv i) (wipe_set (hs i (by rw [Tg.slots]; exact List.mem_singleton.mpr rfl)))
  | .tp ts, v, d, σ, τ, τ', Q, s, hv, e, hs, q => by
    cases hv with
    | tup h1 h2 =>
      rw [Tg.bind] at e
      rw [Tg.rd]
      exact ⟨_, _, rfl, Evl.ex_t frz_ex h1.sq, by rw [h2.length, binds_length e], Tg.oks r s h2 e (fun i hi => hs i (by rw [Tg.slots]; exact hi)) q⟩
    | tpo h1 h2 =>
      rw [Tg.bind] at e
      rw [Tg.rd]
      exact ⟨_, _, rfl, Evl.ex_t frz_ex h1, by rw [h2.length, binds_length e], Tg.oks r s h2 e (fun i hi => hs i (by rw [Tg.slots]; exact hi)) q⟩
    | _ => simp [Tg.bind] at e
theorem Tg.oks (r : Rep g c S H) : ∀ {ts : List Tg} {ws : List V} {ds : List D} {σ : St} {τ τ' : DSt} {Q : St → Hp → Prop}, Sl g (frz g c S H) c σ τ → Vls g (frz g c S H) c ws ds → Tg.binds ts ds τ = some τ' → (∀ i ∈ Tg.slotss ts, i ∈ vs) →
    (∀ σ', Sl g (frz g c S H) c σ' τ' → wipe σ' vs = wipe σ vs → Q σ' H) → Tg.rds g.K ts ws σ H Q
  | [], ws, ds, σ, τ, τ', Q, s, hv, e, hs, q => by
    cases hv with
    | nil =>
      rw [Tg.binds] at e
      cases e
      rw [Tg.rds]
      exact ⟨rfl, q σ s rfl⟩
    | cons h t => simp [Tg.binds] at e
  | t :: ts, ws, ds, σ, τ, τ', Q, s, hv, e, hs, q => by
    cases hv with
    | nil => simp [Tg.binds] at e
    | cons h tl =>
      rename_i v d ws ds
      rw [Tg.binds] at e
      cases q1 : Tg.bind t d τ with
      | none => rw [q1] at e; cases e
      | some τ1 =>
        rw [q1] at e
        rw [Tg.rds]
        refine ⟨v, ws, rfl, Tg.ok r s h q1 (fun i hi => hs i (by rw [Tg.slotss]; exact List.mem_append_left _ hi)) fun σ' s' w' => ?_⟩
        exact Tg.oks r s' tl e (fun i hi => hs i (by rw [Tg.slotss]; exact List.mem_append_right _ hi)) fun σ2 s2 w2 => q σ2 s2 (w2.trans w')
end
end
def forL (t : Tg) (body : SM) : List D → SM
  | [], τ, S => .ok (.nx τ) S
  | d :: ds, τ, S => (match t.bind d τ with
    | some τ1 => (match body τ1 S with
      | .ok (.nx τ2) S2 => forL t body ds τ2 S2
      | .ok (.ct τ2) S2 => forL t body ds τ2 S2
      | .ok (.bk τ2) S2 => .ok (.nx τ2) S2
      | r => r)
    | none => .bad)
def sFor (it : IM) (t : Tg) (body : SM) : SM := fun τ => sOf (it τ) τ fun xs => forL t body xs τ
theorem ds_for {iter tg : Expr} {body : List Stmt} {it : IM} {t : Tg} (hp : PassesOwn (model X.prog X.w) X.A X.env X.xe) (hc : X.calm = true) (hi : PI X tg iter (tIt (gx X cur hid) W it)) (hg : PG X tg (t.rd X.K)) (hb : PSs X body (tS (gx X cur hid) W s1))
    (hs : ∀ x, foldedSetIterable iter X.env x = pure x := by intro _; rfl) : PS X (.For tg iter body [] pos) (tS (gx X cur hid) W (sFor it t s1)) := PS.imp (ps_for hp hc hi hg hb hs) fun De σ H h => by
  obtain ⟨c, S, τ, r, s, o⟩ := h
  refine ⟨c, S, τ, r, s, OutS.of s o fun xs c1 S1 H1 f1 o1 J wk => ?_⟩
  have s1' := s.mono f1.ex f1.pre
  refine ⟨fun i m σ' H' => ∃ c' S' τ', Fut (gx X cur hid) c1 S1 H1 c' S' H' ∧ Sl (gx X cur hid) (frz (gx X cur hid) c' S' H') c' σ' τ' ∧ m = xs.length - i ∧ i ≤ xs.length ∧ OutS (gx X cur hid) W c' S' H' De (forL t s1 (xs.drop i) τ' S'),
    ⟨xs.length, c1, S1, τ, Fut.refl f1.rep, s1', by simp, Nat.zero_le _, by simpa using o1⟩, ?_⟩
  rintro i m σ' H' ⟨c', S', τ', f, s', rfl, hi', o'⟩
  by_cases hlt : i < xs.length
  · refine .inr ⟨wk.go i _ c' S' H' f.later hlt, _, fun σ2 H2 h2 => ⟨xs.length - (i + 1), by omega, h2⟩, fun v H2 y => ?_⟩
    obtain ⟨f2, hv⟩ := wk.yld i _ c' S' H' v H2 f.later y xs[i] (by simp [hlt])
    rw [List.drop_eq_getElem_cons hlt, forL] at o'
    cases q : t.bind xs[i] τ' with
    | none => rw [q] at o'; exact o'.elim
    | some τ1 =>
      rw [q] at o'
      have o2 := o'.fut f2
      dsimp only at o2
      refine Tg.ok (g := gx X cur hid) (vs := t.slots) f2.rep (s'.mono f2.ex f2.pre) hv q (fun _ h => h) fun σ2 sl2 _ => ?_
      refine ⟨c', S', τ1, f2.rep, sl2, ?_⟩
      have again : ∀ {τ2 : DSt} {S2 : Store} {σ3 : St} {H3 : Hp} {c3 : List Addr}, OutS (gx X cur hid) W c' S' H2 De (forL t s1 (xs.drop (i + 1)) τ2 S2) → Fut (gx X cur hid) c' S' H2 c3 S2 H3 → Sl (gx X cur hid) (frz (gx X cur hid) c3 S2 H3) c3 σ3 τ2 →
          ∃ c' S' τ', Fut (gx X cur hid) c1 S1 H1 c' S' H3 ∧ Sl (gx X cur hid) (frz (gx X cur hid) c' S' H3) c' σ3 τ' ∧ xs.length - (i + 1) = xs.length - (i + 1) ∧ i + 1 ≤ xs.length ∧ OutS (gx X cur hid) W c' S' H3 De (forL t s1 (xs.drop (i + 1)) τ' S') := fun {τ2 S2 σ3 H3 c3} o3 f3 sl3 =>
        ⟨c3, S2, τ2, (f.trans f2).trans f3, sl3, rfl, hlt, o3.fut f3⟩
      cases e : s1 τ1 S' with
      | ok fl S2 =>
        rw [e] at o2
        cases fl with
        | nx τ2 => exact fun σ3 H3 c3 f3 sl3 => again o2 f3 sl3
        | ct τ2 => exact fun σ3 H3 c3 f3 sl3 => again o2 f3 sl3
        | bk τ2 => exact o2
        | rt d => exact o2
      | err C fs τ2 S2 => rw [e] at o2; exact o2
      | bad => rw [e] at o2; exact o2
  · have e : i = xs.length := by omega
    subst e
    rw [List.drop_length] at o'
    exact .inl ⟨wk.stop _ _ c' S' H' f.later (Nat.le_refl _), o' σ' H' c' (Fut.refl f.rep) s'⟩
theorem dg_name {i : Nat} {x : Str} (hN : X.N.Nodup) (hi : X.N[i]? = some x) (hx : Loc X.env.scope x) (hf : X.fn x = true ∨ X.env.scope.names.lookup x = some .local := by first | exact .inl rfl | exact .inr rfl | assumption) : PG X (.Name x pos) ((Tg.nm i).rd X.K) := by
  rw [Tg.rd]
  exact pg_name hN hi hx hf
theorem dgs_nil : PGs X [] (Tg.rds X.K []) := by rw [Tg.rds]; exact pgs_nil
theorem dgs_cons {e : Expr} {es : List Expr} {t : Tg} {ts : List Tg} (h1 : PG X e (t.rd X.K)) (h2 : PGs X es (Tg.rds X.K ts)) (hs : (assignEach (e :: es) X.env).map (·.2) = assign e X.env :: (assignEach es X.env).map (·.2) := by rfl) : PGs X (e :: es) (Tg.rds X.K (t :: ts)) := by
  rw [Tg.rds]
  exact pgs_cons h1 h2 hs
theorem dg_tup {es : List Expr} {k : Nat} {ts : List Tg} (hc : X.calm = true) (h : PGs X es (Tg.rds X.K ts)) (hn : (assignEach es X.env).length = ts.length := by rfl) (hst : (assignEach es X.env).findIdx? (·.1) = none := by rfl) : PG X (.Tuple es k pos) ((Tg.tp ts).rd X.K) := by
  rw [Tg.rd]
  exact pg_tup hc h hn hst
def whileL (t : TM) (body : SM) : Nat → SM
  | 0, _, _ => .bad
  | n + 1, τ, S => sOf (t τ) τ (fun b S1 => if b = true then (match body τ S1 with
      | .ok (.nx τ2) S2 => whileL t body n τ2 S2
      | .ok (.ct τ2) S2 => whileL t body n τ2 S2
      | .ok (.bk τ2) S2 => .ok (.nx τ2) S2
      | r => r) else .ok (.nx τ) S1) S
theorem ds_while {cc : Expr} {body : List Stmt} (fuel : Nat) (hp : PassesOwn (model X.prog X.w) X.A X.env X.xe) (hc : PT X cc (tT g W tm)) (hb : PSs X body (tS g W s1)) : PS X (.While cc body [] pos) (tS g W (whileL tm s1 fuel)) := PS.imp (ps_while hp hc hb) fun De σ H h => by
  refine ⟨fun n σ' H' => tS g W (whileL tm s1 n) De σ' H', ⟨fuel, h⟩, ?_⟩
  rintro n σ' H' ⟨c, S, τ, r, s, o⟩
  cases n with
  | zero => exact o.elim
  | succ n =>
    refine ⟨c, S, τ, r, s, OutS.of s o fun b c1 S1 H1 f1 o1 => ?_⟩
    have s1' := s.mono f1.ex f1.pre
    cases b with
    | false => exact o1 _ H1 c1 (Fut.refl f1.rep) s1'
    | true =>
      rw [if_pos rfl] at o1
      show (if true = true then _ else _)
      rw [if_pos rfl]
      refine ⟨fun σ2 H2 => tS g W (whileL tm s1 n) De σ2 H2, fun σ2 H2 h2 => ⟨n, Nat.lt_succ_self n, h2⟩, c1, S1, τ, f1.rep, s1', ?_⟩
      cases e : s1 τ S1 with
      | ok fl S2 =>
        rw [e] at o1
        cases fl with
        | nx τ2 => exact fun σ3 H3 c3 f3 sl3 => ⟨c3, S2, τ2, f3.rep, sl3, o1.fut f3⟩
        | ct τ2 => exact fun σ3 H3 c3 f3 sl3 => ⟨c3, S2, τ2, f3.rep, sl3, o1.fut f3⟩
        | bk τ2 => exact o1
        | rt d => exact o1
      | err C fs τ2 S2 => rw [e] at o1; exact o1
      | bad => rw [e] at o1; exact o1
end
end ND
set_option maxHeartbeats 2000000
namespace L2
open PySem PySem.Spec PyProof.Rows
structure RoomG (k : Nat) (A : Around) : Prop extends Room k A where
  gd : A.guards = some []
section
variable {P : Program} {w : World} {K : PySem.W.Frag} {mg : Str → Option Value} {base : Heap} {CX : CXT} {k : Nat} {f : Addr} {fd : FuncData} {ps : List Str} {sp : Sp} {A : Around}
theorem RoomG.mono {j : Nat} (r : RoomG k A) (h : j ≤ k) : RoomG j A := ⟨r.toRoom.mono h, r.gd⟩
theorem RoomG.deeper (r : RoomG (k + 1) A) (env : Env) : RoomG k (A.deeper env) := ⟨r.toRoom.deeper env, r.gd⟩
theorem RoomG.in1 (r : RoomG (k + 1) A) : RoomG k A.in1 := ⟨r.toRoom.in1, r.gd⟩
theorem make_guards {C : Addr} {us : List Value} {kw : List (Str × Value)} : (A.under (.builtin "type.__call__" ⟨.ref C :: us, kw⟩)).guards = A.guards := by
  have e : (Code.builtin "type.__call__" ⟨.ref C :: us, kw⟩).guards = [] := by simp [Code.guards, Code.isGuard, guardIds]
  unfold Around.under
  dsimp only
  rw [e]
  cases A.guards <;> rfl
theorem RoomG.make (r : RoomG (k + 1) A) (C : Addr) (us : List Value) (kw : List (Str × Value)) : RoomG k (A.under (.builtin "type.__call__" ⟨.ref C :: us, kw⟩)) := ⟨r.toRoom.make C us kw, make_guards.trans r.gd⟩
structure FnG (P : Program) (w : World) (K : PySem.W.Frag) (mg : Str → Option Value) (base : Heap) (CX : CXT) (k : Nat) (f : Addr) (fd : FuncData) (ps : List Str) (sp : Sp) : Prop where
  len : ∀ xs G Q E, sp xs G Q E → xs.length = ps.length
  run : ∀ (A : Around) (outer : List Env) (sh : Shared) (G : Hp) (args : Args) (us : List Value) (xs : List V) (Q : VK) (E : XK), RoomG k A → Env0 P w K mg base A outer sh G → BindsTo sh fd args (ps.zip us) → Vals xs us → sp xs G Q E → codeAny (model P w) A (.call (.ref f) args) (CR CX outer P w G sh Q E) sh
theorem FnG.mono {j : Nat} (F : FnG P w K mg base CX j f fd ps sp) (h : j ≤ k) : FnG P w K mg base CX k f fd ps sp := ⟨F.len, fun A outer sh G args us xs Q E room => F.run A outer sh G args us xs Q E (room.mono h)⟩
theorem fnG_of {name qual : Str} {params : Arguments} {body : List Stmt} {scope : Scope} {dV kV doc pm cdv ct oc : Value} {an od : Option Addr} {osl : Array (Option Value)} {N : List Str}
    (at_ : K.lookup f = some ⟨oc, od, .func (PySem.W.fnOf name qual params body scope dV kV doc pm an cdv ct), osl⟩) (isC : PySem.W.codeIn K cdv qual = true) (Sc : FnScope N ps scope) (len : ∀ xs G Q E, sp xs G Q E → xs.length = ps.length)
    (bd : ∀ (A : Around) (outer : List Env) (sh : Shared) (G : Hp) (xs : List V) (Q : VK) (E : XK), RoomG k (A.deeper (envOfC qual scope sh.heap.objs.size f cdv)) → sp xs G Q E → ∃ t, PSs (cxOf CX P w K mg base N qual scope f cdv A outer sh G E) body t ∧ t { nx := fun _ H' => Q .non H', rt := Q } (start N xs) G) :
    FnG P w K mg base CX (k + 1) f (PySem.W.fnOf name qual params body scope dV kV doc pm an cdv ct) ps sp where
  len := len
  run := fun A outer sh G args us xs Q E room e0 to rel want => by
    have inK : K.In sh.heap := e0.mod.kin.keeps fun b o e => (e0.bs b o e).1
    have noL : sh.heap.NoLimit := e0.mod.nolimit.keeps fun b o e => (e0.bs b o e).1
    refine codeAny_call_function room.toRoom.depth (inK _ _ at_) rfl Sc.co Sc.gen rfl (PySem.W.codeRec_of inK isC) (to _ _ _ _ (wpAny_newFunctionEnv_cells Sc.kind (fun y hy => ?_) fun env isE s1 inC => ?_))
    · rcases Sc.par y.1 (List.of_mem_zip hy).1 with loc | cel
      · exact .inl loc
      · exact .inr ⟨cel, PySem.W.cellsFrom_some _ _ _ (.inl cel)⟩
    · subst isE
      obtain ⟨t, runs, q⟩ := bd A outer sh G xs Q E (room.deeper _) want
      have inv := inv_start (CX := CX) (base := base) (E := E) Sc room.toRoom.hd e0 (len _ _ _ _ want) rel inC
      refine ⟨noL.keeps inC.toInCall.keep, codeAny_func (wpAny_mono (runs.run [] s1 (start N xs) G _ inv q) (fun fl s' ended => ?_) fun _ _ z => z)⟩
      cases fl with
      | ret u => obtain ⟨v, _, G', inv', rv, q'⟩ := ended; exact ⟨v, G', inv'.os, inv'.bare, inv'.base, inv'.hok, rv, q'⟩
      | next => obtain ⟨_, G', inv', q'⟩ := ended; exact ⟨V.non, G', inv'.os, inv'.bare, inv'.base, inv'.hok, rfl, q'⟩
      | brk => exact ended.elim fun _ z => z.elim fun _ z => z.2.elim
      | cont => exact ended.elim fun _ z => z.elim fun _ z => z.2.elim
theorem FunD.okG {x qual : Str} {params : Arguments} {body : List Stmt} {scope : Scope} {dvs : List V} {kws : List (Str × V)} {N : List Str} (F : FunD K x qual params body scope dvs kws f fd) (Sc : FnScope N ps scope) (len : ∀ xs G Q E, sp xs G Q E → xs.length = ps.length)
    (bd : ∀ (cdv : Value) (A : Around) (outer : List Env) (sh : Shared) (G : Hp) (xs : List V) (Q : VK) (E : XK), RoomG k (A.deeper (envOfC qual scope sh.heap.objs.size f cdv)) → sp xs G Q E → ∃ t, PSs (cxOf CX P w K mg base N qual scope f cdv A outer sh G E) body t ∧ t { nx := fun _ H' => Q .non H', rt := Q } (start N xs) G) :
    FnG P w K mg base CX (k + 1) f fd ps sp := by
  obtain ⟨_, _, _, _, _, _, _, cdv, _, _, rfl, at_, isC, _, _⟩ := F.ex
  exact fnG_of at_ isC Sc len fun A outer sh G xs Q E room want => bd cdv A outer sh G xs Q E room want
end
section
variable {X : Cx} {CX : CXT} {k : Nat} {f : Addr} {fd : FuncData} {ps : List Str} {sp : Sp} {E : St → XK} {x : Str} {p pos : Pos} {e : Expr} {es : List Expr} {t : TA}
theorem run_fnG {pins : List (Addr × Obj)} {st : St} {G : Hp} {sh : Shared} {Q : VK} {us : List Value} {xs : List V} (F : FnG X.prog X.w X.K X.mg X.base CX k f fd ps sp) (room : RoomG k X.A) (bd : Binds X.K fd ps []) (pass : PassesAt CX X st (E st))
    (inv : Inv X pins st G sh) (rel : Vals xs us) (want : sp xs G Q (E st)) : wpAny (model X.prog X.w) X.A (call (.ref f) us) (EP X pins st Q) X.xe sh := by
  have to := bd sh us inv.kIn (by rw [List.append_nil, ← rel.length]; exact F.len _ _ _ _ want)
  rw [List.append_nil] at to
  refine wpAny_call (codeAny_mono (F.run X.A X.stack sh G ⟨us, []⟩ us xs Q (E st) room inv.env0 to rel want) fun r s' ended => ?_)
  match r with
  | .error e => exact pass pins G sh e s' inv ended
  | .ok (.ret u) => exact inv.after ended
  | .ok .next => exact ended.elim
  | .ok .brk => exact ended.elim
  | .ok .cont => exact ended.elim
theorem pe_callG (F : FnG X.prog X.w X.K X.mg X.base CX k f fd ps sp) (room : RoomG k X.A) (glob : Gl X x) (isF : X.mg x = some (.ref f)) (kept : PySem.W.keepIn X.K (.ref f) = true) (bd : Binds X.K fd ps []) (pass : ∀ st, PassesAt CX X st (E st)) (ha : PA X (e :: es) t)
    (ndb : (x == ("__debug__" : Str)) = false := by decide) (plain : starEach (e :: es) X.env = (false, eval e X.env) :: starEach es X.env := by rfl) (nostar : (backTo pos (starEach es X.env)).any (·.1) = false := by rfl) : PE X (.Call (.Name x p) (e :: es) [] pos) (tCallS sp E t) where
  run := fun pins sh st G Q inv want => wpAny_Call_Name_kw (ld_glob inv glob isF (PySem.W.callWith_K (h₀ := X.base) inv.ok.mod.kin kept (thn (ha.run pos pins sh st G _ inv want) fun us s1 ⟨xs, G1, inv1, rel, q⟩ => ⟨inv1.kIn, run_fnG F room bd (pass st) inv1 rel q⟩) plain nostar) ndb)
end
theorem callG {P : Program} {w : World} {K : PySem.W.Frag} {mg mb : Str → Option Value} {CX : CXT} {k : Nat} {fa a : Addr} {fd : FuncData} {x : Str} {sp : Sp} {s1 : Shared} {us : List Value} {ns : List Int}
    (inK : K.In s1.heap) (glo : s1.heap.Ns mainGlobals mg) (bui : s1.heap.Ns builtinsNs mb) (same : ∀ x : Str, x ≠ "__name__" → mb x = bootBuiltins x) (noL : s1.heap.NoLimit) (gens : s1.gens = #[]) (obj : s1.heap.get? a = some { cls := .type "list", data := .seq us.toArray }) (areI : IntsAre us ns) (few : ns.length ≤ sizeLine) (room : RoomG k callerA)
    (F : ∀ base : Heap, K.In base → base.Ns mainGlobals mg → FnG P w K mg base CX k fa fd [x] sp) (to : ∀ (s : Shared) (u : Value), BindsTo s fd ⟨[u], []⟩ [(x, u)]) (want : ∀ G : Hp, Only G → SqL K G a (ns.map V.int) → sp [.ref a] G (fun v _ => v = .bl true) fun _ _ _ => False) (noX : ∀ G e s', CX [] G s1 (fun _ _ _ => False) e s' → False) :
    codeAny (model P w) callerA (.call (.ref fa) ⟨[.ref a], []⟩) (fun r s' => r = .ok (.ret (.bool true)) ∧ OldK s1.heap s'.heap ∧ s'.os = s1.os ∧ AllBare s'.gens) s1 := by
  have main : ∀ G : Hp, Only G → SqL K G a (ns.map V.int) → HOk P w G s1.heap → (∀ b, G b ≠ none → b = a ∧ K.lookup a = none) → codeAny (model P w) callerA (.call (.ref fa) ⟨[.ref a], []⟩) (fun r s' => r = .ok (.ret (.bool true)) ∧ OldK s1.heap s'.heap ∧ s'.os = s1.os ∧ AllBare s'.gens) s1 := by
    intro G only sq ok lone
    have dicts : ∀ {b : Addr} {m : Str → Option Value}, s1.heap.Ns b m → (hidT s1.heap G).Ns b m := fun {b m} ⟨o, es, ep, e, d, r⟩ => by
      refine ⟨o, es, ep, hidT_get e ?_, d, r⟩
      by_cases q : G b = none
      · exact q
      · obtain ⟨rfl, _⟩ := lone b q
        rw [obj] at e
        cases e
        exact absurd (show Data.seq us.toArray _ = Data.dict es ep from d) (by intro z; cases z)
    have inB : K.In (hidT s1.heap G) := fun b o e => hidT_get (inK b o e) (by
      by_cases q : G b = none
      · exact q
      · obtain ⟨rfl, z⟩ := lone b q
        rw [z] at e; cases e)
    have e0 : Env0 P w K mg (hidT s1.heap G) callerA [] s1 G :=
      { frames := rfl, mod := ⟨inB, dicts glo, ⟨mb, dicts bui, same⟩, let ⟨mc, h1, h2⟩ := noL; ⟨mc, dicts h1, h2⟩⟩, bs := fun b o e => of_hidT e, bsz := Nat.le_of_eq (hidT_size _ _), funs := trivial
        frf := fun b z => absurd (show b ∈ ([] : List Addr) from z) List.not_mem_nil, hok := ok, bare := .of_eq gens }
    refine codeAny_mono ((F _ inB (dicts glo)).run callerA [] s1 G ⟨[.ref a], []⟩ [.ref a] [.ref a] _ _ room e0 (to s1 (.ref a)) (.cons rfl .nil) (want G only sq)) fun r s' ended => ?_
    match r with
    | .error e => exact (noX G e s' ended).elim
    | .ok .next => exact ended.elim
    | .ok .brk => exact ended.elim
    | .ok .cont => exact ended.elim
    | .ok (.ret u) =>
      obtain ⟨v, G', os, bare, un, ok', rv, q⟩ := ended
      obtain rfl : v = .bl true := q
      obtain rfl : u = Value.bool true := rv
      refine ⟨rfl, OldK.of_keep fun b o e => ?_, os, bare⟩
      rcases only b with free | ⟨ob, ys, isF⟩
      · exact un.keep b o e free (fun z => absurd (show b ∈ ([] : List Addr) from z) List.not_mem_nil) (by simp)
      · have e1 := (ok b _ isF).1
        rw [e] at e1
        cases e1
        exact (ok' b _ (un.frzs b _ _ isF)).1
  have rel := vals_ints areI
  cases hk : K.lookup a with
  | some o =>
    have e := inK a o hk
    rw [obj] at e
    cases e
    exact main (fun _ => none) (fun _ => .inl rfl) (.inr ⟨_, us.toArray, _, hk, rfl, rfl, rfl, by rw [List.size_toArray, areI.length]; exact few, by simpa using rel⟩) (fun b u z => nomatch z) fun b z => absurd rfl z
  | none =>
    have at_ : ∀ b : Addr, (if b = a then some (HO.frz { cls := .type "list", data := .seq us.toArray } (.lst (ns.map V.int))) else none) = none ∨ b = a := fun b => (Decidable.em (b = a)).elim .inr fun z => .inl (if_neg z)
    refine main (fun b => if b = a then some (.frz { cls := .type "list", data := .seq us.toArray } (.lst (ns.map V.int))) else none) (fun b => (Decidable.em (b = a)).elim (fun z => .inr ⟨_, _, if_pos z⟩) fun z => .inl (if_neg z)) (.inl (.inr ⟨_, if_pos rfl⟩)) (fun b u z => ?_) fun b z => ⟨(at_ b).resolve_left z, hk⟩
    rcases at_ b with n | rfl
    · exact absurd (n.symm.trans z) (by intro z; cases z)
    · cases (if_pos rfl).symm.trans z
      exact ⟨obj, by rw [List.length_map]; exact few, us, _, rel, obj⟩
theorem walkG {l : PySem.W.OpenLaw} {n k : Nat} {q : Program} {loose : List Str} {XP : (Str → Option Value) → Heap → Prop} {YP : World → Heap → Prop} {d : DefRec} {CX : CXT} {x : Str} (most : l.most = some n) (few : n ≤ sizeLine) (plain : d.params.defaults = []) (room : RoomG k callerA)
    (F : ∀ (w : World) (mg : Str → Option Value) (fa : Addr) (h : Heap), YP w h → h.Ns mainGlobals mg → mg d.name = some (.ref fa) → ∃ (K : PySem.W.Frag) (fd : FuncData) (sp : Sp), K.In h ∧ (∀ (s : Shared) (u : Value), BindsTo s fd ⟨[u], []⟩ [(x, u)]) ∧
      (∀ (G : Hp) (a : Addr) (ns : List Int), ns.length ≤ n → Only G → SqL K G a (ns.map V.int) → sp [.ref a] G (fun v _ => v = .bl true) fun _ _ _ => False) ∧ ∀ base : Heap, K.In base → base.Ns mainGlobals mg → FnG l.prog w K mg base CX k fa fd [x] sp)
    (noX : ∀ (G : Hp) (s : Shared) (e : Value) (s' : Shared), CX [] G s (fun _ _ _ => False) e s' → False) : PySem.W.WalkO q loose XP YP l.row.toRowW d [] (fun f vs => PySem.call f vs) :=
  Att.attach_call most plain fun w _ s1 mg mb fa _ _ _ _ a us ns Gd Y _ _ _ isF obj areI len gens => by
    obtain ⟨K, fd, sp, inK, to, want, Fs⟩ := F w mg fa _ Y Gd.T.g isF
    exact callG inK Gd.T.g Gd.T.b Gd.T.builtins Gd.T.nolimit gens obj areI (Nat.le_trans len few) room Fs to (fun G o s => want G a ns len o s) fun G e s' => noX G s1 e s'
end L2
namespace ND
open PySem L2
section
variable {X : Cx} {g : G} {W : WX} {a b e o : Expr} {es : List Expr} {m ma mb mc mo : EM} {ms : AM} {pos p : Pos} {cur : Cur} {hid : List Addr} {st : Stmt} {rest : List Stmt} {s1 s2 : SM} {tm : TM}
def wipeD (τ : DSt) : List Nat → DSt
  | [] => τ
  | i :: r => (wipeD τ r).set i none
theorem Sl.wipe {F : Hp} {c : List Addr} {σ : St} {τ : DSt} (h : Sl g F c σ τ) : ∀ vs : List Nat, Sl g F c (L2.wipe σ vs) (wipeD τ vs)
  | [] => h
  | i :: r => by
    have ih := Sl.wipe h r
    exact ih.forget i none
theorem Sl.same {g' : G} {F : Hp} {c : List Addr} {σ : St} {τ : DSt} (e : SameM g g') (h : Sl g F c σ τ) : Sl g' F c σ τ := by
  induction h with
  | nil => exact .nil
  | un _ ih => exact .un ih
  | hs v _ ih => exact .hs (v.same e) ih
def compL (t : Tg) (tt : TM) (te : EM) (τ : DSt) : List D → List D → M (List D)
  | [], acc => pure acc
  | d :: ds, acc => (match t.bind d τ with
    | some τ1 => tt τ1 >>= fun b => if b = true then te τ1 >>= fun y => M.chk (decide (acc.length < sizeLine)) (compL t tt te τ ds (acc ++ [y])) else compL t tt te τ ds acc
    | none => M.no)
def noErr {α : Type} (m : M α) : M α := fun S => match m S with
  | .ok a S' => .ok a S'
  | _ => .bad
def mComp (it : IM) (vs : List Nat) (t : Tg) (tt : TM) (te : EM) : EM := fun τ => it τ >>= fun xs => noErr (compL t tt te (wipeD τ vs) xs []) >>= fun ys => pure (.lst ys)
def mCompC (it : IM) (vs : List Nat) (t : Tg) (tt : TM) (te : EM) : EM := fun τ => it τ >>= fun xs => noErr (compL t tt te (wipeD τ vs) xs []) >>= fun ys => newCell (.lst ys)
abbrev WF : WX := fun _ _ _ _ => False
def tYesD : TM := fun _ => pure true
theorem dts_nil : PTs X [] (tT g W tYesD) := ⟨fun pins s σ H Q I h => (pts_nil (X := X)).run pins s σ H Q I (by
  obtain ⟨c, S, τ, r, s, o⟩ := h
  exact o H c (Fut.refl r))⟩
theorem dts_one {c : Expr} (h : PT X c (tT g W tm)) : PTs X [c] (tT g W tm) := pts_one h
structure Hf (g : G) (c : List Addr) (S : Store) (H1 : Hp) (p : Addr) (c' : List Addr) (S' : Store) (H : Hp) : Prop where
  l : Later g c S H1 (g.hide p) c' S' H
  hid : ∀ a ∈ g.hid, H a = H1 a
theorem Hf.start {c : List Addr} {S : Store} {H1 : Hp} {p : Addr} {o : HO} (r : Rep g c S H1) (hp : H1 p = none) : Hf g c S H1 p c S (upd H1 p o) := by
  obtain ⟨r1, ef⟩ := r.hide (o := o) hp
  have hh : ∀ a ∈ g.hid, upd H1 p o a = H1 a := fun a ha => upd_ne fun z => by
    obtain ⟨o, e⟩ := r.hs a ha
    rw [z, hp] at e; cases e
  exact ⟨⟨SameM.hide g p, Pre.refl c, r1, by rw [ef]; exact Evl.Ex.refl _, hh⟩, hh⟩
theorem Hf.step {c c' c2 : List Addr} {S S' S2 : Store} {H1 H H2 : Hp} {p : Addr} (h : Hf g c S H1 p c' S' H) (f : Fut (g.hide p) c' S' H c2 S2 H2) : Hf g c S H1 p c2 S2 H2 :=
  ⟨⟨h.l.same, h.l.pre.trans f.pre, f.rep, h.l.ex.trans f.ex, fun a ha => (f.hid a (show a ∈ p :: g.hid from List.mem_cons_of_mem _ ha)).trans (h.hid a ha)⟩, fun a ha => (f.hid a (show a ∈ p :: g.hid from List.mem_cons_of_mem _ ha)).trans (h.hid a ha)⟩
theorem Hf.put {c c' : List Addr} {S S' : Store} {H1 H : Hp} {p : Addr} {o : HO} (h : Hf g c S H1 p c' S' H) (np : p ∉ g.hid) : Hf g c S H1 p c' S' (upd H p o) ∧ frz (g.hide p) c' S' (upd H p o) = frz (g.hide p) c' S' H := by
  obtain ⟨r1, ef⟩ := h.l.rep.hput (o := o)
  have hh : ∀ a ∈ g.hid, upd H p o a = H1 a := fun a ha => by rw [upd_ne (fun z : a = p => np (by rw [← z]; exact ha))]; exact h.hid a ha
  exact ⟨⟨⟨h.l.same, h.l.pre, r1, by rw [ef]; exact h.l.ex, hh⟩, hh⟩, ef⟩
theorem Hf.fut {c c' : List Addr} {S S' : Store} {H1 H : Hp} {p : Addr} (h : Hf g c S H1 p c' S' H) : Fut g c S H1 c' S' H := by
  obtain ⟨r2, ex, _⟩ := h.l.rep.bare
  exact ⟨h.l.pre, r2, h.l.ex.trans ex, h.hid⟩
theorem not_hid {c : List Addr} {S : Store} {H : Hp} {p : Addr} (r : Rep g c S H) (hp : H p = none) : p ∉ g.hid := fun z => by
  obtain ⟨o, e⟩ := r.hs p z
  rw [hp] at e; cases e
theorem wipe_wipe (σ : St) (vs : List Nat) : wipe (wipe σ vs) vs = wipe σ vs := by
  apply List.ext_getElem?
  intro j
  by_cases hj : j ∈ vs
  · have l1 : (wipe (wipe σ vs) vs).length = σ.length := by rw [wipe_length, wipe_length]
    have l2 : (wipe σ vs).length = σ.length := wipe_length σ vs
    have no : ∀ σ' : St, σ'.length = σ.length → ∀ z : (wipe σ' vs).length = σ.length, j < σ.length → (wipe σ' vs)[j]? = some none := fun σ' _ l hl => by
      cases z : (wipe σ' vs)[j]? with
      | none => rw [List.getElem?_eq_none_iff] at z; omega
      | some y =>
        cases y with
        | none => rfl
        | some v => exact absurd hj (wipe_some z).2
    rcases Nat.lt_or_ge j σ.length with q | q
    · rw [no (wipe σ vs) l2 l1 q, no σ rfl l2 q]
    · rw [List.getElem?_eq_none (by omega), List.getElem?_eq_none (by omega)]
  · rw [wipe_out hj]
theorem noErr_ok {α : Type} {m : M α} {S S' : Store} {a : α} (h : m S = .ok a S') : noErr m S = .ok a S' := by unfold noErr; rw [h]
theorem comp_core {t : Tg} {tt : TM} {te : EM} {vs : List Nat} {σ : St} {H1 : Hp} {c : List Addr} {S : Store} {τ : DSt} {xs : List D} {J : It} {Qd : Addr → Hp → Prop} {R : List D → List Addr → Store → Hp → Prop} {E : XK}
    (r : Rep g c S H1) (sl : Sl g (frz g c S H1) c σ τ) (wk : Walks g c S H1 J xs) (ht : ∀ i ∈ t.slots, i ∈ vs) (o : Out g c S H1 R E (noErr (compL t tt te (wipeD τ vs) xs []) S))
    (q : ∀ p ys us c' S' H', H1 p = none → Hf g c S H1 p c' S' H' → H' p = some (.lst us) → Vls (g.hide p) (frz (g.hide p) c' S' H') c' us ys → (∀ H'' c'', Fut g c S H1 c'' S' H'' → R ys c'' S' H'') → Qd p H') :
    ∀ p, H1 p = none → ∃ Wv : Nat → Nat → Hp → Prop, (∃ m, Wv 0 m (upd H1 p (.lst []))) ∧ ∀ i m H, Wv i m H →
      (J.stop i H ∧ Qd p H) ∨ (J.go i H ∧ ∃ Nx : Hp → Prop, (∀ H', Nx H' → ∃ m', m' < m ∧ Wv (i + 1) m' H') ∧ ∀ x H', J.yld i H x H' → t.rd g.K x (wipe σ vs) H' fun σ2 H2 => wipe σ2 vs = wipe σ vs ∧ tT (g.hide p) WF tt σ2 H2 fun b H3 =>
        if b = true then tE (g.hide p) WF te σ2 H3 fun y H4 => ∃ acc, H4 p = some (.lst acc) ∧ acc.length < sizeLine ∧ Nx (upd H4 p (.lst (acc ++ [y]))) else Nx H3) := by
  intro p hp
  have np := not_hid r hp
  have pm : p ∈ (g.hide p).hid := List.mem_cons_self
  refine ⟨fun i m H => ∃ c' S' acc us, Hf g c S H1 p c' S' H ∧ H p = some (.lst us) ∧ Vls (g.hide p) (frz (g.hide p) c' S' H) c' us acc ∧ m = xs.length - i ∧ i ≤ xs.length ∧ Out g c S H1 R E (noErr (compL t tt te (wipeD τ vs) (xs.drop i) acc) S'),
    ⟨xs.length, c, S, [], [], Hf.start r hp, upd_same, .nil, by simp, Nat.zero_le _, by simpa using o⟩, ?_⟩
  rintro i m H ⟨c', S', acc, us, hf, hH, vl, rfl, hi, o'⟩
  by_cases hlt : i < xs.length
  · refine .inr ⟨wk.go i _ c' S' H hf.l hlt, _, fun H' h' => ⟨xs.length - (i + 1), by omega, h'⟩, fun x H2 y => ?_⟩
    obtain ⟨f2, hv⟩ := wk.yld i _ c' S' H x H2 hf.l y xs[i] (by simp [hlt])
    rw [List.drop_eq_getElem_cons hlt, compL] at o'
    cases q1 : t.bind xs[i] (wipeD τ vs) with
    | none => rw [q1] at o'; exact o'.elim
    | some τ1 =>
      rw [q1] at o'
      dsimp only at o'
      have slw : Sl (g.hide p) (frz (g.hide p) c' S' H2) c' (wipe σ vs) (wipeD τ vs) := ((Sl.wipe sl vs).same (SameM.hide g p)).mono (hf.l.ex.trans f2.ex) (hf.l.pre.trans f2.pre)
      refine Tg.ok (g := g.hide p) (vs := vs) f2.rep slw hv q1 ht fun σ2 sl2 w2 => ⟨w2.trans (wipe_wipe σ vs), c', S', τ1, f2.rep, sl2, ?_⟩
      have hf2 := hf.step f2
      cases e1 : tt τ1 S' with
      | err C fs S2 =>
        exfalso
        unfold noErr at o'
        rw [bind_def, e1] at o'
        exact o'
      | bad =>
        exfalso
        unfold noErr at o'
        rw [bind_def, e1] at o'
        exact o'
      | ok b S2 =>
        intro H3 c3 f3
        have hf3 := hf2.step f3
        have h3p : H3 p = some (.lst us) := by rw [f3.hid p pm, f2.hid p pm]; exact hH
        have vl3 := (vl.mono f2.ex f2.pre).mono f3.ex f3.pre
        cases b with
        | false =>
          show (if false = true then _ else _)
          rw [if_neg Bool.false_ne_true]
          refine ⟨c3, S2, acc, us, hf3, h3p, vl3, rfl, hlt, ?_⟩
          unfold noErr at o' ⊢
          rw [bind_def, e1] at o'
          exact o'
        | true =>
          show (if true = true then _ else _)
          rw [if_pos rfl]
          refine ⟨c3, S2, τ1, f3.rep, sl2.mono f3.ex f3.pre, ?_⟩
          unfold noErr at o'
          rw [bind_def, e1] at o'
          dsimp only at o'
          rw [if_pos rfl, bind_def] at o'
          cases e2 : te τ1 S2 with
          | err C fs S3 => rw [e2] at o'; exact o'.elim
          | bad => rw [e2] at o'; exact o'.elim
          | ok d S3 =>
            rw [e2] at o'
            dsimp only at o'
            intro H4 c4 f4 v hv4
            have hf4 := hf3.step f4
            have h4p : H4 p = some (.lst us) := by rw [f4.hid p pm]; exact h3p
            have vl4 := vl3.mono f4.ex f4.pre
            unfold M.chk at o'
            by_cases hl : acc.length < sizeLine
            · rw [if_pos (decide_eq_true hl)] at o'
              obtain ⟨hf5, ef⟩ := hf4.put (o := .lst (us ++ [v])) np
              refine ⟨us, h4p, by rw [vl4.length]; exact hl, c4, S3, acc ++ [d], us ++ [v], hf5, upd_same, by rw [ef]; exact vl4.append (.cons hv4 .nil), rfl, hlt, ?_⟩
              unfold noErr
              exact o'
            · rw [if_neg (fun z => hl (of_decide_eq_true z))] at o'
              exact o'.elim
  · have e : i = xs.length := by omega
    subst e
    rw [List.drop_length, compL] at o'
    exact .inl ⟨wk.stop _ _ c' S' H hf.l (Nat.le_refl _), q p acc us c' S' H hp hf hH vl fun H'' c'' f => o' H'' c'' f⟩
theorem pe_ex {I : Type} {t : I → TE} (h : ∀ i, PE X e (t i)) : PE X e (fun σ H Q => ∃ i, t i σ H Q) := ⟨fun pins s σ H Q I ⟨i, q⟩ => (h i).run pins s σ H Q I q⟩
theorem pts_ex {I : Type} {t : I → TT} (h : ∀ i, PTs X es (t i)) : PTs X es (fun σ H Q => ∃ i, t i σ H Q) := ⟨fun pins s σ H Q I ⟨i, q⟩ => (h i).run pins s σ H Q I q⟩
theorem tLc_mono {wi : TI} {gt : TG} {tt tt' : TT} {te te' : TE} {vs : List Nat} : True := trivial
section
variable {elt tg iter : Expr} {ifs : List Expr} {scope : Scope} {own : List (Str × Nat)} {it : IM} {t : Tg} {tt : TM} {te : EM}
theorem lc_of {J : It} {σ : St} {H1 : Hp} {vs : List Nat} {p : Addr} {Qd : Addr → Hp → Prop}
    (h : ∃ Wv : Nat → Nat → Hp → Prop, (∃ m, Wv 0 m (upd H1 p (.lst []))) ∧ ∀ i m H, Wv i m H →
      (J.stop i H ∧ Qd p H) ∨ (J.go i H ∧ ∃ Nx : Hp → Prop, (∀ H', Nx H' → ∃ m', m' < m ∧ Wv (i + 1) m' H') ∧ ∀ x H', J.yld i H x H' → t.rd X.K x (wipe σ vs) H' fun σ2 H2 => wipe σ2 vs = wipe σ vs ∧ tT (gx X cur (p :: hid)) WF tt σ2 H2 fun b H3 =>
        if b = true then tE (gx X cur (p :: hid)) WF te σ2 H3 fun y H4 => ∃ acc, H4 p = some (.lst acc) ∧ acc.length < sizeLine ∧ Nx (upd H4 p (.lst (acc ++ [y]))) else Nx H3))
    (mono : ∀ (x : V) (σ : St) (H : Hp) (Q Q' : St → Hp → Prop), (∀ σ' H', Q σ' H' → Q' σ' H') → t.rd X.K x σ H Q → t.rd X.K x σ H Q') :
    ∃ Wv : Nat → Nat → Hp → Prop, (∃ m, Wv 0 m (upd H1 p (.lst []))) ∧ ∀ i m H, Wv i m H →
      (J.stop i H ∧ Qd p H) ∨ (J.go i H ∧ ∃ Nx : Hp → Prop, (∀ H', Nx H' → ∃ m', m' < m ∧ Wv (i + 1) m' H') ∧ ∀ x H', J.yld i H x H' → t.rd X.K x (wipe σ vs) H' fun σ2 H2 => wipe σ2 vs = wipe σ vs ∧ (∃ hd, tT (gx X cur hd) WF tt σ2 H2 fun b H3 =>
        if b = true then (∃ hd, tE (gx X cur hd) WF te σ2 H3 fun y H4 => ∃ acc, H4 p = some (.lst acc) ∧ acc.length < sizeLine ∧ Nx (upd H4 p (.lst (acc ++ [y])))) else Nx H3)) := by
  obtain ⟨Wv, h0, hs⟩ := h
  refine ⟨Wv, h0, fun i m H hw => ?_⟩
  rcases hs i m H hw with z | ⟨go, Nx, hN, hy⟩
  · exact .inl z
  · refine .inr ⟨go, Nx, hN, fun x H' y => mono _ _ _ _ _ (fun σ2 H2 ⟨w, q⟩ => ⟨w, p :: hid, ?_⟩) (hy x H' y)⟩
    obtain ⟨c, S, τ, r, s, o⟩ := q
    refine ⟨c, S, τ, r, s, o.imp fun b c' S' H3 f q => ?_⟩
    cases b with
    | true => exact ⟨p :: hid, q⟩
    | false => exact q
mutual
theorem Tg.rd_mono {K : PySem.W.Frag} : ∀ (t : Tg) (x : V) (σ : St) (H : Hp) (Q Q' : St → Hp → Prop), (∀ σ' H', Q σ' H' → Q' σ' H') → t.rd K x σ H Q → t.rd K x σ H Q'
  | .nm i, x, σ, H, Q, Q', k, h => by
    rw [Tg.rd] at h ⊢
    exact k _ _ h
  | .tp ts, x, σ, H, Q, Q', k, h => by
    rw [Tg.rd] at h ⊢
    obtain ⟨a, xs, e, hs, hl, h⟩ := h
    exact ⟨a, xs, e, hs, hl, Tg.rds_mono ts xs σ H Q Q' k h⟩
theorem Tg.rds_mono {K : PySem.W.Frag} : ∀ (ts : List Tg) (x : List V) (σ : St) (H : Hp) (Q Q' : St → Hp → Prop), (∀ σ' H', Q σ' H' → Q' σ' H') → Tg.rds K ts x σ H Q → Tg.rds K ts x σ H Q'
  | [], x, σ, H, Q, Q', k, h => by
    rw [Tg.rds] at h ⊢
    exact ⟨h.1, k _ _ h.2⟩
  | t :: ts, x, σ, H, Q, Q', k, h => by
    rw [Tg.rds] at h ⊢
    obtain ⟨v, r, e, h⟩ := h
    exact ⟨v, r, e, Tg.rd_mono t v σ H _ _ (fun σ' H' q => Tg.rds_mono ts r σ' H' Q Q' k q) h⟩
end
theorem tE_comp {σ : St} {H : Hp} {Q : VK} (hsl : ∀ i ∈ t.slots, i ∈ own.map (·.2)) (h : tE (gx X cur hid) W (mComp it (own.map (·.2)) t tt te) σ H Q) :
    tLc (tIt (gx X cur hid) W it) (t.rd X.K) (fun σ H Q => ∃ hd, tT (gx X cur hd) WF tt σ H Q) (fun σ H Q => ∃ hd, tE (gx X cur hd) WF te σ H Q) (own.map (·.2)) σ H Q := by
    obtain ⟨c, S, τ, r, s, o⟩ := h
    refine ⟨c, S, τ, r, s, (Out.bind o).imp fun xs c1 S1 H1 f1 o1 J wk => ?_⟩
    intro p hp
    refine lc_of (hid := hid) (Qd := fun p H => Q (.ref p) H) (comp_core (Qd := fun p H => Q (.ref p) H) f1.rep (s.mono f1.ex f1.pre) wk hsl (Out.bind o1) (fun p ys us c' S' H' hp hf hH vl hR => ?_) p hp) (Tg.rd_mono t)
    have f := hf.fut
    obtain ⟨_, ex, un⟩ := hf.l.rep.bare
    refine hR H' c' f H' c' (Fut.refl f.rep) _ (.lst (by rw [un (not_hid f1.rep hp)]; exact hH) ((vl.same (SameM.hide _ p).symm).mono ex (Pre.refl c')))
theorem d_comp (hc : X.calm = true) (hN : X.N.Nodup) (hi : PI X tg iter (tIt (gx X cur hid) W it)) (ok : BlkOk X.N X.env.scope scope own)
    (hg : ∀ (s : Shared) (H : Hp) (C : Addr) (cl : List (Str × Addr)) (fp : List Addr), PG (X.blk s H scope (compEnvC scope cl C X.env) fp) tg (t.rd X.K))
    (hts : ∀ (s : Shared) (H : Hp) (C : Addr) (cl : List (Str × Addr)) (fp : List Addr) (hd : List Addr), PTs (X.blk s H scope (compEnvC scope cl C X.env) fp) ifs (tT (gx X cur hd) WF tt))
    (he : ∀ (s : Shared) (H : Hp) (C : Addr) (cl : List (Str × Addr)) (fp : List Addr) (hd : List Addr), PE (X.blk s H scope (compEnvC scope cl C X.env) fp) elt (tE (gx X cur hd) WF te))
    (hsl : ∀ i ∈ t.slots, i ∈ own.map (·.2)) (hs : ∀ x, foldedSetIterable iter X.env x = pure x := by intro _; rfl) :
    PE X (.ListComp elt [⟨tg, iter, ifs, 0⟩] scope pos) (tE (gx X cur hid) W (mComp it (own.map (·.2)) t tt te)) :=
  PE.imp (pe_lc hc hN hi ok hg (fun s H C cl fp => pts_ex (hts s H C cl fp)) (fun s H C cl fp => pe_ex (he s H C cl fp)) hs) fun σ H Q h => tE_comp hsl h
theorem ds_setLc {i : Nat} {y : Str} {py spos : Pos} (hc : X.calm = true) (hN : X.N.Nodup) (hy : X.N[i]? = some y) (hyl : X.env.scope.names.lookup y = some .local)
    (hsw : swapsWith (.ListComp elt [⟨tg, iter, ifs, 0⟩] scope pos) (some (.Name y py)) spos.line X.env = pure true) (hi : PI X tg iter (tIt (gx X cur hid) W it)) (ok : BlkOk X.N X.env.scope scope own)
    (hg : ∀ (s : Shared) (H : Hp) (C : Addr) (cl : List (Str × Addr)) (fp : List Addr), PG (X.blk s H scope (compEnvC scope cl C X.env) fp) tg (t.rd X.K))
    (hts : ∀ (s : Shared) (H : Hp) (C : Addr) (cl : List (Str × Addr)) (fp : List Addr) (hd : List Addr), PTs (X.blk s H scope (compEnvC scope cl C X.env) fp) ifs (tT (gx X cur hd) WF tt))
    (he : ∀ (s : Shared) (H : Hp) (C : Addr) (cl : List (Str × Addr)) (fp : List Addr) (hd : List Addr), PE (X.blk s H scope (compEnvC scope cl C X.env) fp) elt (tE (gx X cur hd) WF te))
    (hsl : ∀ i ∈ t.slots, i ∈ own.map (·.2)) (hs : ∀ x, foldedSetIterable iter X.env x = pure x := by intro _; rfl) :
    PS X (.Assign [.Name y py] (.ListComp elt [⟨tg, iter, ifs, 0⟩] scope pos) spos) (tS (gx X cur hid) W (sSet i (mComp it (own.map (·.2)) t tt te))) :=
  PS.imp (ps_setLc hc hN hy hyl hsw hi ok hg (fun s H C cl fp => pts_ex (hts s H C cl fp)) (fun s H C cl fp => pe_ex (he s H C cl fp)) hs) fun De σ H h =>
    tE_comp hsl (tS_of (k := fun d τ S => .ok (.nx (τ.set i (some d))) S) h fun c S H1 τ v d r1 sl v1 o1 => o1 _ H1 c (Fut.refl r1) (sl.set v1 i))
end
def spD (K : PySem.W.Frag) (mg : Str → Option Value) (P : Program) (w : World) (n : Nat) (f : List D → M D) : Sp := fun vs H Q E => ∃ hid c S ds, Rep ⟨K, mg, P, w, none, hid⟩ c S H ∧ Vls ⟨K, mg, P, w, none, hid⟩ (frz ⟨K, mg, P, w, none, hid⟩ c S H) c vs ds ∧ ds.length = n ∧
  Out ⟨K, mg, P, w, none, hid⟩ c S H (RV ⟨K, mg, P, w, none, hid⟩ Q) E (f ds S)
def G.off (g : G) : G := { g with cur := none }
theorem SameM.off (g : G) : SameM g g.off := ⟨rfl, rfl, rfl, rfl⟩
theorem Rep.off {c : List Addr} {S : Store} {H : Hp} (r : Rep g c S H) : Rep g.off c S H := ⟨r.len, r.nd, r.hl, r.hs, fun q e => absurd (show (none : Option CuE) = some q from e) (fun z => by injection z), fun n a x h1 h2 => (r.ok n a x h1 h2).same (SameM.off g)⟩
theorem Fut.on {c c' : List Addr} {S S' : Store} {H H' : Hp} (r : Rep g c S H) (f : Fut g.off c S H c' S' H') : Fut g c S H c' S' H' :=
  ⟨f.pre, ⟨f.rep.len, f.rep.nd, f.rep.hl, f.rep.hs, fun q e => (r.cu q e).mono f.ex f.pre, fun n a x h1 h2 => (f.rep.ok n a x h1 h2).same (SameM.off g).symm⟩, f.ex, f.hid⟩
theorem Out.off {c : List Addr} {S : Store} {H : Hp} {Q : VK} {E : XK} {x : Res D} (r : Rep g c S H) (h : Out g c S H (RV g Q) E x) : Out g.off c S H (RV g.off Q) E x := by
  cases x with
  | ok d S' => exact fun H' c' f v hv => h H' c' (f.on r) v (hv.same (SameM.off g).symm)
  | err C fs S' => exact fun u o H' c' f q => h u o H' c' (f.on r) (q.same (SameM.off g).symm)
  | bad => exact h
abbrev FnD (P : Program) (w : World) (K : PySem.W.Frag) (mg : Str → Option Value) (base : Heap) (k : Nat) (f : Addr) (fd : FuncData) (ps : List Str) (fm : List D → M D) : Prop := FnG P w K mg base (L2.CX P w) k f fd ps (spD K mg P w ps.length fm)
def arity (n : Nat) (f : List D → M D) (ds : List D) : M D := M.chk (decide (ds.length = n)) (f ds)
theorem d_call {x : Str} {k n : Nat} {f : Addr} {fd : FuncData} {ps : List Str} {fm : List D → M D} (F : FnD X.prog X.w X.K X.mg X.base k f fd ps fm) (hr : RoomG k X.A) (hg : Gl X x) (hm : X.mg x = some (.ref f)) (hk : PySem.W.keepIn X.K (.ref f) = true) (hb : Binds X.K fd ps [])
    (tk : Takes X W) (ha : PA X (e :: es) (tAr (gx X cur hid) W ms)) (hn : ps.length = n := by rfl) (hdb : (x == ("__debug__" : Str)) = false := by decide) (he : starEach (e :: es) X.env = (false, eval e X.env) :: starEach es X.env := by rfl) (hpl : (backTo pos (starEach es X.env)).any (·.1) = false := by rfl) :
    PE X (.Call (.Name x p) (e :: es) [] pos) (tE (gx X cur hid) W (mCall (arity n fm) ms)) := by
  subst hn
  exact PE.imp (pe_callG F hr hg hm hk hb (fun σ => passAt tk σ) ha hdb he hpl) fun σ H Q h =>
    tA_thenS (R := RV (gx X cur hid) Q) (k := fun xs _ => arity ps.length fm xs) h fun c S H1 τ vs ds r1 s1 v1 o1 => by
      obtain ⟨hl, o2⟩ := Out.chk o1
      exact ⟨hid, c, S, ds, r1.off, v1.same (SameM.off _), of_decide_eq_true hl, o2.off r1⟩
def startD (N : List Str) (ds : List D) : DSt := ds.map some ++ List.replicate (N.length - ds.length) none
theorem Sl.rep {F : Hp} {c : List Addr} : ∀ n : Nat, Sl g F c (List.replicate n none) (List.replicate n none)
  | 0 => .nil
  | n + 1 => .un (Sl.rep n)
theorem Sl.startAux {F : Hp} {c : List Addr} (n : Nat) : ∀ {vs : List V} {ds : List D}, Vls g F c vs ds → Sl g F c (vs.map some ++ List.replicate n none) (ds.map some ++ List.replicate n none)
  | _, _, .nil => Sl.rep n
  | _, _, .cons h t => .hs h (Sl.startAux n t)
theorem Sl.start {F : Hp} {c : List Addr} {N : List Str} {vs : List V} {ds : List D} (h : Vls g F c vs ds) : Sl g F c (L2.start N vs) (startD N ds) := by
  unfold L2.start startD
  rw [h.length]
  exact Sl.startAux _ h
def mFn (N : List Str) (mb : SM) (ds : List D) : M D := fun S => match mb (startD N ds) S with
  | .ok (.nx _) S' => .ok .non S'
  | .ok (.rt d) S' => .ok d S'
  | .err C fs _ S' => .err C fs S'
  | _ => .bad
abbrev WE0 (E : XK) : WX := fun u o _ H => E u o H
theorem fn_ok {P : Program} {w : World} {K : PySem.W.Frag} {mg : Str → Option Value} {base : Heap} {x qual : Str} {params : Arguments} {body : List Stmt} {scope : Scope} {dvs : List V} {kws : List (Str × V)} {f : Addr} {fd : FuncData} {N ps : List Str} {k : Nat} {mb : SM}
    (F : FunD K x qual params body scope dvs kws f fd) (Sc : FnScope N ps scope)
    (hb : ∀ (cdv : Value) (A : Around) (outer : List Env) (s : Shared) (H : Hp) (E : XK) (hid : List Addr), RoomG k (A.deeper (PyProof.Rows.envOfC qual scope s.heap.objs.size f cdv)) → Takes (cxOf (L2.CX P w) P w K mg base N qual scope f cdv A outer s H E) (WE0 E) →
      PSs (cxOf (L2.CX P w) P w K mg base N qual scope f cdv A outer s H E) body (tS ⟨K, mg, P, w, none, hid⟩ (WE0 E) mb)) : FnD P w K mg base (k + 1) f fd ps (mFn N mb) := by
  refine F.okG Sc (fun vs H Q E h => ?_) (fun cdv A outer s H vs Q E hr h => ?_)
  · obtain ⟨hid, c, S, ds, r, v, hl, _⟩ := h
    rw [v.length]; exact hl
  · obtain ⟨hid, c, S, ds, r, v, hl, o⟩ := h
    refine ⟨_, hb cdv A outer s H E hid hr (takes_of rfl rfl rfl rfl), c, S, startD N ds, r, Sl.start v, ?_⟩
    unfold mFn at o
    cases e : mb (startD N ds) S with
    | ok fl S' =>
      rw [e] at o
      cases fl with
      | nx τ => exact fun σ' H' c' f s => o H' c' f _ .non
      | rt d => exact fun v H' c' f hv => o H' c' f v hv
      | bk τ => exact o.elim
      | ct τ => exact o.elim
    | err C fs τ S' => rw [e] at o; exact fun u o' σ' H' c' f s x => o u o' H' c' f x
    | bad => rw [e] at o; exact o
end
end ND
namespace NDS
open PySem PyProof.Rows
section
variable {K : Type} [DecidableEq K]
def into (got : List K) (k : K) : List K := if k ∈ got then got else got ++ [k]
def dedK (ks : List K) : List K := ks.foldl into []
theorem dedK_snoc (ks : List K) (k : K) : dedK (ks ++ [k]) = into (dedK ks) k := by simp only [dedK, List.foldl_append, List.foldl_cons, List.foldl_nil]
theorem into_nodup {got : List K} (h : got.Nodup) (k : K) : (into got k).Nodup := by
  unfold into
  split
  · exact h
  · rename_i new
    refine List.nodup_append.mpr ⟨h, List.nodup_cons.mpr ⟨List.not_mem_nil, List.nodup_nil⟩, fun a ha b hb e => new ?_⟩
    rw [← List.mem_singleton.mp hb, ← e]; exact ha
theorem into_length (got : List K) (k : K) : (into got k).length = if k ∈ got then got.length else got.length + 1 := by
  unfold into
  split
  · rfl
  · exact List.length_append
theorem into_mem (got : List K) (k x : K) : x ∈ into got k ↔ x ∈ got ∨ x = k := by
  unfold into
  split
  · rename_i old
    exact ⟨.inl, fun h => h.elim id fun e => e ▸ old⟩
  · rw [List.mem_append, List.mem_singleton]
theorem fold_nodup (ks : List K) : ∀ got : List K, got.Nodup → (ks.foldl into got).Nodup := by
  induction ks with
  | nil => exact fun _ h => h
  | cons k ks ih => exact fun got h => ih _ (into_nodup h k)
theorem dedK_nodup (ks : List K) : (dedK ks).Nodup := fold_nodup ks [] List.nodup_nil
theorem fold_len (ks : List K) : ∀ got : List K, (ks.foldl into got).length ≤ got.length + ks.length := by
  induction ks with
  | nil => exact fun _ => Nat.le_refl _
  | cons k ks ih =>
    intro got
    have step : (into got k).length ≤ got.length + 1 := by rw [into_length]; split <;> omega
    have := ih (into got k)
    rw [List.foldl_cons, List.length_cons]
    omega
theorem dedK_len (ks : List K) : (dedK ks).length ≤ ks.length := by
  have := fold_len ks []
  rw [List.length_nil, Nat.zero_add] at this
  exact this
def among (got : List K) : K → Bool := fun k => got.any fun q => decide (q = k)
theorem among_iff {got : List K} {k : K} : among got k = true ↔ k ∈ got := by
  unfold among
  rw [List.any_eq_true]
  exact ⟨fun ⟨q, h, e⟩ => of_decide_eq_true e ▸ h, fun h => ⟨k, h, decide_eq_true rfl⟩⟩
theorem among_into (got : List K) (k x : K) : (among got x || decide (x = k)) = among (into got k) x := by
  rw [Bool.eq_iff_iff, Bool.or_eq_true, among_iff, among_iff, into_mem, decide_eq_true_iff]
end
section
variable {prog : Program} {w : World} {K : Type} [DecidableEq K] [BEq K] [LawfulBEq K] {knd : KeyKind prog w K}
def KeysAre (knd : KeyKind prog w K) (us : List Value) (ks : List K) : Prop := us.length = ks.length ∧ ∀ (i : Nat) (v : Value), us[i]? = some v → ∃ k, ks[i]? = some k ∧ knd.is k v = true ∧ v.scannable = true
abbrev Holds (knd : KeyKind prog w K) (h : Heap) (a : Addr) (ks : List K) : Prop := h.SetOf knd a (among (dedK ks)) (dedK ks).length
theorem Holds.grow {h : Heap} {a : Addr} {ks : List K} {k : K} (S : h.SetOf knd a (fun x => among (dedK ks) x || decide (x = k)) (if among (dedK ks) k = true then (dedK ks).length else (dedK ks).length + 1)) : Holds knd h a (ks ++ [k]) := by
  refine SetOf_congr S (fun x => by rw [dedK_snoc]; exact among_into _ _ _) ?_
  rw [dedK_snoc, into_length]
  by_cases q : k ∈ dedK ks
  · rw [if_pos (among_iff.mpr q), if_pos q]
  · rw [if_neg fun z => q (among_iff.mp z), if_neg q]
theorem Holds.kept {h h' : Heap} {a : Addr} {ks : List K} (S : Holds knd h a ks) (same : ∀ o, h.get? a = some o → h'.get? a = some o) : Holds knd h' a ks := by
  obtain ⟨o, es, ep, t, there, facts⟩ := S
  exact ⟨o, es, ep, t, same o there, facts⟩
variable {A : Around} {R : Result → Shared → Prop} {I a : Addr} {fp wr : List Addr} {G : Array GenState → Array GenState → Prop} {n : Nat} {Pv : Nat → Value → Prop} {St : Nat → Shared → Prop}
theorem fills (W : WalksS prog w A.in1 I fp wr G n Pv St) (apart : a ∉ fp) (few : n + 1 < scanBound) {all : List K} (len : all.length = n) (each : ∀ i v, Pv i v → ∃ k, all[i]? = some k ∧ knd.is k v = true ∧ v.scannable = true)
    (behind : List K) : ∀ (ahead : List K) (sh : Shared), ahead ++ behind = all → St ahead.length sh → Holds knd sh.heap a ahead → (∀ sh', Moved (a :: wr) G sh sh' → Holds knd sh'.heap a all → R (.ok (.ret .none)) sh') →
      codeAny (model prog w) A (.builtin "set.update.loop" ⟨[.ref a, .ref I], []⟩) R sh := by
  have still : a ∉ wr := fun z => apart (W.sub _ z)
  have wider : ∀ b ∈ wr, b ∈ a :: wr := fun b z => List.mem_cons_of_mem _ z
  have open1 : ∀ {c : Args} {sh : Shared} (_ : wpAny (model prog w) A.in1 (Builtin.«set.update.loop» c) (fun fin s' => match fin with | .done f => R (.ok f) s' | .again c' => c'.quiet = true ∧ codeAny (model prog w) A c' R s') (fun e s' => R (.error e) s') sh), codeAny (model prog w) A (.builtin "set.update.loop" c) R sh :=
    fun h => codeAny_builtin F.entry_set_update_loop ((Around.under_plainId F.plain_set_update_loop _).symm ▸ h)
  induction behind with
  | nil =>
    intro ahead sh e st S want
    rw [List.append_nil] at e
    subst e
    rw [len] at st
    exact open1 (wpAny_bind (W.done sh _ _ st fun sh' mv => wpAny_pure (want sh' (mv.mono wider) (S.kept fun o z => mv.heap a o still z))))
  | cons k0 behind ih =>
    intro ahead sh e st S want
    have lt : ahead.length < n := by rw [← len, ← e, List.length_append, List.length_cons]; omega
    refine open1 (wpAny_bind (W.item ahead.length sh _ _ lt st fun v sh' pv st' mv => ?_))
    obtain ⟨k, at_, isK, scan⟩ := each _ v pv
    obtain rfl : k = k0 := by
      rw [← e, List.getElem?_append_right (Nat.le_refl _), Nat.sub_self] at at_
      exact (Option.some.inj at_).symm
    have room : (dedK ahead).length + 1 < scanBound := by have := dedK_len ahead; omega
    refine wpAny_bind (wpAny_holding (wpAny_holding (wpAny_bind (knd.pyHash isK ?_))))
    refine wpAny_setAddHashed_of (s := { sh' with toks := sh'.toks + 1 }) isK scan (S.kept fun o z => mv.heap a o still z) room fun h' but S' => ?_
    have others : ∀ b, b ≠ a → h'.get? b = sh'.heap.get? b := fun b z => but.2 b z
    refine wpAny_pure ⟨plainId_quiet F.plain_set_update_loop _, ih (ahead ++ [k]) _ (by rw [List.append_assoc]; exact e) ?_ (Holds.grow S') fun sh2 mv2 all2 => want sh2 ?_ all2⟩
    · rw [List.length_append]
      exact W.frame _ sh' _ _ st' (Nat.le_succ _) fun b hb o z => (others b fun e => apart (e ▸ hb)).trans z
    · exact Moved.trans W.gtrans ((mv.mono wider).then_heap (Nat.le_succ _) fun b o hb z => (others b fun e => hb (e ▸ List.mem_cons_self)).trans z) mv2
end
section
variable {prog : Program} {w : World} {A : Around} {E : Value → Shared → Prop} {sh : Shared} {Q : Value → Shared → Prop}
abbrev bare (led : Bool) : Obj := { cls := .type "set", dict := none, data := .set #[] 0 (.fresh 0 0 led) }
abbrev withBare (sh : Shared) (led : Bool) : Shared := { sh with heap := sh.heap.push (bare led) }
set_option maxHeartbeats 2000000 in
theorem set_calledL {x : Value} {L : Bool → Prop} (new : codeAny (model prog w) A.in1 (.call (.builtin "set.__new__") ⟨[.type "set", x], []⟩) (wants (fun v s1 => ∃ led, L led ∧ v = .ref sh.heap.objs.size ∧ s1 = withBare sh led) E) sh)
    (init : ∀ led : Bool, L led → wpAny (model prog w) A.in1.in1 (Builtin.«set.__init__» ⟨[.ref sh.heap.objs.size, x], []⟩) (fun fin s' => fin = .done (.ret .none) ∧ Q (.ref sh.heap.objs.size) s') E (withBare sh led)) :
    wpAny (model prog w) A (call (.type "set") [x]) Q E sh := by
  have called := F.called_set
  obtain ⟨top, bases, line⟩ := called.mro
  have m1 := called.made; have m2 := called.sub; have m3 := called.notType; have m4 := called.canCreate; have m5 := F.typeCall_set_1 x
  refine wpAny_call (codeAny_of_tree (wpAny_pure ⟨Code.quiet_builtin _ (by decide +kernel), codeAny_builtin F.entry_type_call ?_⟩))
  rw [Around.under_plain (weight_type_call_type "set" [x] []) rfl]; repeat (any_goals (first | assumption | wp_step))
  refine codeAny_mono new fun r s1 hr => ?_
  match r, hr with
  | .error _, hr => exact hr
  | .ok (.ret v), ⟨led, isL, ev, es⟩ =>
    subst ev es
    have kind : (withBare sh led).TypeIs (.ref sh.heap.objs.size) "set" := ⟨_, Heap.get?_push_size _ rfl, rfl⟩
    have i1 := called.init.lookup; have i2 := called.init.bind (.ref sh.heap.objs.size)
    repeat (any_goals (first | assumption | exact kind | wp_step))
    refine codeAny_mono (codeAny_call_builtin (R := wants (fun v s2 => v = .none ∧ Q (.ref sh.heap.objs.size) s2) E) called.init.plain F.entry_set_init (check_set_init_1 kind (wpAny_mono (init led isL) (fun fin s2 h => ?_) fun _ _ h => h))) fun r2 s2 h2 => ?_
    · obtain ⟨rfl, q⟩ := h; exact ⟨rfl, q⟩
    · match r2, h2 with
      | .error _, h2 => exact h2
      | .ok (.ret v), ⟨ev, q⟩ => subst ev; repeat (any_goals (first | assumption | exact q | wp_step))
theorem set_called {x : Value} (init : ∀ led : Bool, wpAny (model prog w) A.in1.in1 (Builtin.«set.__init__» ⟨[.ref sh.heap.objs.size, x], []⟩) (fun fin s' => fin = .done (.ret .none) ∧ Q (.ref sh.heap.objs.size) s') E (withBare sh led)) :
    wpAny (model prog w) A (call (.type "set") [x]) Q E sh :=
  set_calledL (L := fun _ => True) (code_set_new_1 x fun led => ⟨led, trivial, rfl, rfl⟩) fun led _ => init led
set_option maxHeartbeats 2000000 in
theorem init_by {T : String} {l : Addr} {led : Bool} {R : Fin → Shared → Prop} (kind : (withBare sh led).TypeIs (.ref l) T) (no1 : isSubtype (.type T) (.type "set") = pure false) (no2 : isSubtype (.type T) (.type "frozenset") = pure false) (no3 : (Value.type T == Value.type "dict") = false)
    (go : wpAny (model prog w) A (pyIter (.ref l)) (fun it s1 => codeAny (model prog w) A (.builtin "set.update.loop" ⟨[.ref sh.heap.objs.size, it], []⟩) (wants (fun _ s2 => R (.done (.ret .none)) s2) E) s1) E (withBare sh led)) :
    wpAny (model prog w) A (Builtin.«set.__init__» ⟨[.ref sh.heap.objs.size, .ref l], []⟩) R E (withBare sh led) := by
  have there : (withBare sh led).heap.get? sh.heap.objs.size = some (bare led) := Heap.get?_push_size _ rfl
  have kind0 : (withBare sh led).TypeIs (.ref sh.heap.objs.size) "set" := ⟨_, there, rfl⟩
  unfold Builtin.«set.__init__» noKeywords Builtin.Frozenset.updateFrom
  generalize hPI : pyIter = PI
  wp_walk
  subst hPI
  refine wpAny_mono go (fun it s1 h => wpAny_bind (wpAny_runValue (codeAny_mono h fun r s2 h2 => ?_))) fun _ _ h => h
  match r, h2 with
  | .error _, h2 => exact h2
  | .ok (.ret _), h2 => exact wpAny_pure (wpAny_pure h2)
end
section
variable {prog : Program} {w : World} {K : Type} [DecidableEq K] [BEq K] [LawfulBEq K] {knd : KeyKind prog w K} {A : Around} {E : Value → Shared → Prop} {sh : Shared} {Q : Value → Shared → Prop} {l : Addr} {items : Array Value} {ks : List K}
abbrev Wish (knd : KeyKind prog w K) (sh : Shared) (Q : Value → Shared → Prop) (ks : List K) : Prop := ∀ (h' : Heap) (tk : Nat), h'.SetOf knd sh.heap.objs.size (fun k' => (dedK ks).any fun q => decide (q = k')) (dedK ks).length →
  (∀ b o, b < sh.heap.objs.size → sh.heap.get? b = some o → h'.get? b = some o) → Q (.ref sh.heap.objs.size) { sh with heap := h', toks := tk }
theorem filled {led : Bool} {it : Obj} {St : Nat → Heap → Prop} (keys : KeysAre knd items.toList ks) (few : ks.length + 1 < scanBound) (old : l < sh.heap.objs.size)
    (W : ∀ A' : Around, A'.handled = none → Walks prog w A' (sh.heap.objs.size + 1) [sh.heap.objs.size + 1, l] [sh.heap.objs.size + 1] items.size (fun i v => items[i]? = some v) St) (calm : A.handled = none) (start : St 0 ((withBare sh led).heap.push it))
    (want : Wish knd sh Q ks) : codeAny (model prog w) A (.builtin "set.update.loop" ⟨[.ref sh.heap.objs.size, .ref (sh.heap.objs.size + 1)], []⟩) (wants (fun _ s2 => Q (.ref sh.heap.objs.size) s2) E) { (withBare sh led) with heap := (withBare sh led).heap.push it } := by
  have size : items.size = ks.length := by rw [← Array.length_toList]; exact keys.1
  refine fills (knd := knd) (W A.in1 calm).toS ?_ (by rw [size]; exact few) size.symm (fun i v e => keys.2 i v (by rw [Array.getElem?_toList]; exact e)) ks [] _ rfl start ?_ fun sh' mv got => ?_
  · simp only [List.mem_cons, List.not_mem_nil, or_false, not_or]
    exact ⟨Nat.ne_of_lt (Nat.lt_succ_self _), Nat.ne_of_gt old⟩
  · exact (setObjOf_fresh (knd := knd) led).setOf (Heap.get?_push_of_some _ (Heap.get?_push_size _ rfl)) (by unfold scanBound; omega)
  · rw [mv.eq_with]
    refine want sh'.heap sh'.toks got fun b o lt e => mv.heap b o ?_ (Heap.get?_push_of_some _ (Heap.get?_push_of_some _ e))
    simp only [List.mem_cons, List.not_mem_nil, or_false, not_or]
    exact ⟨Nat.ne_of_lt lt, Nat.ne_of_lt (Nat.lt_succ_of_lt lt)⟩
theorem call_set_listK (calm : A.handled = none) (is : sh.heap.IsList l items) (keys : KeysAre knd items.toList ks) (few : ks.length + 1 < scanBound) (want : Wish knd sh Q ks) :
    wpAny (model prog w) A (call (.type "set") [.ref l]) Q E sh := by
  refine set_called fun led => ?_
  have is1 : (withBare sh led).heap.IsList l items := is.push _
  have old : l < sh.heap.objs.size := by obtain ⟨o, e, _⟩ := is; exact Heap.lt_size e
  have big : (withBare sh led).heap.objs.size = sh.heap.objs.size + 1 := Heap.size_push ..
  refine init_by (T := "list") is1.typeIs F.sub_list_set F.sub_list_frozenset (by decide) (wpAny_pyIter_list is1 ?_)
  rw [big]
  refine codeAny_mono (filled (E := E) keys few old (fun A' h => Walks.list h _ l (Nat.ne_of_lt (Nat.lt_succ_of_lt old)) items) (by simpa using calm) ⟨?_, is1.push _⟩ want) fun r s2 h => ?_
  · rw [show sh.heap.objs.size.succ = (withBare sh led).heap.objs.size from big.symm]; exact ⟨_, Heap.get?_push_size _ rfl, rfl, rfl⟩
  · match r, h with
    | .error _, h => exact h
    | .ok (.ret _), h => exact ⟨rfl, h⟩
theorem call_set_tupleK (calm : A.handled = none) (is : sh.heap.IsTuple l items) (keys : KeysAre knd items.toList ks) (few : ks.length + 1 < scanBound) (want : Wish knd sh Q ks) :
    wpAny (model prog w) A (call (.type "set") [.ref l]) Q E sh := by
  refine set_called fun led => ?_
  have is1 : (withBare sh led).heap.IsTuple l items := is.push _
  have old : l < sh.heap.objs.size := by obtain ⟨o, e, _⟩ := is; exact Heap.lt_size e
  have big : (withBare sh led).heap.objs.size = sh.heap.objs.size + 1 := Heap.size_push ..
  refine init_by (T := "tuple") is1.typeIs F.sub_tuple_set F.sub_tuple_frozenset (by decide) (wpAny_pyIter_tuple is1 ?_)
  rw [big]
  refine codeAny_mono (filled (E := E) keys few old (fun A' h => Walks.tuple h _ l (Nat.ne_of_lt (Nat.lt_succ_of_lt old)) items) (by simpa using calm) ⟨?_, is1.push _⟩ want) fun r s2 h => ?_
  · rw [show sh.heap.objs.size.succ = (withBare sh led).heap.objs.size from big.symm]; exact ⟨_, Heap.get?_push_size _ rfl, rfl, rfl⟩
  · match r, h with
    | .error _, h => exact h
    | .ok (.ret _), h => exact ⟨rfl, h⟩
end
end NDS
namespace ND
open PySem L2
section
variable {X : Cx} {g : G} {W : WX}
abbrev rSetKs (K : PySem.W.Frag) (P : Program) (w : World) : List V → Hp → VK → Prop := fun xs H Q => ∃ (a : Addr) (ks : List Key), xs = [.ref a] ∧ (SqL K H a (ks.map kV) ∨ SqT K H a (ks.map kV)) ∧ ks.length + 1 < scanBound ∧
  ∀ p, H p = none → Q (.ref p) (upd H p (SetK P w p (fun k => (NDS.dedK ks).any fun q => decide (q = k)) (NDS.dedK ks).length))
theorem keysAre_of {P : Program} {w : World} : ∀ {ks : List Key} {us : List Value}, Vals (ks.map kV) us → NDS.KeysAre (mixKind P w) us ks := fun {ks us} h => by
  refine ⟨by rw [← h.length, List.length_map], fun i v hv => ?_⟩
  have hl : i < us.length := (List.getElem?_eq_some_iff.mp hv).1
  have hk : i < ks.length := by rw [← h.length, List.length_map] at hl; exact hl
  obtain ⟨u, hu, ru⟩ := h.get (i := i) (x := kV ks[i]) (by simp [hk])
  rw [hv] at hu
  cases hu
  exact ⟨ks[i], by simp [hk], kV_is ru, key_scan ru⟩
theorem cr_setK (hc : X.calm = true) : CallR X (.type "set") (rSetKs X.K X.prog X.w) := by
  intro pins s σ H xs us Q I r h
  obtain ⟨a, ks, rfl, hq, hb, q⟩ := h
  obtain ⟨u, rfl, ru⟩ := vals1 r
  cases ru
  have fin : ∀ (h' : Heap) (tk : Nat), h'.SetOf (mixKind X.prog X.w) s.heap.objs.size (fun k' => (NDS.dedK ks).any fun q => decide (q = k')) (NDS.dedK ks).length →
      (∀ b o, b < s.heap.objs.size → s.heap.get? b = some o → h'.get? b = some o) → EP X pins σ Q (.ref s.heap.objs.size) { s with heap := h', toks := tk } := fun h' tk hS k =>
    ⟨.ref _, _, I.laid (t' := tk) (fun b u e => k b u (Heap.lt_size e) e) (Nat.le_refl _) (setK_new hS), rfl, q _ (I.hok.fresh (Nat.le_refl _))⟩
  letI : BEq Key := instBEqOfDecidableEq
  rcases hq with hq | hq
  · obtain ⟨its, rv, pl, _⟩ := I.list hq
    exact NDS.call_set_listK (knd := mixKind X.prog X.w) (I.ok.hd hc) pl.isList (by simpa using keysAre_of rv) hb fin
  · obtain ⟨its, rv, pl, _⟩ := I.tuple hq
    exact NDS.call_set_tupleK (knd := mixKind X.prog X.w) (I.ok.hd hc) (show s.heap.IsTuple a its.toArray from pl) (by simpa using keysAre_of rv) hb fin
def keysOf : List D → Option (List Key)
  | [] => some []
  | d :: r => (match keyOf d, keysOf r with
    | some k, some ks => some (k :: ks)
    | _, _ => none)
theorem keys_val {F : Hp} {c : List Addr} : ∀ {vs : List V} {xs : List D} {ks : List Key}, Vls g F c vs xs → keysOf xs = some ks → vs = ks.map kV
  | _, _, _, .nil, e => by cases e; rfl
  | _, _, ks, .cons (d := d) (xs := xs) h t, e => by
    rw [keysOf] at e
    cases q1 : keyOf d with
    | none => rw [q1] at e; cases e
    | some k =>
      cases q2 : keysOf xs with
      | none => rw [q1, q2] at e; cases e
      | some ls =>
        rw [q1, q2] at e; cases e
        rw [keys_val t q2, keyOf_val h q1]; rfl
def setOD (ds : List D) : M D := fun S => match ds with
  | [x] => (match dr S x with
    | .lst xs | .tup xs => (match keysOf xs with
      | some ks => if ks.length + 1 < scanBound then .ok (.set (NDS.dedK ks)) S else .bad
      | none => .bad)
    | _ => .bad)
  | _ => .bad
theorem new_set {c : List Addr} {S : Store} {H : Hp} {Q : VK} {E : XK} {p : Addr} {ks : List Key} (r : Rep g c S H) (hn : ks.Nodup) (o : Out g c S H (RV g Q) E (.ok (.set ks) S)) (hp : H p = none) : Q (.ref p) (upd H p (SetK g.P g.w p (fun k => ks.any fun q => decide (q = k)) ks.length)) := by
  have f := Fut.new (o := SetK g.P g.w p (fun k => ks.any fun q => decide (q = k)) ks.length) r hp
  exact o _ c f _ (.set hn (Fut.frz_new r hp))
theorem cd_set : CbD g (rSetKs g.K g.P g.w) setOD := by
  intro c S H vs ds Q E r hv o
  unfold setOD at o
  split at o
  · obtain ⟨v, rfl, hv1⟩ := vls1 hv
    have sv := dr_seen r hv1
    split at o
    · rename_i xs h1
      rw [h1] at sv
      obtain ⟨a, vs, rfl, k1, l1⟩ := sv.lst'
      split at o
      · rename_i ks hk
        split at o
        · rename_i hb
          have e := keys_val l1 hk
          subst e
          exact ⟨a, ks, rfl, .inl (SqL.of k1), hb, fun p hp => new_set r (NDS.dedK_nodup ks) o hp⟩
        · exact o.elim
      · exact o.elim
    · rename_i xs h1
      rw [h1] at sv
      obtain ⟨a, vs, rfl, k1, l1⟩ := sv.tup
      split at o
      · rename_i ks hk
        split at o
        · rename_i hb
          have e := keys_val l1 hk
          subst e
          exact ⟨a, ks, rfl, .inr k1, hb, fun p hp => new_set r (NDS.dedK_nodup ks) o hp⟩
        · exact o.elim
      · exact o.elim
    · exact o.elim
  · exact o.elim
theorem Seen.set {c : List Addr} {S : Store} {H : Hp} {v : V} {ks : List Key} (h : Seen g c S H v (.set ks)) : ∃ a, v = .ref a ∧ ks.Nodup ∧ H a = some (SetK g.P g.w a (fun k => ks.any fun q => decide (q = k)) ks.length) := by
  cases h with
  | same h => cases h with | set h1 h2 => exact ⟨_, rfl, h1, (frz_of h2).1⟩
abbrev rLenSet (P : Program) (w : World) : List V → Hp → VK → Prop := fun xs H Q => ∃ (a : Addr) (Sf : Key → Bool) (n : Nat), xs = [.ref a] ∧ H a = some (SetK P w a Sf n) ∧ n < 2 ^ 60 ∧ Q (.int n) H
theorem cr_lenSet : CallR X (.builtin "len") (rLenSet X.prog X.w) := by
  intro pins s σ H xs us Q I r h
  obtain ⟨a, Sf, n, rfl, hq, hb, q⟩ := h
  obtain ⟨u, rfl, ru⟩ := vals1 r
  cases ru
  obtain ⟨o, es, ep, t, ho, hex, hd, _, _, _, hf, hn⟩ := setK_get I hq
  refine PySem.call_len_set ho hex hd hf (by rw [hn]; omega) ⟨.int n, H, I.tok _, ⟨_, by rw [hn]⟩, q⟩
def lenSD (ds : List D) : M D := fun S => match ds with
  | [x] => (match dr S x with
    | .set ks => if ks.length < 2 ^ 60 then .ok (.int ks.length) S else .bad
    | _ => lenD ds S)
  | _ => .bad
theorem cr_lenA : CallR X (.builtin "len") (fun xs H Q => rLenSet X.prog X.w xs H Q ∨ rLenD X.K xs H Q) := cr_lenSet.or cr_len
theorem cd_lenA : CbD g (fun xs H Q => rLenSet g.P g.w xs H Q ∨ rLenD g.K xs H Q) lenSD := by
  intro c S H vs ds Q E r hv o
  unfold lenSD at o
  split at o
  · split at o
    · rename_i x ks h1
      obtain ⟨v, rfl, hv1⟩ := vls1 hv
      have sv := dr_seen r hv1
      rw [h1] at sv
      obtain ⟨a, rfl, _, k1⟩ := sv.set
      split at o
      · rename_i hl
        exact .inl ⟨a, _, _, rfl, k1, hl, at_now r o (.int _)⟩
      · exact o.elim
    · exact .inr (cd_len c S H vs _ Q E r hv o)
  · exact o.elim
open TL in
theorem mem_joinL {S : List Nat} {c : Nat} : ∀ {ps : List (List Nat)}, c ∈ joinL S ps → c ∈ S ∨ ∃ p ∈ ps, c ∈ p
  | [], h => by cases h
  | [p], h => .inr ⟨p, List.mem_singleton.mpr rfl, h⟩
  | p :: q :: r, h => by
    rcases List.mem_append.mp (show c ∈ p ++ (S ++ joinL S (q :: r)) from h) with h | h
    · exact .inr ⟨p, List.mem_cons_self, h⟩
    · rcases List.mem_append.mp h with h | h
      · exact .inl h
      · rcases mem_joinL h with h | ⟨p', hp, h⟩
        · exact .inl h
        · exact .inr ⟨p', List.mem_cons_of_mem _ hp, h⟩
open TL in
theorem len_joinL {S : List Nat} : ∀ ps : List (List Nat), (joinL S ps).length ≤ (ps.map (·.length)).sum + ps.length * S.length
  | [] => by simp [joinL]
  | [p] => by simp [joinL]
  | p :: q :: r => by
    have h := len_joinL (S := S) (q :: r)
    show (p ++ (S ++ joinL S (q :: r))).length ≤ _
    rw [List.length_append, List.length_append, List.map_cons, List.sum_cons, List.length_cons (a := p), Nat.add_mul, Nat.one_mul]
    omega
open TL in
theorem sOk_join {a : Str} {ys : List Str} (ha : SOk a) (hy : ∀ y ∈ ys, SOk y) (hl : (ys.map (·.length)).sum + ys.length * a.length ≤ 16777216) : SOk (Txt.join a ys) := by
  have e : (Txt.join a ys).cps.toList = joinL a.cps.toList (ys.map fun y => y.cps.toList) := by rw [join_eq]; exact tl_join a ys
  refine ⟨?_, ?_⟩
  · unfold PyData.strOk
    rw [Array.all_eq_true']
    intro c hc
    have hc' : c ∈ (Txt.join a ys).cps.toList := by simpa using hc
    rw [e] at hc'
    rcases mem_joinL hc' with h | ⟨p, hp, h⟩
    · exact decide_eq_true (strOk_mem ha h)
    · obtain ⟨y, h1, h2⟩ := List.mem_map.mp hp
      subst h2
      exact decide_eq_true (strOk_mem (hy y h1) h)
  · show (Txt.join a ys).cps.size ≤ sizeLine
    rw [← Array.length_toList, e]
    refine Nat.le_trans (len_joinL _) ?_
    rw [List.map_map, List.length_map]
    have : (ys.map ((fun p : List Nat => p.length) ∘ fun y : Str => y.cps.toList)) = ys.map (·.length) := by
      apply List.map_congr_left
      intro y _
      show y.cps.toList.length = y.cps.size
      simp
    rw [this]
    have : a.cps.toList.length = a.length := by show a.cps.toList.length = a.cps.size; simp
    rw [this, sizeLine_eq]
    exact hl
def joinD (x : D) (ds : List D) : M D := fun S => match x, ds with
  | .str a, [y] => (match dr S y with
    | .lst xs | .tup xs => (match strsOf xs with
      | some ys => if (ys.map (·.length)).sum + ys.length * a.length ≤ 16777216 then .ok (.str (Txt.join a ys)) S else .bad
      | none => .bad)
    | _ => .bad)
  | _, _ => .bad
theorem md_join : MtD g (fun x xs H Q => ∃ a p, ∃ ys : List Str, x = .str a ∧ xs = [.ref p] ∧ (SqL g.K H p (ys.map V.str) ∨ SqT g.K H p (ys.map V.str)) ∧ (ys.map (·.length)).sum + ys.length * a.length ≤ 16777216 ∧ Q (.str (Txt.join a ys)) H) joinD := by
  intro c S H v d vs ds Q E r hv hvs o
  unfold joinD at o
  split at o
  · rename_i a y
    cases hv with
    | str ha =>
      obtain ⟨w, rfl, hw⟩ := vls1 hvs
      have sw := dr_seen r hw
      split at o
      · rename_i xs h1
        rw [h1] at sw
        obtain ⟨p, us, rfl, k1, l1⟩ := sw.lst'
        split at o
        · rename_i ys hy
          split at o
          · rename_i hl
            obtain ⟨e, hs⟩ := strs_val l1 hy
            subst e
            exact ⟨a, p, ys, rfl, rfl, .inl (SqL.of k1), hl, at_now r o (.str (sOk_join ha hs hl))⟩
          · exact o.elim
        · exact o.elim
      · rename_i xs h1
        rw [h1] at sw
        obtain ⟨p, us, rfl, k1, l1⟩ := sw.tup
        split at o
        · rename_i ys hy
          split at o
          · rename_i hl
            obtain ⟨e, hs⟩ := strs_val l1 hy
            subst e
            exact ⟨a, p, ys, rfl, rfl, .inr k1, hl, at_now r o (.str (sOk_join ha hs hl))⟩
          · exact o.elim
        · exact o.elim
      · exact o.elim
  · exact o.elim
end
end ND
namespace ND
open PySem L2
section
variable {X : Cx} {g : G} {W : WX}
theorem sOk_of {x : Str} (h : (PyData.strOk x && decide (x.length ≤ sizeLine)) = true) : SOk x := by
  rw [Bool.and_eq_true] at h
  exact ⟨h.1, of_decide_eq_true h.2⟩
def sOkB (x : Str) : Bool := PyData.strOk x && decide (x.length ≤ sizeLine)
def upperD (x : D) (ds : List D) : M D := match x, ds with
  | .str a, [] => M.chk (decide (a.length ≤ 5592405) && sOkB (Txt.upper a)) (pure (.str (Txt.upper a)))
  | _, _ => M.no
theorem md_upper : MtD g (fun x xs H Q => ∃ a, x = .str a ∧ xs = [] ∧ a.length ≤ 5592405 ∧ Q (.str (Txt.upper a)) H) upperD := by
  intro c S H v d vs ds Q E r hv hvs o
  unfold upperD at o
  split at o
  · cases hv with
    | str ha =>
      cases hvs
      obtain ⟨h, o2⟩ := Out.chk o
      rw [Bool.and_eq_true] at h
      exact ⟨_, rfl, rfl, of_decide_eq_true h.1, at_now r o2 (.str (sOk_of h.2))⟩
  · exact o.elim
def repS (a : Str) (n : Int) : Str := ⟨(List.replicate n.toNat a.cps).foldl (· ++ ·) #[]⟩
theorem foldl_size (a : Array Nat) : ∀ (n : Nat) (acc : Array Nat), (List.foldl (fun x1 x2 => x1 ++ x2) acc (List.replicate n a)).size = acc.size + n * a.size
  | 0, acc => by simp
  | n + 1, acc => by rw [List.replicate_succ, List.foldl_cons, foldl_size a n, Array.size_append, Nat.add_mul]; omega
theorem foldl_mem (a : Array Nat) (c : Nat) : ∀ (n : Nat) (acc : Array Nat), c ∈ (List.foldl (fun x1 x2 => x1 ++ x2) acc (List.replicate n a)) → c ∈ acc ∨ c ∈ a
  | 0, acc, h => .inl h
  | n + 1, acc, h => by
    rw [List.replicate_succ, List.foldl_cons] at h
    rcases foldl_mem a c n _ h with h | h
    · exact Array.mem_append.mp h
    · exact .inr h
theorem repS_len' {i : Str} {n : Nat} : Str.length ⟨List.foldl (fun x1 x2 => x1 ++ x2) #[] (List.replicate n i.cps)⟩ = i.length * n := by
  show (List.foldl (fun x1 x2 => x1 ++ x2) #[] (List.replicate n i.cps)).size = i.cps.size * n
  rw [foldl_size, Nat.mul_comm]; simp
theorem sOk_rep {i : Str} {k : Int} (h : SOk i) (hl : i.length * k.toNat ≤ sizeLine) : SOk (repS i k) := by
  refine ⟨?_, by unfold repS; rw [repS_len']; exact hl⟩
  unfold PyData.strOk
  rw [Array.all_eq_true']
  intro c hc
  rcases foldl_mem _ c _ _ hc with h1 | h1
  · simp at h1
  · exact decide_eq_true (strOk_mem h (by simpa using h1))
abbrev rRepS : R2 := fun x y H Q => ∃ i k, x = .str i ∧ y = .int k ∧ 2 ≤ k ∧ k ≤ 1000 ∧ i.length ≤ 1000 ∧ i.length ≠ 0 ∧ Q (.str (repS i k)) H
theorem op_repS : OpR X (binaryOp .Mult) rRepS := by
  intro pins s σ H x y v u Q I rx ry h
  obtain ⟨i, k, rfl, rfl, h1, h2, h3, h4, q⟩ := h
  obtain ⟨t, rfl⟩ := rx
  obtain ⟨t', rfl⟩ := ry
  have hm : i.length * k.toNat ≤ 1000 * 1000 := Nat.mul_le_mul h3 (by omega)
  refine PySem.P.mul_str ?_ ?_ ?_ ?_
  · have e1 : ¬ k < -(2 ^ 63 : Int) := by omega
    have e2 : ¬ k ≥ 2 ^ 63 := by omega
    rw [decide_eq_false e1, decide_eq_false e2]; rfl
  · intro _ _
    have : (2 ^ 63 - 1 : Int) / k ≥ 1000 := by
      apply Int.le_ediv_of_mul_le (by omega)
      omega
    omega
  · intro _ _
    exact decide_eq_false (by rw [sizeLine_eq]; omega)
  · rw [if_neg (by omega), if_neg (by
      have e1 : (k == 1) = false := by rw [beq_eq_false_iff_ne]; omega
      have e2 : (i.length == 0) = false := by rw [beq_eq_false_iff_ne]; exact h4
      rw [e1, e2]; simp)]
    refine ⟨?_, ?_⟩
    · rw [repS_len']
      exact Nat.le_trans hm (by rw [sizeLine_eq]; decide)
    · exact ⟨.str _, H, I.tok _, ⟨_, rfl⟩, q⟩
noncomputable def mulD (x y : D) : M D := match x, y with
  | .str a, .int k => M.chk (decide (2 ≤ k ∧ k ≤ 1000 ∧ a.length ≤ 1000 ∧ a.length ≠ 0)) (pure (.str (repS a k)))
  | _, _ => mulID x y
theorem or_mul : OpR X (binaryOp .Mult) (fun x y H Q => rRepS x y H Q ∨ (rI CMul fun i j => .int (i * j)) x y H Q) := op_repS.or op_mul
theorem od_mul : OpD g (fun x y H Q => rRepS x y H Q ∨ (rI CMul fun i j => .int (i * j)) x y H Q) mulD := by
  intro c S H v w d e Q E r hv hw o
  unfold mulD at o
  split at o
  · rename_i a k
    cases hv with
    | str ha =>
      cases hw with
      | int k =>
        obtain ⟨h, o2⟩ := Out.chk o
        obtain ⟨h1, h2, h3, h4⟩ := of_decide_eq_true h
        have hm : a.length * k.toNat ≤ 1000 * 1000 := Nat.mul_le_mul h3 (by omega)
        exact .inl ⟨a, k, rfl, rfl, h1, h2, h3, h4, at_now r o2 (.str (sOk_rep ha (Nat.le_trans hm (by rw [sizeLine_eq]; decide))))⟩
  · exact .inr (od_mulI c S H v w _ _ Q E r hv hw o)
noncomputable def shlC (i j : Int) : Bool := okP (0 ≤ j ∧ (Builtin.Int.intBits i : Int) + j ≤ 2 ^ 27)
noncomputable def shlD : D → D → M D := intD shlC fun i j => .int (i * 2 ^ j.toNat)
theorem od_shl : OpD g (rI CShl fun i j => .int (i * 2 ^ j.toNat)) shlD := od_int (fun i j h => show 0 ≤ j ∧ (Builtin.Int.intBits i : Int) + j ≤ 2 ^ 27 from okP_of h) fun _ _ _ _ => .int _
def sAsg (t : Tg) (m : EM) : SM := fun τ => sOf (m τ) τ fun d S => match t.bind d τ with
  | some τ' => .ok (.nx τ') S
  | none => .bad
theorem ds_asg {cur : Cur} {hid : List Addr} {tg e : Expr} {pos : Pos} {t : Tg} {m : EM} (he : PE X e (tE (gx X cur hid) W m)) (hg : PG X tg (t.rd X.K)) (hs : swapsWithSole [tg] e pos.line X.env = pure false := by rfl) (hw : swappedStores [tg] e X.env = pure none := by rfl)
    (h1 : (assignEach [tg] X.env).map (·.2) = [assign tg X.env] := by rfl) : PS X (.Assign [tg] e pos) (tS (gx X cur hid) W (sAsg t m)) := PS.imp (ps_asg he hg hs hw h1) fun De σ H h =>
  tS_of (k := fun d τ S => match t.bind d τ with
    | some τ' => .ok (.nx τ') S
    | none => .bad) h fun c S H1 τ v d r1 sl v1 o1 => by
    cases q : t.bind d τ with
    | none => rw [q] at o1; exact o1.elim
    | some τ' =>
      rw [q] at o1
      exact Tg.ok (g := gx X cur hid) (vs := t.slots) r1 sl v1 q (fun _ h => h) fun σ' s' _ => o1 σ' H1 c (Fut.refl r1) s'
theorem room65 {k : Nat} {A : Around} (h : RoomG k A) : A.units + 65 < cLine := by have := h.un; omega
theorem room1 {k : Nat} {A : Around} (h : RoomG k A) : A.units + 1 < cLine := by have := h.un; omega
theorem takesF : Takes X WF := takes_none5
theorem bt_len : bootBuiltins "len" = some (.builtin "len") := PySem.boot_len
theorem bt_all : bootBuiltins "all" = some (.builtin "all") := by decide +kernel
theorem bt_any : bootBuiltins "any" = some (.builtin "any") := by decide +kernel
theorem bt_abs : bootBuiltins "abs" = some (.builtin "abs") := by decide +kernel
theorem bt_max : bootBuiltins "max" = some (.builtin "max") := by decide +kernel
theorem bt_min : bootBuiltins "min" = some (.builtin "min") := by decide +kernel
theorem bt_isinstance : bootBuiltins "isinstance" = some (.builtin "isinstance") := by decide +kernel
theorem bt_int : bootBuiltins "int" = some (.type "int") := by decide +kernel
theorem bt_str : bootBuiltins "str" = some (.type "str") := by decide +kernel
theorem bt_bool : bootBuiltins "bool" = some (.type "bool") := by decide +kernel
theorem bt_list : bootBuiltins "list" = some (.type "list") := by decide +kernel
theorem bt_tuple : bootBuiltins "tuple" = some (.type "tuple") := by decide +kernel
theorem bt_dict : bootBuiltins "dict" = some (.type "dict") := by decide +kernel
theorem bt_set : bootBuiltins "set" = some (.type "set") := by decide +kernel
end
end ND
set_option maxHeartbeats 2000000
namespace PySem
namespace ErrX
open PySem.W PySem.Calls PyProof.Rows PySem.HandSPX
def iA (fl : Str) (p1 p2 : Pos) : Arguments := { posonlyargs := [], args := [{ arg := "self", annotation := none, pos := p1 }, { arg := fl, annotation := none, pos := p2 }], vararg := none, kwonlyargs := [], kw_defaults := [], kwarg := none, defaults := [] }
def iB (fl : Str) (q1 q2 q3 q4 : Pos) : List Stmt := [.Assign [.Attribute (.Name "self" q1) fl q2] (.Name fl q3) q4]
def iS (fl : Str) : Scope := { kind := .function, names := [(PySem.Str.ofString "self", .local), (fl, .local)], isGenerator := false, isCoroutine := false, more := [] }
structure ErrTxt (K : Frag) (mg : Str → Option Value) (nm qn fl : Str) (C fI : Addr) : Prop where
  gC : mg nm = some (.ref C)
  cls : ∃ nm q N bs bm sn sub ab col dd k0 k1 k2 k3 k5, K.lookup C = some (excClassObj nm q C N bs bm true sn sub ab col dd k0 k1 k2 k3 k5 "ValueError.__new__") ∧ refsVE bm = true
  sa : findIn K (.ref C) "__setattr__" = some (some (.builtin "object.__setattr__"))
  ga : findIn K (.ref C) "__getattribute__" = some (some (.builtin "BaseException.__getattribute__"))
  gg : findIn K (.ref C) "__getattr__" = some none
  noN : findIn K (.ref C) fl = some none
  nsf : (fl == ("self" : Str)) = false
  ndb : (fl == ("__debug__" : Str)) = false
  ca : findIn K (.ref C) "__class__" = some (some (.builtin "object.__class__"))
  cn : specialIn K (.builtin "object.__class__") "__get__" = some (some (.builtin "getset_descriptor.__get__"))
  ct : takesIn K (.builtin "object.__class__") = some true
  cm : mroIn K C (.type "object") = some true
  bd : ∀ (kV doc pm : Value) (an : Option Addr) (cdv ct : Value) (p1 p2 q1 q2 q3 q4 : Pos) (x v : Value), bindArgs (fnOf "__init__" qn (iA fl p1 p2) (iB fl q1 q2 q3 q4) (iS fl) .none kV doc pm an cdv ct) ⟨[x, v], []⟩ = pure [(("self" : Str), x), (fl, v)]
  iC : findIn K (.ref C) "__init__" = some (some (.ref fI))
  tC : typeIn K (.ref fI) = some (.type "function")
  kC : keepIn K (.ref C) = true
  exC : subIn K (.ref C) (.type "BaseException") = some true
  tyC : typeIn K (.ref C) = some (.type "type")
  hdC : hasDictIn K C = true
  te : exmOne K (.ref C) (.ref C) = some true
  fn : ∃ (oc : Value) (od : Option Addr) (kV doc pm : Value) (an : Option Addr) (cdv ct : Value) (osl : Array (Option Value)) (p1 p2 q1 q2 q3 q4 : Pos),
    K.lookup fI = some ⟨oc, od, .func (fnOf "__init__" qn (iA fl p1 p2) (iB fl q1 q2 q3 q4) (iS fl) .none kV doc pm an cdv ct), osl⟩ ∧ codeIn K cdv qn = true
theorem one_size (v : Value) : [v].length ≤ sizeLine := by
  rw [sizeLine_eq]
  exact (by decide : 1 ≤ 16777216)
theorem kept_but {K : Frag} {h h' : Heap} {x : Addr} (X : K.In h) (hx : K.lookup x = none) (k : ∀ b o, b ≠ x → h.get? b = some o → h'.get? b = some o) : K.In h' := fun a o e =>
  k a o (fun z => by rw [z, hx] at e; cases e) (X a o e)
theorem ldC {M : Model} {s : Shared} {name : Str} {scope : Scope} {L a : Addr} {cd : Value} {m : Str → Option Value} {x : Str} {pos : Pos} {v : Value} {Q : Value → Shared → Prop} {A : Around} {E : Value → Shared → Prop} (hn : s.heap.Ns L m) (hv : m x = some v) (h : Q v s)
    (hk : scope.kind = .function := by rfl) (hl : (envOfC name scope L a cd).kindOf x = some .local := by rfl) (hd : (x == ("__debug__" : Str)) = false := by decide) :
    wpAny M A (eval (.Name x pos) (envOfC name scope L a cd)) Q E s := wpAny_Name (wpAny_loadName_local hk hl hn hv h) hd
structure InitEnd (h h' : Heap) (fl : Str) (x C dx t1 : Addr) (v : Value) : Prop where
  keep : ∀ b o, b ≠ x → h.get? b = some o → h'.get? b = some o
  obj : h'.get? x = some { cls := .ref C, dict := some dx, data := .fields #[.ref t1, .none, .none, .none, .bool false, .none] }
  dbig : h.objs.size ≤ dx
  dne : dx ≠ x
  ns : h'.Ns1 dx (fun y => if y = fl then some v else none)
structure OwnMade (h h' : Heap) (fl : Str) (e C d : Addr) (v : Value) : Prop where
  keep : ∀ b o, h.get? b = some o → h'.get? b = some o
  new : h.objs.size ≤ e
  obj : ∃ oe vs, h'.get? e = some oe ∧ oe.cls = .ref C ∧ oe.dict = some d ∧ oe.data = .fields vs ∧ vs[1]? = some .none
  dbig : h.objs.size ≤ d
  dne : d ≠ e
  ns : h'.Ns1 d (fun y => if y = fl then some v else none)
section
variable {prog : Program} {w : World} {A : Around} {E : Value → Shared → Prop} {R : Result → Shared → Prop} {s : Shared} {K : Frag} {mg : Str → Option Value} {C fI : Addr} {nm qn fl : Str}
theorem err_init (T : ErrTxt K mg nm qn fl C fI) {x t0 : Addr} {v : Value} (X : K.In s.heap) (hlim : s.heap.NoLimit) (hx : s.heap.get? x = some (excO C t0)) (hnx : K.lookup x = none) (hroom : A.depth < recursionLimit)
    (hq : ∀ h' tk dx, InitEnd s.heap h' fl x C dx t0 v → R (.ok (.ret .none)) { s with heap := h', toks := tk }) :
    codeAny (model prog w) A (.call (.ref fI) ⟨[.ref x, v], []⟩) R s := by
  obtain ⟨oc, od, kV, doc, pm, an, cdv, ct, osl, p1, p2, q1, q2, q3, q4, ho, hcd⟩ := T.fn
  obtain ⟨cnm, q, N, bs, bm, sn, sub, ab, col, dd, k0, k1, k2, k3, k5, hC, hbm⟩ := T.cls
  have hcl : clsIn K C = some { name := cnm, bases := bs, mro := .ref C :: bm, ns := N, qualname := q, hasDict := true, slotNames := sn, subclasses := sub, abstract := ab, collection := col, hasDel := false } := by unfold clsIn; rw [hC] <;> rfl
  have ns : ¬ fl = ("self" : Str) := fun z => by
    have q := T.nsf
    rw [z] at q
    exact absurd q (by decide)
  have k1' : (iS fl).names.lookup fl = some .local := by
    show List.lookup fl [(PySem.Str.ofString "self", NameKind.local), (fl, .local)] = _
    rw [List.lookup, T.nsf, List.lookup, beq_self_eq_true]
  have k0' : (iS fl).names.lookup (PySem.Str.ofString "self") = some .local := by
    show List.lookup (PySem.Str.ofString "self") [(PySem.Str.ofString "self", NameKind.local), (fl, .local)] = _
    rw [List.lookup, beq_self_eq_true]
  refine Att.call_fn (binds := [("self", .ref x), (fl, v)]) X hlim ho hcd hroom (BindsTo.of_eq (T.bd _ _ _ _ _ _ _ _ _ _ _ _ _ _)) (by
    show (((iS fl).names.lookup (PySem.Str.ofString "self") == some NameKind.local || _) && ((((iS fl).names.lookup fl == some NameKind.local || _) && true))) = true
    rw [k0', k1']; rfl) (fun s₁ IC => ?_) rfl rfl rfl
  obtain ⟨h₁, tk₁, rfl⟩ := IC.toInCall.same
  have k : ∀ b o, s.heap.get? b = some o → h₁.get? b = some o := IC.toInCall.keep
  have hn := IC.toInCall.ns
  have hxL : s.heap.objs.size ≠ x := Nat.ne_of_gt (Heap.lt_size hx)
  have X₁ : K.In h₁ := X.keeps k
  have hx₁ := k _ _ hx
  show wpAny _ _ (execs _ _) _ _ _
  refine wpAny_execs_cons (plainObj_wpAny_Assign_Attribute ?_)
  have e1 : (bindL (envOfC qn (iS fl) s.heap.objs.size fI cdv).kindOf [(Str.ofString "self", Value.ref x), (fl, v)] fun _ => none) = fun y => if y = fl then some v else if y = PySem.Str.ofString "self" then some (.ref x) else none := by
    show (if (iS fl).names.lookup fl = some .local then fun y => if y = fl then some v else (if (iS fl).names.lookup (PySem.Str.ofString "self") = some .local then fun y => if y = PySem.Str.ofString "self" then some (Value.ref x) else none else fun _ => none) y else _) = _
    rw [if_pos k1', if_pos k0']
  rw [e1] at hn
  refine ldC (v := v) hn (if_pos rfl) (ldC (v := .ref x) hn ?_ ?_ rfl k0' (by decide)) rfl k1' T.ndb
  · rw [if_neg (fun z => ns z.symm), if_pos rfl]
  refine set_plain X₁ (ox := excO C t0) (od := none) ⟨hx₁, rfl, rfl, trivial⟩ T.sa ?_
  refine exc_osa X₁ hx₁ hcl (show refsVE (.ref C :: bm) = true from hbm) rfl T.noN (fun h₃ tk₃ dx k₃ dn dne hx₃ hn₃ => ?_)
  show wpAny _ _ (execs _ _) _ _ _
  have z : s.heap.objs.size < h₁.objs.size := hn.lt
  exact wpAny_execs_nil (hq h₃ tk₃ dx ⟨fun b o hb e => k₃ b o hb (k b o e), hx₃, Nat.le_of_lt (Nat.lt_of_lt_of_le z dn), dne, hn₃⟩)
theorem err_made (T : ErrTxt K mg nm qn fl C fI) {v : Value} (X : K.In s.heap) (hlim : s.heap.NoLimit) (hroom : A.depth + 1 < recursionLimit)
    (hq : ∀ h' tk e d, OwnMade s.heap h' fl e C d v → R (.ok (.ret (.ref e))) { s with heap := h', toks := tk }) :
    codeAny (model prog w) A (.call (.ref C) ⟨[v], []⟩) R s := by
  obtain ⟨cnm, q, N, bs, bm, sn, sub, ab, col, dd, k0, k1, k2, k3, k5, hC, hbm⟩ := T.cls
  obtain ⟨hp, g, dr, tk, os⟩ := s
  have k : ∀ b o, hp.get? b = some o → ((hp.push (kdv_tup [v])).push (excO C hp.objs.size)).get? b = some o := fun b o e => Heap.get?_push_of_some _ (Heap.get?_push_of_some _ e)
  have hget : ((hp.push (kdv_tup [v])).push (excO C hp.objs.size)).get? (hp.objs.size + 1) = some (excO C hp.objs.size) := by heap_get
  have hnx : K.lookup (hp.objs.size + 1) = none := by
    cases e : K.lookup (hp.objs.size + 1) with
    | none => rfl
    | some o =>
      have z : hp.get? (hp.objs.size + 1) = some o := X _ _ e
      exact absurd (Nat.lt_of_succ_lt (Heap.lt_size z)) (Nat.lt_irrefl _)
  refine call_own F.excBase_ValueError (fun X => refsVE_contains X bm hbm) (X _ _ hC) (looks_findIn X T.iC) (fun self => bind_fn X self T.tC) (one_size v) ?_
  refine err_init (s := ⟨(hp.push (kdv_tup [v])).push (excO C hp.objs.size), g, dr, tk, os⟩) T (X.keeps k) (hlim.keeps k) hget hnx ?_ fun h' tk' dx ⟨k', hx, dn, dne, hns⟩ => ?_
  · show A.depth + 1 < recursionLimit
    exact hroom
  · have old : ∀ b o, hp.get? b = some o → h'.get? b = some o := fun b o e => k' b o (Nat.ne_of_lt (Nat.lt_succ_of_lt (Heap.lt_size e))) (k b o e)
    have z : hp.objs.size + 1 + 1 ≤ dx := by
      first
        | (simpa only [Heap.size_push] using dn)
        | exact dn
        | (have q := dn; rw [Heap.size_push, Heap.size_push] at q; exact q)
    exact ⟨rfl, hq h' tk' (hp.objs.size + 1) dx ⟨old, Nat.le_succ _, ⟨_, _, hx, rfl, rfl, rfl, rfl⟩, Nat.le_trans (Nat.le_trans (Nat.le_succ _) (Nat.le_succ _)) z, dne, hns⟩⟩
end
end ErrX
end PySem
set_option maxHeartbeats 900000
namespace L2
open PySem
section
variable {X : Cx} {k : Nat} {f C : Addr} {fd : FuncData} {params : List Str} {sp : Sp} {E : St → XK}
def MadeW (C : Addr) (sp : Sp) (vs : List V) (G : Hp) (Q : VK) (E : XK) : Prop := ∀ x dx, G x = none → G dx = none → dx ≠ x →
  sp (.ref x :: vs) (upd (upd G dx (.own x)) x (.ins C dx [])) (fun v G2 => v = .non ∧ Q (.ref x) G2) E
theorem make_at {CX : CXT} {ps : List (Addr × Obj)} {st : St} {G : Hp} {sh : Shared} {Q : VK} {us bs : List Value} {vs : List V} {kv : List (Str × Value)} (M : Mk X.K C f) (F : FnG X.prog X.w X.K X.mg X.base CX k f fd params sp) (room : RoomG (k + 1) X.A)
    (pass : PassesAt CX X st (E st)) (inv : Inv X ps st G sh) (rel : Vals vs bs) (binds : ∀ (s' : Shared) (self : Value), X.K.In s'.heap → BindsTo s' fd ⟨self :: us, kv⟩ (params.zip (self :: bs))) (want : MadeW C sp vs G Q (E st)) :
    wpAny (model X.prog X.w) X.A (call (.ref C) us kv) (EP X ps st Q) X.xe sh := by
  let self := sh.heap.objs.size + 1
  have promise := want self sh.heap.objs.size (inv.hok.fresh (Nat.le_succ _)) (inv.hok.fresh (Nat.le_refl _)) (Nat.ne_of_lt (Nat.lt_succ_self _))
  have made := Inv.made (C := C) inv
  have body := F.run _ X.stack _ _ ⟨.ref self :: us, kv⟩ (.ref self :: bs) (.ref self :: vs) _ (E st) (room.make C us kv) (made.env0.make C us kv) (binds _ _ made.kIn) (.cons (show RelV (V.ref self) (Value.ref self) from rfl) rel) promise
  refine wpAny_call (make_map (f := f) inv.kIn M.makes M.init (beq_iff_eq.mp M.fn) (codeAny_mono body fun res s' ends => ?_))
  match res, ends with
  | .error e, out => exact pass ps _ _ e s' made out
  | .ok (.ret u), out =>
    obtain ⟨v, G', inv', isV, rfl, q⟩ := made.after out
    exact ⟨isV, ⟨.ref self, G', inv', rfl, q⟩⟩
def tMakeX (C : Addr) (sp : Sp) (E : St → XK) (args : TA) : TE := fun st G Q => args st G fun vs G1 => MadeW C sp vs G1 Q (E st)
theorem MadeW.len {CX : CXT} {ps : List (Addr × Obj)} {st : St} {G : Hp} {sh : Shared} {Q : VK} {vs : List V} {Ex : XK} (want : MadeW C sp vs G Q Ex) (F : FnG X.prog X.w X.K X.mg X.base CX k f fd params sp) (inv : Inv X ps st G sh) : vs.length + 1 = params.length :=
  F.len _ _ _ _ (want (sh.heap.objs.size + 1) sh.heap.objs.size (inv.hok.fresh (Nat.le_succ _)) (inv.hok.fresh (Nat.le_refl _)) (Nat.ne_of_lt (Nat.lt_succ_self _)))
theorem pe_makeX {CX : CXT} {x : Str} {p pos : Pos} {e : Expr} {es : List Expr} {args : TA} (M : Mk X.K C f) (F : FnG X.prog X.w X.K X.mg X.base CX k f fd params sp) (room : RoomG (k + 1) X.A) (glob : Gl X x) (isC : X.mg x = some (.ref C)) (bd : Binds X.K fd params [])
    (pass : ∀ st, PassesAt CX X st (E st)) (items : PA X (e :: es) args) (ndbg : (x == ("__debug__" : Str)) = false) (plain : starEach (e :: es) X.env = (false, eval e X.env) :: starEach es X.env) (nostar : (backTo pos (starEach es X.env)).any (·.1) = false) :
    PE X (.Call (.Name x p) (e :: es) [] pos) (tMakeX C sp E args) where
  run := fun ps sh st G Q inv want => wpAny_Call_Name_kw (ld_glob inv glob isC (PySem.W.callWith_K (h₀ := X.base) inv.ok.mod.kin M.kp (thn (items.run pos ps sh st G _ inv want) fun us s1 ⟨vs, G1, inv1, rel, mw⟩ =>
    ⟨inv1.kIn, make_at (bs := us) M F room (pass st) inv1 rel (fun s' self inK => by
      have all : (self :: us ++ []).length = params.length := by rw [List.append_nil, List.length_cons, ← rel.length]; exact mw.len F inv1
      have b := bd s' (self :: us) inK all
      rwa [List.append_nil] at b) mw⟩) plain nostar) ndbg)
theorem pe_makeX0 {CX : CXT} {x : Str} {p pos : Pos} {kws : List Keyword} {ks : List Str} {args : TA} (M : Mk X.K C f) (F : FnG X.prog X.w X.K X.mg X.base CX k f fd params sp) (room : RoomG (k + 1) X.A) (glob : Gl X x) (isC : X.mg x = some (.ref C))
    (bd : ∀ (s : Shared) (self : Value) (ws : List Value), X.K.In s.heap → ws.length = ks.length → BindsTo s fd ⟨[self], ks.zip ws⟩ (params.zip (self :: ws))) (count : params.length = ks.length + 1) (pass : ∀ st, PassesAt CX X st (E st)) (items : PK X kws args)
    (named : (backToKw pos (keywordEach kws X.env)).all (·.1.isSome) = true) (names : (backToKw pos (keywordEach kws X.env)).filterMap (·.1) = ks) (ndbg : (x == ("__debug__" : Str)) = false)
    (plain : ((backTo pos (starEach [] X.env)).any (·.1) || (backToKw pos (keywordEach kws X.env)).any (·.1.isNone)) = false) : PE X (.Call (.Name x p) [] kws pos) (tMakeX C sp E args) where
  run := fun ps sh st G Q inv want => wpAny_Call_Name_kw (ld_glob inv glob isC (PySem.W.callWith_KW0 (h₀ := X.base) inv.ok.mod.kin M.kp named (thn (items.run pos ps sh st G _ inv want) fun ws s1 ⟨vs, G1, inv1, rel, mw⟩ => ⟨inv1.kIn, by
    rw [names]
    exact make_at (us := []) (bs := ws) M F room (pass st) inv1 rel (fun s' self inK => bd s' self ws inK (by have a := mw.len F inv1; have b := rel.length; omega)) mw⟩) plain) ndbg)
end
end L2
set_option maxHeartbeats 900000
namespace L2
open PySem PySem.Spec PyProof.Rows
theorem relO_err {fl : Str} {v : V} {v' : Value} (r : RelV v v') (f : Str) : RelO (List.lookup f [(fl, v)]) (if f = fl then some v' else none) := by
  by_cases hw : f = fl
  · subst hw
    rw [if_pos rfl]
    have q : List.lookup f [(f, v)] = some v := by simp [List.lookup]
    rw [q]
    exact r
  · rw [if_neg hw]
    have qw : (f == fl) = false := by simpa using hw
    have q2 : List.lookup f [(fl, v)] = none := by simp [List.lookup, qw]
    rw [q2]
    trivial
section
variable {X : Cx} {C fI : Addr} {nm qn fl : Str}
def tMkErr (C : Addr) (fl : Str) (ta : TA) : St → Hp → XK → Prop := fun σ H Q => ta σ H fun vs H1 => ∃ v, vs = [v] ∧ ∀ d, H1 d = none → Q (.ref C) (some d) (upd H1 d (.xd [(fl, v)]))
theorem pmk_err {a : Expr} {ta : TA} {p pos : Pos} {k : Nat} (T : PySem.ErrX.ErrTxt X.K X.mg nm qn fl C fI) (hr : Room k X.A) (ha : PA X [a] ta) (hg : Gl X nm) (hnd : (nm == ("__debug__" : Str)) = false)
    (he : starEach (a :: []) X.env = (false, eval a X.env) :: starEach [] X.env := by rfl) (hpl : (backTo pos (starEach [] X.env)).any (·.1) = false := by rfl) :
    PMk X (.Call (.Name nm p) [a] [] pos) (tMkErr C fl ta) := by
  intro pins s σ H Q I h
  refine wpAny_Call_Name_kw (ld_glob I hg T.gC ?_ hnd)
  refine PySem.W.callWith_K (h₀ := X.base) I.ok.mod.kin T.kC (thn (ha.run pos pins s σ H _ I h) fun us s1 hh => ?_) he hpl
  obtain ⟨vs, H1, I1, r1, v, ev, q1⟩ := hh
  subst ev
  refine ⟨I1.kIn, ?_⟩
  cases r1 with
  | cons rv rn =>
    rename_i v' us'
    cases rn
    show wpAny _ _ (call (.ref C) [v']) _ _ _
    have hlim := I1.nolimit
    obtain ⟨hp, g, dr, tk, os⟩ := s1
    refine wpAny_call (PySem.ErrX.err_made T I1.kIn hlim (by have := hr.dp; omega) fun h' tk' e d M => ?_)
    show MkP X pins σ Q (.ref e) ⟨h', g, dr, tk', os⟩
    obtain ⟨oe, fv, hoe, hc, hd, hdat, h1⟩ := M.obj
    have hns := M.ns
    obtain ⟨G', g1, g2⟩ := restrict h' fun b => decide (b ≠ e)
    have gk : ∀ b, b ≠ e → G'.get? b = h'.get? b := fun b hb => g1 b (decide_eq_true hb)
    have ge : G'.get? e = none := g2 e (by simp)
    have old : ∀ b o, hp.get? b = some o → G'.get? b = some o := fun b o q => (gk b (Nat.ne_of_lt (Nat.lt_of_lt_of_le (Heap.lt_size q) M.new))).trans (M.keep b o q)
    have ob : ObjOk X.prog X.w (upd H1 d (.xd [(fl, v)])) G' d (.xd [(fl, v)]) :=
      ⟨_, hns.at (fun o q => (gk d M.dne).trans q), fun f => relO_err rv f⟩
    have J : Inv X pins σ (upd H1 d (.xd [(fl, v)])) ⟨G', g, dr, tk', os⟩ := I1.laid (t' := tk') old M.dbig ob
    refine ⟨e, oe, fv, ⟨G', g, dr, tk', os⟩, _, .ref C, some d, rfl, J, fun b o q => ?_, ge, hoe, ⟨hc, hd⟩, hdat, h1, ?_, rfl, I1.bare, raises_own T.exC T.tyC, q1 d (I1.hok.fresh M.dbig)⟩
    · by_cases hb : b = e
      · have q' : G'.get? b = some o := q
        rw [hb, ge] at q'; cases q'
      · exact (gk b hb).symm.trans q
    · rw [upd_ne (Ne.symm M.dne)]
      exact I1.hok.fresh M.new
def tRaiseErr (C : Addr) (fl : Str) (W : WX) (ta : TA) : TS := fun _ σ H => tMkErr C fl ta σ H fun cls d H' => W cls d σ H'
theorem ps_raiseErr {a : Expr} {ta : TA} {W : WX} {p pos pos2 : Pos} {k : Nat} (hc : X.calm = true) (T : PySem.ErrX.ErrTxt X.K X.mg nm qn fl C fI) (hr : Room k X.A) (tk : Takes X W) (ha : PA X [a] ta) (hg : Gl X nm) (hnd : (nm == ("__debug__" : Str)) = false)
    (he : starEach (a :: []) X.env = (false, eval a X.env) :: starEach [] X.env := by rfl) (hpl : (backTo pos (starEach [] X.env)).any (·.1) = false := by rfl) :
    PS X (.Raise (some (.Call (.Name nm p) [a] [] pos)) none pos2) (tRaiseErr C fl W ta) := ps_raise hc tk (pmk_err T hr ha hg hnd he hpl)
end
end L2
namespace L2
open PySem
def rIsH (K : PySem.W.Frag) (D a dd : Addr) : List V → Hp → VK → Prop := fun xs G Q => ∃ (c : V) (cv : Value) (b : Bool) (ws : List (Str × V)), xs = [.ref a, c] ∧ (∀ u, RelV c u → u = cv) ∧ PySem.W.kitOne K (.ref D) cv = some b ∧ G dd = some (.xd ws) ∧ Q (.bl b) G
theorem call_isH {X : Cx} {a D fI dd : Addr} {oe : Obj} {nm qn fl : Str} {pn : List (Addr × Obj)} (T : PySem.ErrX.ErrTxt X.K X.mg nm qn fl D fI) (zc : Zc (.ref D) (some dd) oe) (flds : ∃ vs, oe.data = .fields vs) :
    CallR (X.suite a ((a, oe) :: pn)) (.builtin "isinstance") (rIsH X.K D a dd) := fun ps sh st G xs us Q inv rel ⟨c, cv, b, ws, ex, only, kit, atd, q⟩ => by
  subst ex
  match us, rel with
  | [u, t], .cons isE (.cons isC .nil) =>
    obtain rfl : u = .ref a := isE
    obtain rfl := only t isC
    obtain ⟨held, _⟩ := inv.pin (a, oe) (List.mem_append_left _ List.mem_cons_self)
    obtain ⟨vs, isF⟩ := flds
    obtain ⟨mA, ns, _⟩ := (show ObjOk X.prog X.w G sh.heap dd (.xd ws) from inv.hok dd _ atd)
    obtain ⟨od, getD, _⟩ := lookIn_ns ns
    have notC : PySem.W.notCls oe = true := by unfold PySem.W.notCls; rw [isF]
    have at_ : PySem.W.InstAt sh.heap a oe D (some od) := ⟨held, zc.1, notC, by rw [zc.2]; exact getD⟩
    have known : (PySem.W.clsIn X.K D).isSome = true := by
      obtain ⟨cd, e, _⟩ := PySem.W.any_some T.hdC
      rw [e]; rfl
    exact PySem.W.kia_one (PySem.W.kitx_exc known T.ga T.gg T.exC T.ca T.cn T.ct T.cm) inv.kIn at_ kit (fun z => nomatch z) fun tk => ⟨.bl b, G, inv.kept (t' := tk) fun _ _ z => z, rfl, q⟩
end L2
set_option maxHeartbeats 1000000
namespace ND
open PySem L2
section
variable {X : Cx} {g : G} {W : WX} {a b e o : Expr} {es : List Expr} {m ma mb mc mo : EM} {ms : AM} {pos p : Pos} {cur : Cur} {hid : List Addr} {st : Stmt} {rest : List Stmt} {s1 s2 : SM} {tm : TM}
def sRaise (nm fl : Str) (m : EM) : SM := fun τ => sOf (m τ) τ fun d S => .err nm [(fl, d)] τ S
theorem ds_raise {nm qn fl : Str} {C fI : Addr} {k : Nat} {p2 : Pos} (hc : X.calm = true) (T : PySem.ErrX.ErrTxt X.K X.mg nm qn fl C fI) (hr : RoomG k X.A) (tk : Takes X W) (ha : PE X a (tE (gx X cur hid) W m)) (hg : Gl X nm)
    (hnd : (nm == ("__debug__" : Str)) = false := by decide) (he : starEach (a :: []) X.env = (false, eval a X.env) :: starEach [] X.env := by rfl) (hpl : (backTo pos (starEach [] X.env)).any (·.1) = false := by rfl) :
    PS X (.Raise (some (.Call (.Name nm p) [a] [] pos)) none p2) (tS (gx X cur hid) W (sRaise nm fl m)) :=
  PS.imp (ps_raiseErr hc T hr.toRoom tk (pa_cons ha pa_nil he) hg hnd he hpl) fun De σ H h =>
    tS_of (k := fun d τ S => .err nm [(fl, d)] τ S) h fun c S H1 τ v d r1 s1 v1 o1 =>
      ⟨v, rfl, fun dd hd => o1 (.ref C) (some dd) σ _ c (Fut.new r1 hd) (s1.mono (Fut.new r1 hd).ex (Pre.refl c)) ⟨C, T.gC, rfl, .inr ⟨dd, _, rfl, Fut.frz_new r1 hd, .cons ((Fut.new r1 hd).val v1) .nil⟩⟩⟩
def clr (i : Nat) : SRes → SRes
  | .ok (.nx τ) S => .ok (.nx (τ.set i none)) S
  | .ok (.bk τ) S => .ok (.bk (τ.set i none)) S
  | .ok (.ct τ) S => .ok (.ct (τ.set i none)) S
  | .ok (.rt d) S => .ok (.rt d) S
  | _ => .bad
def sTry (mb : SM) (hit : Str → Option Bool) (i : Nat) (ms : Str → List (Str × D) → Nat → SM) : SM := fun τ S => match mb τ S with
  | .err C fs τ' S' => (match hit C with
    | some true => clr i (ms C fs S'.length (τ'.set i (some (.cel S'.length))) (S' ++ [.dead]))
    | some false => .err C fs τ' S'
    | none => .bad)
  | r => r
theorem pss_ex {I : Type} {t : I → TS} {ss : List Stmt} (h : ∀ i, PSs X ss (t i)) : PSs X ss (fun De σ H => ∃ i, t i De σ H) := ⟨fun pins s σ H De I ⟨i, q⟩ => (h i).run pins s σ H De I q⟩
theorem live_dead {c : List Addr} {S : Store} {a : Addr} (h : c.length = S.length) : live (c ++ [a]) (S ++ [.dead]) = live c S := by
  rw [live_snoc a .dead h]
  simp [Cell.alive]
theorem Rep.hold {c : List Addr} {S : Store} {H : Hp} {a : Addr} {u : Value} {o : Option Addr} {C : Str} {fs : List (Str × D)} (hg : g.cur = none) (r : Rep g c S H) (x : XRel g (frz g c S H) c u o C fs) :
    Rep { g with cur := some ⟨S.length, a, u, o, C, fs⟩ } (c ++ [a]) (S ++ [.dead]) H ∧ Fut g c S H (c ++ [a]) (S ++ [.dead]) H ∧ frz { g with cur := some ⟨S.length, a, u, o, C, fs⟩ } (c ++ [a]) (S ++ [.dead]) H = frz g c S H := by
  have lv := live_dead (a := a) r.len
  have pre := Pre.snoc c a
  have ef : frz { g with cur := some ⟨S.length, a, u, o, C, fs⟩ } (c ++ [a]) (S ++ [.dead]) H = frz g c S H := by
    funext b
    unfold frz
    rw [lv]
  have ef' : frz g (c ++ [a]) (S ++ [.dead]) H = frz g c S H := by
    funext b
    unfold frz
    rw [lv]
  have sm : SameM g { g with cur := some ⟨S.length, a, u, o, C, fs⟩ } := ⟨rfl, rfl, rfl, rfl⟩
  have exr : Ex (frz g c S H) (frz g c S H) := Evl.Ex.refl _
  have okc : ∀ (n : Nat) (b : Addr) (y : Cell), (c ++ [a])[n]? = some b → (S ++ [Cell.dead])[n]? = some y → CellOk g (frz g c S H) (c ++ [a]) H b y := fun n b y h1 h2 => by
    rcases Nat.lt_or_ge n c.length with q | q
    · rw [List.getElem?_append_left q] at h1
      rw [List.getElem?_append_left (by rw [← r.len]; exact q)] at h2
      exact (r.ok n b y h1 h2).mono exr pre
    · have hn : n = c.length := by
        rcases Nat.eq_or_lt_of_le q with z | z
        · exact z.symm
        · rw [List.getElem?_eq_none (by simp; omega)] at h1; cases h1
      subst hn
      rw [r.len] at h2
      simp at h2
      subst h2
      trivial
  refine ⟨⟨by simp [r.len], by rw [lv]; exact r.nd, by rw [lv]; exact r.hl, r.hs, fun q e => ?_, fun n b y h1 h2 => ?_⟩, ⟨pre, ⟨by simp [r.len], by rw [lv]; exact r.nd, by rw [lv]; exact r.hl, r.hs, fun q e => ?_, fun n b y h1 h2 => ?_⟩, by rw [ef']; exact exr, fun _ _ => rfl⟩, ef⟩
  · obtain rfl : (⟨S.length, a, u, o, C, fs⟩ : CuE) = q := Option.some.inj e
    rw [ef]
    exact ⟨by rw [← r.len]; simp, (x.mono exr pre).same sm⟩
  · rw [ef]
    exact (okc n b y h1 h2).same sm
  · rw [hg] at e; cases e
  · rw [ef']
    exact okc n b y h1 h2
theorem Fut.unhold {g' : G} {c c' : List Addr} {S S' : Store} {H H' : Hp} (hg : g.cur = none) (he : g'.off = g) (f : Fut g' c S H c' S' H') : Fut g c S H c' S' H' := by
  subst he
  exact ⟨f.pre, f.rep.off, f.ex, f.hid⟩
theorem smc {c1 c2 : Cur} : SameM (gx X c1 hid) (gx X c2 hid) := ⟨rfl, rfl, rfl, rfl⟩
theorem ds_try {x n : Str} {cv : Value} {i : Nat} {body suite : List Stmt} {b₀ : Stmt} {np pos' : Pos} {mb : SM} {hit : Str → Option Bool} {ms : Str → List (Str × D) → Nat → SM} (hs : X.stack = X.env :: X.outer) (hf : X.env.frame = some X.env.locals) (hN : X.N.Nodup)
    (hi : X.N[i]? = some n) (hln : X.env.kindOf n = some .local) (hc : Names X x cv) (tk : Takes X W) (hhit : ∀ C Ca b, hit C = some b → X.mg C = some (.ref Ca) → PySem.W.exmOne X.K (.ref Ca) cv = some b)
    (hb : ∀ (W' : WX) (pn : List (Addr × Obj)) (xe : Value → Shared → Prop), Takes (X.tr pn xe) W' → PassesOwn (model X.prog X.w) X.A X.env xe → PSs (X.tr pn xe) body (tS (gx X none hid) W' mb))
    (hsu : ∀ (a : Addr) (oe : Obj) (cls : Value) (d : Option Addr) (pn : List (Addr × Obj)) (C : Str) (fs : List (Str × D)) (k : Nat), Zc cls d oe → (∃ vs, oe.data = .fields vs) → PSs (X.suite a ((a, oe) :: pn)) (b₀ :: suite) (tS (gx X (some ⟨k, a, cls, d, C, fs⟩) hid) WF (ms C fs k))) :
    PS X (.Try body [.ExceptHandler (some (.Name x np)) (some n) (b₀ :: suite) pos'] [] [] pos) (tS (gx X none hid) W (sTry mb hit i ms)) := by
  refine PS.imp (ps_try_as (tb := fun W' => tS (gx X none hid) W' mb) (ts := fun a cls d De σ H => ∃ q : Str × List (Str × D) × Nat, tS (gx X (some ⟨q.2.2, a, cls, d, q.1, q.2.1⟩) hid) WF (ms q.1 q.2.1 q.2.2) De σ H) hs hf hN hi hln hc tk hb
    (fun a oe cls d pn hz hf => pss_ex fun q => hsu a oe cls d pn q.1 q.2.1 q.2.2 hz hf)) fun De σ H h => ?_
  obtain ⟨c, S, τ, r, s, o⟩ := h
  refine ⟨c, S, τ, r, s, ?_⟩
  unfold sTry at o
  cases e : mb τ S with
  | ok fl S' =>
    rw [e] at o
    cases fl with
    | nx τ => exact o
    | bk τ => exact o
    | ct τ => exact o
    | rt d => exact o
  | bad => rw [e] at o; exact o
  | err C fs τ' S' =>
    rw [e] at o
    dsimp only at o
    intro u od σ' H' c' f sl x
    obtain ⟨Ca, hC, hu, _⟩ := id x
    cases hh : hit C with
    | none => rw [hh] at o; exact o.elim
    | some b =>
      rw [hh] at o
      refine ⟨b, by rw [hu]; exact hhit C Ca b hh hC, fun eb => ?_, fun eb => ?_⟩
      · subst eb
        dsimp only at o
        intro a0 na
        obtain ⟨r2, f2, ef⟩ := Rep.hold (a := a0) rfl f.rep x
        refine ⟨(C, fs, S'.length), c' ++ [a0], S' ++ [.dead], τ'.set i (some (.cel S'.length)), r2, ?_, ?_⟩
        · rw [ef]
          have hv : Val (gx X none hid) (frz (gx X none hid) c' S' H') (c' ++ [a0]) (.ref a0) (.cel S'.length) := .cel (by rw [← f.rep.len]; simp)
          exact Sl.same (smc (c1 := none)) ((sl.mono (Evl.Ex.refl _) (Pre.snoc c' a0)).set hv i)
        · have back : ∀ {c2 : List Addr} {S2 : Store} {H2 : Hp}, Fut (gx X (some ⟨S'.length, a0, u, od, C, fs⟩) hid) (c' ++ [a0]) (S' ++ [.dead]) H' c2 S2 H2 → Fut (gx X none hid) c S H c2 S2 H2 := fun f3 => (f.trans f2).trans (f3.unhold rfl rfl)
          cases er : ms C fs S'.length (τ'.set i (some (.cel S'.length))) (S' ++ [.dead]) with
          | ok fl S2 =>
            rw [er] at o
            cases fl with
            | nx τ2 => exact fun σ2 H2 c2 f3 s3 => o _ H2 c2 (back f3) (Sl.same (smc (c2 := none)) (s3.forget i none))
            | bk τ2 => exact fun σ2 H2 c2 f3 s3 => o _ H2 c2 (back f3) (Sl.same (smc (c2 := none)) (s3.forget i none))
            | ct τ2 => exact fun σ2 H2 c2 f3 s3 => o _ H2 c2 (back f3) (Sl.same (smc (c2 := none)) (s3.forget i none))
            | rt d => exact fun v H2 c2 f3 hv => o v H2 c2 (back f3) (Val.same (smc (c2 := none)) hv)
          | err C2 fs2 τ2 S2 => rw [er] at o; exact o.elim
          | bad => rw [er] at o; exact o.elim
      · subst eb
        exact o u od σ' H' c' f sl x
def exfD (nm C : Str) (fs : List (Str × D)) (k : Nat) (fl : Str) (x : D) : M D := fun S => match x, fs with
  | .cel j, [(f, d)] => if j = k ∧ f = fl ∧ C = nm then .ok d S else .bad
  | _, _ => .bad
def mExf (nm C : Str) (fs : List (Str × D)) (k : Nat) (fl : Str) (m : EM) : EM := fun τ => m τ >>= exfD nm C fs k fl
theorem d_exf {nm qn fl C : Str} {fs : List (Str × D)} {k : Nat} {Ca fI a : Addr} {oe : Obj} {cls : Value} {d : Option Addr} {pn : List (Addr × Obj)} (T : PySem.ErrX.ErrTxt X.K X.mg nm qn fl Ca fI) (hz : Zc cls d oe) (hf : ∃ vs, oe.data = .fields vs)
    (he : PE (X.suite a ((a, oe) :: pn)) e (tE (gx X (some ⟨k, a, cls, d, C, fs⟩) hid) W m)) (hb : attributeBase e fl X.env (eval e X.env) = eval e X.env := by rfl) :
    PE (X.suite a ((a, oe) :: pn)) (.Attribute e fl pos) (tE (gx X (some ⟨k, a, cls, d, C, fs⟩) hid) W (mExf nm C fs k fl m)) :=
  PE.imp (pe_xf (C := Ca) ⟨T.ga, T.gg, T.exC, T.hdC⟩ T.noN hz hf he hb) fun σ H Q h => tE_then h fun c S H1 v x r1 v1 o1 => by
    unfold exfD at o1
    split at o1
    · rename_i j f dv
      split at o1
      · rename_i hh
        obtain ⟨rfl, rfl, rfl⟩ := hh
        obtain ⟨q1, Cb, q2, q3, q4⟩ := r1.cu _ rfl
        dsimp only at q1 q2 q3 q4
        cases v1 with
        | cel h1 =>
          rw [q1] at h1
          cases h1
          have eC := T.gC.symm.trans q2
          cases eC
          rcases q4 with ⟨z, _⟩ | ⟨dd, ws, z1, z2, z3⟩
          · cases z
          · cases z3 with
            | cons hv ht =>
              cases ht
              exact ⟨rfl, q3, dd, _, _, z1, (frz_of z2).1, by simp [List.lookup], o1 H1 c (Fut.refl r1) _ hv⟩
      · exact o1.elim
    · exact o1.elim
def exiD (nm C : Str) (fs : List (Str × D)) (k : Nat) (b : Bool) (x : D) : M D := fun S => match x, fs with
  | .cel j, [(f, d)] => if j = k ∧ C = nm then .ok (.bl b) S else .bad
  | _, _ => .bad
def mExi (nm C : Str) (fs : List (Str × D)) (k : Nat) (b : Bool) (m : EM) : EM := fun τ => m τ >>= exiD nm C fs k b
theorem d_exi {nm qn fl C y : Str} {fs : List (Str × D)} {k : Nat} {Ca fI a : Addr} {oe : Obj} {cls : Value} {d : Option Addr} {pn : List (Addr × Obj)} {ty : String} {tp : Pos} {bb : Bool} (T : PySem.ErrX.ErrTxt X.K X.mg nm qn fl Ca fI) (hz : Zc cls d oe) (hf : ∃ vs, oe.data = .fields vs)
    (he : PE (X.suite a ((a, oe) :: pn)) e (tE (gx X (some ⟨k, a, cls, d, C, fs⟩) hid) W m)) (hk : PySem.W.kitOne X.K (.ref Ca) (.type ty) = some bb)
    (hgi : Gl X "isinstance") (hmi : X.mg "isinstance" = none) (hgy : Gl X y) (hmy : X.mg y = none) (hvy : bootBuiltins y = some (.type ty)) (hny : y ≠ "__name__" := by decide) (hdy : (y == ("__debug__" : Str)) = false := by decide)
    (hst : starEach (e :: [.Name y tp]) X.env = (false, eval e X.env) :: starEach [.Name y tp] X.env := by rfl) (hpl : (backTo pos (starEach [.Name y tp] X.env)).any (·.1) = false := by rfl) :
    PE (X.suite a ((a, oe) :: pn)) (.Call (.Name "isinstance" p) (e :: [.Name y tp]) [] pos) (tE (gx X (some ⟨k, a, cls, d, C, fs⟩) hid) W (mExi nm C fs k bb m)) := by
  have hcr : CallR (X.suite a ((a, oe) :: pn)) (.builtin "isinstance") (fun xs H Q => ∃ dd, cls = .ref Ca ∧ d = some dd ∧ rIsH X.K Ca a dd xs H Q) := by
    intro pins s σ H xs us Q I r h
    obtain ⟨dd, rfl, rfl, h⟩ := h
    exact call_isH T hz hf pins s σ H xs us Q I r h
  refine PE.imp (pe_callB hcr hgi hmi bt_isinstance (pa_cons he (pa_cons (pe_bltn (v := .ty ty) hgy hmy hvy rfl hny hdy) pa_nil) hst) (by decide) (by decide) hst hpl) fun σ H Q h => ?_
  refine tE_then h fun c S H1 v x r1 v1 o1 => ?_
  unfold exiD at o1
  split at o1
  · rename_i j f dv
    split at o1
    · rename_i hh
      obtain ⟨rfl, rfl⟩ := hh
      obtain ⟨q1, Cb, q2, q3, q4⟩ := r1.cu _ rfl
      dsimp only at q1 q2 q3 q4
      cases v1 with
      | cel h1 =>
        rw [q1] at h1
        cases h1
        rcases q4 with ⟨z, _⟩ | ⟨dd', ws, z1, z2, z3⟩
        · cases z
        · have eC := T.gC.symm.trans q2
          cases eC
          exact ⟨dd', q3, z1, .ty ty, .type ty, bb, ws, rfl, fun u hu => hu, hk, (frz_of z2).1, o1 H1 c (Fut.refl r1) _ (.bl bb)⟩
    · exact o1.elim
  · exact o1.elim
end
end ND
set_option maxHeartbeats 900000
namespace RevT
open PySem PyProof.Rows HT
section
variable {prog : Program} {w : World} {A : Around} {E : Value → Shared → Prop} {sh : Shared} {t sl : Addr} {items : Array Value} {vl vu vk : Value} {lo hi : Option Int} {c : Int}
theorem places (n : Nat) : Builtin.Slice.slicePlaces ((n : Int) - 1) (-1) (-1) = n := by
  unfold Builtin.Slice.slicePlaces
  rw [if_neg (by decide)]
  split
  · rw [Int.neg_neg, Int.ediv_one]; omega
  · omega
theorem picks (xs : Array Value) : (List.range xs.size).filterMap (fun m : Nat => xs[((xs.size : Int) - 1 + (m : Int) * -1).toNat]?) = xs.toList.reverse := by
  have step : ∀ l : List Nat, (∀ m ∈ l, m < xs.size) → l.filterMap (fun m : Nat => xs[((xs.size : Int) - 1 + (m : Int) * -1).toNat]?) = (l.map fun m => xs.size - 1 - m).filterMap (xs[·]?) := by
    intro l
    induction l with
    | nil => intro _; rfl
    | cons m l ih =>
      intro lt
      have one : ((xs.size : Int) - 1 + (m : Int) * -1).toNat = xs.size - 1 - m := by have := lt m List.mem_cons_self; omega
      simp only [List.map_cons, List.filterMap_cons, one, ih fun k hk => lt k (List.mem_cons_of_mem _ hk)]
  rw [step _ fun m hm => List.mem_range.mp hm, PySem.W.krv_range, List.filterMap_reverse, PySem.W.krv_all]
theorem applied {n : Nat} {Q : Int × Int × Nat → Shared → Prop} (is : sh.heap.IsSliceOf sl vl vu vk) (pl : IsPart vl lo) (pu : IsPart vu hi) (pk : IsPart vk (some c)) (nz : c ≠ 0)
    (want : Q ((Builtin.Slice.sliceAdjust lo hi c n).1, c, Builtin.Slice.slicePlaces (Builtin.Slice.sliceAdjust lo hi c n).1 (Builtin.Slice.sliceAdjust lo hi c n).2 c) sh) :
    wpAny (model prog w) A (Builtin.Slice.sliceApplied (.ref sl) (pure (n : Int))) Q E sh := by
  obtain ⟨o, there, _, three⟩ := is
  refine wpAny_bind (wpAny_bind (wpAny_field there three rfl (wpAny_bind (wpAny_field there three rfl (wpAny_bind (wpAny_field there three rfl (wpAny_pure (wpAny_bind (slicePart_ pk ?_)))))))))
  refine wpAny_ite (if_neg (fun z => nz (eq_of_beq z)) ▸ ?_)
  exact wpAny_bind (slicePart_ pl (wpAny_bind (slicePart_ pu (wpAny_bind (wpAny_pure (wpAny_pure want))))))
theorem stepped {Q : Value → Shared → Prop} (is : IsTup sh.heap t items) (cut : sh.heap.IsSliceOf sl vl vu vk) (pl : IsPart vl lo) (pu : IsPart vu hi) (pk : IsPart vk (some c)) (nz : c ≠ 0) (no : c ≠ 1) {got : List Value}
    (e : (List.range (Builtin.Slice.slicePlaces (Builtin.Slice.sliceAdjust lo hi c items.size).1 (Builtin.Slice.sliceAdjust lo hi c items.size).2 c)).filterMap (fun m : Nat => items[((Builtin.Slice.sliceAdjust lo hi c items.size).1 + (m : Int) * c).toNat]?) = got) (few : got.length ≤ sizeLine)
    (want : Q (.ref sh.heap.objs.size) { sh with heap := sh.heap.push { cls := .type "tuple", data := .seq got.toArray } }) : wpAny (model prog w) A (getItem (.ref t) (.ref sl)) Q E sh := by
  have kind : sh.TypeIs (.ref sl) "slice" := let ⟨o, there, isS, _⟩ := cut; ⟨o, there, isS⟩
  have fits : sizeOk (.seq got.toArray) := show got.toArray.size ≤ sizeLine by rw [List.size_toArray]; exact few
  have other : ¬ (((Builtin.Slice.sliceAdjust lo hi c items.size).1 == 0 && c == 1 && Builtin.Slice.slicePlaces (Builtin.Slice.sliceAdjust lo hi c items.size).1 (Builtin.Slice.sliceAdjust lo hi c items.size).2 c == items.size) = true) := fun z => by
    rw [Bool.and_eq_true, Bool.and_eq_true] at z
    exact no (eq_of_beq z.1.2)
  refine wpAny_holding (wpAny_bind (wpAny_sequenceKey is.typeIs (by decide) (wpAny_bind (wpAny_callSpecial?_slot (name := Str.ofString "__getitem__") is.typeIs slot_tuple_getitem (wpAny_call_entry slot_tuple_getitem is.typeIs entry_tuple_getitem ?_ (args_tuple_getitem _ _))))))
  show wpAny _ _ (Builtin.Tuple.tupleItemsOf (.ref t) >>= _) _ _ sh; refine wpAny_bind (tupleItemsOf_ is (wpAny_bind (wpAny_typeOf kind ?_)))
  rw [if_pos (show (Value.type "slice" == Value.type "slice") = true by decide)]; refine wpAny_bind (applied cut pl pu pk nz ?_)
  refine wpAny_ite (if_neg other ▸ ?_)
  subst e
  exact wpAny_bind (m := Builtin.Tuple.tupleExact _) (wpAny_newObj_type (wpAny_pure ⟨_, rfl, wpAny_pure want⟩) fits)
theorem turned {Q : Value → Shared → Prop} (is : IsTup sh.heap t items) (cut : sh.heap.IsSliceOf sl vl vu vk) (pl : IsPart vl none) (pu : IsPart vu none) (pk : IsPart vk (some (-1))) (few : items.size ≤ sizeLine)
    (want : Q (.ref sh.heap.objs.size) { sh with heap := sh.heap.push { cls := .type "tuple", data := .seq items.toList.reverse.toArray } }) : wpAny (model prog w) A (getItem (.ref t) (.ref sl)) Q E sh := by
  refine stepped is cut pl pu pk (by decide) (by decide) (got := items.toList.reverse) ?_ (by rw [List.length_reverse, Array.length_toList]; exact few) want
  have e : Builtin.Slice.sliceAdjust none none (-1) items.size = ((items.size : Int) - 1, -1) := rfl
  rw [e, places]
  exact picks items
end
end RevT
namespace L2
open PySem PyProof.Rows
section
variable {X : Cx}
theorem Inv.tupleP {ps : List (Addr × Obj)} {st : St} {G : Hp} {sh : Shared} {a : Addr} {xs : List V} (inv : Inv X ps st G sh) : SqP X.K G a xs → ∃ (its : List Value) (o : Obj) (n : Nat), Vals xs its ∧ sh.heap.get? a = some o ∧ o.cls = .type "tuple" ∧ o.dict = none ∧ o.data = .seq its.toArray n ∧ xs.length ≤ sizeLine
  | .inl ⟨o, ⟨isT, bare⟩, e⟩ => by
    obtain ⟨look, fits, its, rel, o2, look2, _, n, items⟩ := (show ObjOk X.prog X.w G sh.heap a (.frz o (.tup xs)) from inv.hok a _ e)
    obtain rfl : o = o2 := Option.some.inj (look.symm.trans look2)
    exact ⟨its, o, n, rel, look, isT, bare, items, fits⟩
  | .inr ⟨o, its, n, look, isT, bare, items, few, rel⟩ => ⟨its.toList, o, n, rel, inv.kIn a o look, isT, bare, by rw [Array.toArray_toList]; exact items, by rw [rel.length, Array.length_toList]; exact few⟩
def tRevT (K : PySem.W.Frag) (part : TE) : TE := fun st G Q => part st G fun x G1 => ∃ a xs, x = .ref a ∧ SqT K G1 a xs ∧ NewT G1 Q xs.reverse
theorem pe_revT {e : Expr} {part : TE} {k : Nat} {p1 p2 p3 pos : Pos} (he : PE X e part) : PE X (.Subscript e (.Slice none none (some (.UnaryOp .USub (.Constant (.int 1) k p1) p2)) p3) pos) (tRevT X.K part) where
  run := fun ps sh st G Q inv want => by
    have back : PO X (some (.UnaryOp .USub (.Constant (.int 1) k p1) p2)) (tPart (tUn (rU fun i => .int (-i)) (tC (.int 1)))) := po_some (pe_un un_neg pe_int)
    have keep : ∀ {s' : Shared} {G' : Hp} {vl vu vk : Value}, Inv X ps st G' s' → Inv X ps st G' { s' with heap := s'.heap.push { cls := .type "slice", data := .fields #[vl, vu, vk] } } := fun {s' _ _ _ _} i => i.kept (t' := s'.toks) fun _ _ q => Heap.get?_push_of_some _ q
    refine Subscript_ (thn (he.run ps sh st G _ inv want) fun v s1 ⟨x, G1, inv1, isX, a, xs, ex, sq, new⟩ => ?_)
    subst ex
    obtain rfl : v = .ref a := isX
    refine wpAny_Slice (thn (po_none.run ps s1 st G1 (fun o G2 => o = none ∧ G2 = G1) inv1 ⟨rfl, rfl⟩) fun vl s2 ⟨_, _, inv2, pl, e1, e2⟩ => thn (po_none.run ps s2 st G1 (fun o G2 => o = none ∧ G2 = G1) (e2 ▸ inv2) ⟨rfl, rfl⟩) fun vu s3 ⟨_, _, inv3, pu, e3, e4⟩ =>
      thn (back.run ps s3 st G1 (fun o G2 => o = some (-1) ∧ G2 = G1) (e4 ▸ inv3) ⟨1, rfl, -1, rfl, rfl, rfl⟩) fun vk s4 ⟨_, _, inv4, pk, e5, e6⟩ => ?_)
    subst e1 e3 e5 e6
    have inv5 := keep (vl := vl) (vu := vu) (vk := vk) inv4
    obtain ⟨its, rel, tup, fits⟩ := inv5.tuple sq
    refine tail_any (ops := [.ref a, .ref s4.heap.objs.size]) tup.typeIs PyProof.Rows.slot_tuple_getitem.lookup (RevT.turned tup (Heap.IsSliceOf.new _ vl vu vk) pl pu pk (by rw [List.size_toArray, ← rel.length]; exact fits) ?_) (by with_unfolding_all rfl)
    have out := inv5.newT (Q := Q) (its := its.reverse) (by rw [List.length_reverse]; exact fits) rel.reverse new
    exact out
def rDictT (K : PySem.W.Frag) : List V → Hp → VK → Prop := fun xs G Q => ∃ (a : Addr) (ps : List Addr) (kvs : List (Key × V)), xs = [.ref a] ∧ SqP K G a (ps.map V.ref) ∧ Paired (fun p kv => SqT K G p [kV kv.1, kv.2]) ps kvs ∧
  ∀ p, G p = none → Q (.ref p) (upd G p (.dK (mergeK [] kvs)))
theorem keyed {h : Heap} (ps : List Addr) (prs : List (Key × Value)) (at_ : ∀ (j : Nat) (q : Key × Value), prs[j]? = some q → ∃ (b : Addr) (u : Value), ps[j]? = some b ∧ PyProof.Rows.IsTup h b #[u, q.2] ∧ keyIs q.1 u = true) :
    ∃ pp : List (Value × Value), pp.length = prs.length ∧ ∀ j k v, pp[j]? = some (k, v) → ∃ key, prs[j]? = some (key, v) ∧ ps[j]? = some (ps.getD j 0) ∧ PyProof.Rows.IsTup h (ps.getD j 0) #[k, v] ∧ keyIs key k = true := by
  induction prs generalizing ps with
  | nil => exact ⟨[], rfl, fun j k v e => by simp at e⟩
  | cons q prs ih =>
    obtain ⟨b, u, e1, e2, e3⟩ := at_ 0 q rfl
    match ps, e1 with
    | p :: ps, e1 =>
      obtain rfl : p = b := Option.some.inj e1
      obtain ⟨pp, l, tl⟩ := ih ps fun j r e => at_ (j + 1) r e
      refine ⟨(u, q.2) :: pp, by simp [l], fun j k v e => ?_⟩
      match j, e with
      | 0, e => cases e; exact ⟨q.1, rfl, rfl, e2, e3⟩
      | j + 1, e => exact tl j k v e
theorem call_dictT (calm : X.calm = true) : CallR X (.type "dict") (rDictT X.K) := fun pins sh st G xs us Q inv rel ⟨a, ps, kvs, ex, sq, prd, want⟩ => by
  subst ex
  obtain ⟨u, rfl, isA⟩ := vals1 rel
  obtain rfl : u = .ref a := isA
  obtain ⟨its, ob, n, relI, look, isT, bare, items, fits⟩ := inv.tupleP sq
  obtain rfl := refs_at relI
  rw [List.length_map] at fits
  obtain ⟨prs, kv, len, each⟩ := pairs_of inv prd
  obtain ⟨pp, lenP, eachP⟩ := keyed ps prs each
  have arg := PairArg.tuple (prog := X.prog) (w := X.w) a (ps.map Value.ref).toArray (fun j => ps.getD j 0) pp
  refine PySem.call_dict_pairs (knd := mixKind X.prog X.w) (kvs := prs) arg (inv.ok.hd calm) ⟨⟨ob, n, look, isT, bare, items⟩, ?_, fun j k v e => ?_⟩ ⟨lenP.symm, fun j k v e => ?_⟩ (by omega) fun h' tk dict kept => ?_
  · rw [List.size_toArray, List.length_map]; omega
  · obtain ⟨_, _, e1, e2, _⟩ := eachP j k v e
    exact ⟨by rw [List.getElem?_toArray, List.getElem?_map, e1]; rfl, .inl e2⟩
  · obtain ⟨key, e1, _, _, e2⟩ := eachP j k v e
    exact ⟨key, e1, e2⟩
  · have notMods : (sh.heap.objs.size == sysModules) = false := beq_eq_false_iff_ne.mpr (Nat.ne_of_gt inv.big)
    have small : (mergeK [] kvs).length ≤ sizeLine := by
      have a1 := length_mergeK kvs []
      have a2 : kvs.length = prs.length := kv.length
      simp only [List.length_nil, Nat.zero_add] at a1
      omega
    have there : ObjOk X.prog X.w (upd G sh.heap.objs.size (.dK (mergeK [] kvs))) h' sh.heap.objs.size (.dK (mergeK [] kvs)) := ⟨small, notMods, merged [] prs, KV.merge kv .nil, dict⟩
    exact ⟨.ref _, _, inv.laid (t' := tk) (fun b o e => kept b o (List.not_mem_nil) e) (Nat.le_refl _) there, rfl, want _ (inv.hok.fresh (Nat.le_refl _))⟩
end
end L2
set_option maxHeartbeats 900000
namespace L2
open PySem
section
variable {X : Cx} {CX : CXT} {k : Nat} {f : Addr} {fd : FuncData} {params : List Str} {sp : Sp} {E : St → XK} {m : Str} {pos apos : Pos} {o : Expr} {obj : TE} {args : TA}
def tMethX (Ok : Addr → Prop) (m : Str) (sp : Sp) (E : St → XK) (obj : TE) (args : TA) : TE := fun st G Q => obj st G fun x G1 => ∃ a C dx fs, x = .ref a ∧ G1 a = some (.ins C dx fs) ∧ Ok C ∧ fs.lookup m = none ∧
  args st G1 fun vs G2 => sp (x :: vs) G2 Q (E st)
abbrev MethTree (X : Cx) (o : Expr) (m : Str) (apos : Pos) (es : List Expr) (pos : Pos) (pl : Sem Bool) : Prop := eval (.Call (.Attribute o m apos) es [] pos) X.env =
  (eval o X.env >>= fun ov => standAt apos.atName >>= fun _ => holding [ov] (getMethod ov m pl) >>= fun fm => callWith pos fm.1 fm.2 (backTo pos (starEach es X.env)) (backToKw pos (keywordEach [] X.env)))
theorem pe_methX {Ok : Addr → Prop} {pl : Sem Bool} {e : Expr} {es : List Expr} (ho : PE X o obj) (known : ∀ C, Ok C → Cls X.K C ∧ Meth X.K C m f) (F : FnG X.prog X.w X.K X.mg X.base CX k f fd params sp) (room : RoomG k X.A) (bd : Binds X.K fd params [])
    (pass : ∀ st, PassesAt CX X st (E st)) (items : PA X (e :: es) args) (plain : starEach (e :: es) X.env = (false, eval e X.env) :: starEach es X.env) (nostar : (backTo pos (starEach es X.env)).any (·.1) = false) (tree : MethTree X o m apos (e :: es) pos pl) :
    PE X (.Call (.Attribute o m apos) (e :: es) [] pos) (tMethX Ok m sp E obj args) where
  run := fun ps sh st G Q inv want => PySem.W.methodCall_KW (pl := pl) (thn (ho.run ps sh st G _ inv want) fun u s1 ⟨x, G1, inv1, isX, a, C, dx, fs, ex, at_, ok, free, rest⟩ => by
    subst ex
    obtain rfl : u = .ref a := isX
    obtain ⟨cls, meth⟩ := known C ok
    exact getmeth_ok inv1 at_ cls meth free (PySem.W.callWith_K (first := [.ref a]) (h₀ := X.base) inv.ok.mod.kin meth.kp (thn (items.run pos ps s1 st G1 _ inv1 rest) fun us s2 ⟨vs, G2, inv2, rel, q⟩ =>
      ⟨inv2.kIn, run_fnG (us := .ref a :: us) (xs := .ref a :: vs) F room bd (pass st) inv2 (.cons (show RelV (V.ref a) (Value.ref a) from rfl) rel) q⟩) plain nostar)) tree
theorem pe_methX0 {Ok : Addr → Prop} {pl : Sem Bool} (ho : PE X o obj) (known : ∀ C, Ok C → Cls X.K C ∧ Meth X.K C m f) (F : FnG X.prog X.w X.K X.mg X.base CX k f fd params sp) (room : RoomG k X.A) (bd : Binds X.K fd params [])
    (pass : ∀ st, PassesAt CX X st (E st)) (tree : MethTree X o m apos [] pos pl) : PE X (.Call (.Attribute o m apos) [] [] pos) (tMethX Ok m sp E obj tNil) where
  run := fun ps sh st G Q inv want => PySem.W.methodCall_KW (pl := pl) (thn (ho.run ps sh st G _ inv want) fun u s1 ⟨x, G1, inv1, isX, a, C, dx, fs, ex, at_, ok, free, rest⟩ => by
    subst ex
    obtain rfl : u = .ref a := isX
    obtain ⟨cls, meth⟩ := known C ok
    exact getmeth_ok inv1 at_ cls meth free (PySem.W.callWith_K0 (first := [.ref a]) inv1.kIn meth.kp (run_fnG (us := [.ref a]) (xs := [.ref a]) F room bd (pass st) inv1 (.cons (show RelV (V.ref a) (Value.ref a) from rfl) .nil) rest))) tree
end
end L2
namespace ND
open PySem L2
section
variable {X : Cx} {g : G} {W : WX} {a b e o : Expr} {es : List Expr} {m ma mb mc mo mv : EM} {ms : AM} {pos p : Pos} {cur : Cur} {hid : List Addr} {st : Stmt} {rest : List Stmt} {s1 s2 : SM} {tm : TM}
def revTD (x : D) : M D := fun S => match dr S x with
  | .tup xs => .ok (.tup xs.reverse) S
  | _ => .bad
theorem d_revT {k : Nat} {p1 p2 p3 : Pos} (he : PE X e (tE (gx X cur hid) W m)) : PE X (.Subscript e (.Slice none none (some (.UnaryOp .USub (.Constant (.int 1) k p1) p2)) p3) pos) (tE (gx X cur hid) W (mUn revTD m)) :=
  PE.imp (pe_revT he) fun σ H Q h => tE_then h fun c S H1 v x r1 v1 o1 => by
    unfold revTD at o1
    have sv := dr_seen r1 v1
    split at o1
    · rename_i xs h1
      rw [h1] at sv
      obtain ⟨a, vs, e1, k1, l1⟩ := sv.tup
      exact ⟨a, vs, e1, k1, new_tup r1 o1 l1.reverse⟩
    · exact o1.elim
def putD (kvs : List (Key × D)) (k : Key) (d : D) : List (Key × D) :=
  if (kvs.any fun kv => decide (kv.1 = k)) = true then kvs.map (fun kv => if kv.1 = k then (kv.1, d) else kv) else kvs ++ [(k, d)]
def mergeD (kvs more : List (Key × D)) : List (Key × D) := more.foldl (fun acc kv => putD acc kv.1 kv.2) kvs
def pairsD : List D → Option (List (Key × D))
  | [] => some []
  | .tup [k, v] :: r => (match keyOf k, pairsD r with
    | some k, some r => some ((k, v) :: r)
    | _, _ => none)
  | _ => none
theorem VKv.append {F : Hp} {c : List Addr} : ∀ {ws ws' : List (Key × V)} {kvs kvs' : List (Key × D)}, VKv g F c ws kvs → VKv g F c ws' kvs' → VKv g F c (ws ++ ws') (kvs ++ kvs')
  | _, _, _, _, .nil, h => h
  | _, _, _, _, .cons v t, h => .cons v (VKv.append t h)
theorem VKv.any {F : Hp} {c : List Addr} {k : Key} : ∀ {ws : List (Key × V)} {kvs : List (Key × D)}, VKv g F c ws kvs → (ws.any fun kv => decide (kv.1 = k)) = (kvs.any fun kv => decide (kv.1 = k))
  | _, _, .nil => rfl
  | _, _, .cons v t => by simp only [List.any_cons, VKv.any t]
theorem VKv.over {F : Hp} {c : List Addr} {k : Key} {v : V} {d : D} (hv : Val g F c v d) : ∀ {ws : List (Key × V)} {kvs : List (Key × D)}, VKv g F c ws kvs → VKv g F c (ws.map fun kv => if kv.1 = k then (kv.1, v) else kv) (kvs.map fun kv => if kv.1 = k then (kv.1, d) else kv)
  | _, _, .nil => .nil
  | _, _, .cons (k := k') h t => by
    simp only [List.map_cons]
    by_cases e : k' = k
    · rw [if_pos e, if_pos e]; exact .cons hv (VKv.over hv t)
    · rw [if_neg e, if_neg e]; exact .cons h (VKv.over hv t)
theorem VKv.put {F : Hp} {c : List Addr} {k : Key} {v : V} {d : D} {ws : List (Key × V)} {kvs : List (Key × D)} (h : VKv g F c ws kvs) (hv : Val g F c v d) : VKv g F c (putK ws k v) (putD kvs k d) := by
  unfold putK putD
  rw [h.any]
  split
  · exact h.over hv
  · exact h.append (.cons hv .nil)
theorem VKv.merge {F : Hp} {c : List Addr} : ∀ {more : List (Key × V)} {moreD : List (Key × D)}, VKv g F c more moreD → ∀ {ws : List (Key × V)} {kvs : List (Key × D)}, VKv g F c ws kvs → VKv g F c (mergeK ws more) (mergeD kvs moreD)
  | _, _, .nil, _, _, h => h
  | _, _, .cons v t, _, _, h => VKv.merge t (h.put v)
theorem paired_of {F : Hp} {c : List Addr} : ∀ {xs : List D} {vs : List V} {kvs : List (Key × D)}, Vls g F c vs xs → pairsD xs = some kvs → ∃ ps ws, vs = ps.map V.ref ∧ Paired (fun p kv => SqT g.K F p [kV kv.1, kv.2]) ps ws ∧ VKv g F c ws kvs
  | [], _, _, .nil, e => by cases e; exact ⟨[], [], rfl, .nil, .nil⟩
  | x :: r, _, _, .cons hv ht, e => by
    unfold pairsD at e
    split at e
    · rename_i h; cases h
    · rename_i k v r' h
      cases h
      split at e
      · rename_i k' r2 hk hr
        cases e
        obtain ⟨ps, ws, rfl, h1, h2⟩ := paired_of ht hr
        cases hv with
        | tup s l =>
          obtain ⟨vk, vv, rfl, hvk, hvv⟩ := vls2 l
          have ek := keyOf_val hvk hk
          subst ek
          exact ⟨_ :: ps, (k', vv) :: ws, rfl, .cons s.sq h1, .cons hvv h2⟩
      · cases e
    · cases e
def dictTD (ds : List D) : M D := fun S => match ds with
  | [.tup xs] => (match pairsD xs with
    | some kvs => .ok (.dct (mergeD [] kvs)) S
    | none => .bad)
  | _ => .bad
theorem Paired.ex {K : PySem.W.Frag} {F F' : Hp} (h : Ex F F') : ∀ {ps : List Addr} {ws : List (Key × V)}, Paired (fun p kv => SqT K F p [kV kv.1, kv.2]) ps ws → Paired (fun p kv => SqT K F' p [kV kv.1, kv.2]) ps ws
  | _, _, .nil => .nil
  | _, _, .cons s t => .cons (Evl.ex_t h s) (Paired.ex h t)
theorem cd_dictT : CbD g (rDictT g.K) dictTD := by
  intro c S H vs ds Q E r hv o
  unfold dictTD at o
  split at o
  · rename_i xs
    obtain ⟨v, rfl, hv1⟩ := vls1 hv
    split at o
    · rename_i kvs hk
      cases hv1 with
      | tup s l =>
        obtain ⟨ps, ws, rfl, h1, h2⟩ := paired_of l hk
        refine ⟨_, ps, ws, rfl, sqP_mono frz_ex s, Paired.ex frz_ex h1, fun p hp => ?_⟩
        have f := Fut.new (o := .dK (mergeK [] ws)) r hp
        exact o _ c f _ (.dct (Fut.frz_new r hp) ((VKv.merge h2 .nil).mono f.ex (Pre.refl c)))
    · exact o.elim
  · exact o.elim
def fldD (Cs : List Str) (f : Str) (x : D) : M D := fun S => match dr S x with
  | .obj C fs => if C ∈ Cs then (match fs.lookup f with
    | some d => .ok d S
    | none => .bad) else .bad
  | _ => .bad
def FldOk (X : Cx) (Cs : List Str) (f : Str) : Prop := ∀ C ∈ Cs, ∀ Ca, X.mg C = some (.ref Ca) → Cls X.K Ca ∧ NoAttr X.K Ca f
theorem d_fld {Cs : List Str} {f : Str} (hC : FldOk X Cs f) (he : PE X e (tE (gx X cur hid) W m)) (hb : attributeBase e f X.env (eval e X.env) = eval e X.env := by rfl) : PE X (.Attribute e f pos) (tE (gx X cur hid) W (mUn (fldD Cs f) m)) :=
  PE.imp (pe_fld he hb) fun σ H Q h => tE_then h fun c S H1 v x r1 v1 o1 => by
    unfold fldD at o1
    have sv := dr_seen r1 v1
    split at o1
    · rename_i C fs h1
      rw [h1] at sv
      obtain ⟨a, Ca, dx, ws, e1, e2, e3, e4⟩ := sv.obj'
      split at o1
      · rename_i hm
        obtain ⟨q1, q2⟩ := hC C hm Ca e2
        split at o1
        · rename_i d hd
          obtain ⟨u, h2, h3⟩ := e4.lookup hd
          exact ⟨a, Ca, dx, ws, u, e1, e3, q1, q2, h2, at_now r1 o1 h3⟩
        · exact o1.elim
      · exact o1.elim
    · exact o1.elim
def putFD (f : Str) (v : D) : List (Str × D) → List (Str × D)
  | [] => [(f, v)]
  | (g, x) :: r => if g = f then (g, v) :: r else (g, x) :: putFD f v r
theorem VFs.put {F : Hp} {c : List Addr} {f : Str} {v : V} {d : D} (hv : Val g F c v d) : ∀ {ws : List (Str × V)} {fs : List (Str × D)}, VFs g F c ws fs → VFs g F c (putF f v ws) (putFD f d fs)
  | _, _, .nil => .cons hv .nil
  | _, _, .cons (k := k) h t => by
    unfold putF putFD
    split
    · exact .cons hv t
    · exact .cons h (VFs.put hv t)
def setFD (Cs : List Str) (f : Str) (x y : D) : M Unit := fun S => match x with
  | .cel n => (match S[n]? with
    | some (.ins C fs) => if C ∈ Cs ∧ fs.length < 1000 then .ok () (S.set n (.ins C (putFD f y fs))) else .bad
    | _ => .bad)
  | _ => .bad
def sFldD (Cs : List Str) (f : Str) (mo mv : EM) : SM := fun τ => sOf (mv τ >>= fun y => mo τ >>= fun x => setFD Cs f x y) τ fun _ S => .ok (.nx τ) S
theorem ds_fld {Cs : List Str} {f : Str} {p' : Pos} (hC : FldOk X Cs f) (ho : PE X o (tE (gx X cur hid) W mo)) (hv : PE X e (tE (gx X cur hid) W mv)) (hs : swapsWith e (some (.Attribute o f p')) pos.line X.env = pure false := by rfl) :
    PS X (.Assign [.Attribute o f p'] e pos) (tS (gx X cur hid) W (sFldD Cs f mo mv)) := PS.imp (ps_fld ho hv hs) fun De σ H h => by
  obtain ⟨c, S, τ, r, s, q⟩ := h
  have q1 : Out (gx X cur hid) c S H (fun (_ : Unit) c1 S1 H1 => OutS (gx X cur hid) W c1 S1 H1 De (.ok (.nx τ) S1)) (WS W σ) ((mv τ >>= fun y => mo τ >>= fun x => setFD Cs f x y) S) := OutS.of s q fun _ _ _ _ _ o => o
  refine ⟨c, S, τ, r, s, (Out.bind q1).imp fun y c1 S1 H1 f1 o1 v hv => ⟨c1, S1, τ, f1.rep, s.mono f1.ex f1.pre, (Out.bind o1).imp fun x c2 S2 H2 f2 o2 w hw => ?_⟩⟩
  unfold setFD at o2
  split at o2
  · rename_i n
    obtain ⟨ad, rfl, ha⟩ := cel_at hw
    split at o2
    · rename_i C fs hx
      split at o2
      · rename_i hm
        obtain ⟨Ca, dx, ws, mC, hu, lu⟩ := f2.rep.ok n ad _ ha hx
        obtain ⟨q1, q2⟩ := hC C hm.1 Ca mC
        refine ⟨ad, Ca, dx, ws, rfl, hu, q1, q2, by rw [lu.length]; exact hm.2, ?_⟩
        have f3 := Fut.put (o := .ins Ca dx (putF f v ws)) (y := .ins C (putFD f y fs)) f2.rep ha hx rfl rfl ⟨Ca, dx, _, mC, upd_same, VFs.put (f2.val hv) lu⟩
        exact o2 _ c2 f3 _ _ _ (Fut.refl f3.rep) ((s.mono f1.ex f1.pre).mono (f2.trans f3).ex (f2.trans f3).pre)
      · exact o2.elim
    · exact o2.elim
  · exact o2.elim
def makeD (C : Str) (n : Nat) (f : List D → M D) (ds : List D) : M D := fun S => if ds.length + 1 = n then (match f (.cel S.length :: ds) (S ++ [.ins C []]) with
  | .ok .non S' => .ok (.cel S.length) S'
  | .err C fs S' => .err C fs S'
  | _ => .bad) else .bad
theorem make_core {c : List Addr} {S : Store} {H : Hp} {C : Str} {Ca : Addr} {n : Nat} {fm : List D → M D} {ds : List D} {vs : List V} {Q : VK} {E : XK} (hm : X.mg C = some (.ref Ca)) (r1 : Rep (gx X cur hid) c S H) (v1 : Vls (gx X cur hid) (frz (gx X cur hid) c S H) c vs ds)
    (o1 : Out (gx X cur hid) c S H (RV (gx X cur hid) Q) E (makeD C n fm ds S)) :
    ∀ x dx, H x = none → H dx = none → dx ≠ x → spD X.K X.mg X.prog X.w n fm (.ref x :: vs) (upd (upd H dx (.own x)) x (.ins Ca dx [])) (fun v H2 => v = .non ∧ Q (.ref x) H2) E := by
  intro x dx hx hd ne
  unfold makeD at o1
  split at o1
  · rename_i hl
    have f1 := Fut.new (o := .own x) r1 hd
    have hx' : upd H dx (.own x) x = none := by rw [upd_ne (Ne.symm ne)]; exact hx
    have f2 := Fut.cell (o := .ins Ca dx []) (x := .ins C []) f1.rep hx' rfl ⟨Ca, dx, [], hm, upd_same, .nil⟩
    have f := f1.trans f2
    have hc : (c ++ [x])[S.length]? = some x := by rw [← r1.len]; simp
    refine ⟨hid, c ++ [x], S ++ [Cell.ins C []], D.cel S.length :: ds, f.rep.off, .cons (.cel hc) ((f.vls v1).same (SameM.off _)), by rw [List.length_cons]; exact hl, ?_⟩
    refine Out.off (g := gx X cur hid) (Q := fun v H2 => v = .non ∧ Q (.ref x) H2) f.rep ?_
    cases q : fm (.cel S.length :: ds) (S ++ [.ins C []]) with
    | ok d S' =>
      rw [q] at o1
      cases d with
      | non =>
        intro H' c' f' v hv
        cases hv
        exact ⟨rfl, o1 H' c' (f.trans f') _ (.cel (f'.pre _ _ hc))⟩
      | _ => exact o1.elim
    | err C2 fs S' => rw [q] at o1; exact fun u od H' c' f' z => o1 u od H' c' (f.trans f') z
    | bad => rw [q] at o1; exact o1
  · exact o1.elim
def mMake (C : Str) (n : Nat) (f : List D → M D) (ms : AM) : EM := fun τ => ms τ >>= makeD C n f
theorem d_make {x : Str} {k n : Nat} {Ca f : Addr} {fd : FuncData} {ps : List Str} {fm : List D → M D} (Mk : L2.Mk X.K Ca f) (F : FnD X.prog X.w X.K X.mg X.base k f fd ps fm) (hr : RoomG (k + 1) X.A) (hg : Gl X x) (hm : X.mg x = some (.ref Ca)) (hb : Binds X.K fd ps [])
    (tk : Takes X W) (ha : PA X (e :: es) (tAr (gx X cur hid) W ms)) (hn : ps.length = n := by rfl) (hdb : (x == ("__debug__" : Str)) = false := by decide) (he : starEach (e :: es) X.env = (false, eval e X.env) :: starEach es X.env := by rfl) (hpl : (backTo pos (starEach es X.env)).any (·.1) = false := by rfl) :
    PE X (.Call (.Name x p) (e :: es) [] pos) (tE (gx X cur hid) W (mMake x n fm ms)) := by
  subst hn
  exact PE.imp (pe_makeX Mk F hr hg hm hb (fun σ => passAt tk σ) ha hdb he hpl) fun σ H Q h =>
    tA_thenS (R := RV (gx X cur hid) Q) (k := fun xs _ => makeD x ps.length fm xs) h fun c S H1 τ vs ds r1 s1 v1 o1 => make_core hm r1 v1 o1
abbrev KwPlain (X : Cx) (pos : Pos) (kws : List Keyword) (ks : List Str) : Prop := let q := backToKw pos (keywordEach kws X.env)
  q.all (·.1.isSome) = true ∧ q.filterMap (·.1) = ks ∧ ((backTo pos (starEach [] X.env)).any (·.1) || q.any (·.1.isNone)) = false
theorem d_makeK {x : Str} {k n : Nat} {Ca f : Addr} {fd : FuncData} {ps ks : List Str} {fm : List D → M D} {kws : List Keyword} (Mk : L2.Mk X.K Ca f) (F : FnD X.prog X.w X.K X.mg X.base k f fd ps fm) (hr : RoomG (k + 1) X.A) (hg : Gl X x) (hm : X.mg x = some (.ref Ca))
    (hb : ∀ (s : Shared) (z : Value) (ws : List Value), X.K.In s.heap → ws.length = ks.length → BindsTo s fd ⟨[z], ks.zip ws⟩ (ps.zip (z :: ws)))
    (tk : Takes X W) (ha : PK X kws (tAr (gx X cur hid) W ms)) (hps : ps.length = ks.length + 1 := by rfl) (hn : ps.length = n := by rfl)
    (hkw : KwPlain X pos kws ks := by exact ⟨rfl, rfl, rfl⟩) (hdb : (x == ("__debug__" : Str)) = false := by decide) :
    PE X (.Call (.Name x p) [] kws pos) (tE (gx X cur hid) W (mMake x n fm ms)) := by
  subst hn
  exact PE.imp (pe_makeX0 Mk F hr hg hm hb hps (fun σ => passAt tk σ) ha hkw.1 hkw.2.1 hdb hkw.2.2) fun σ H Q h =>
    tA_thenS (R := RV (gx X cur hid) Q) (k := fun xs _ => makeD x ps.length fm xs) h fun c S H1 τ vs ds r1 s1 v1 o1 => make_core hm r1 v1 o1
theorem dk_nil : PK X [] (tAr g W mNil) := ⟨fun pos pins s σ H Q I h => by
  obtain ⟨c, S, τ, r, sl, o⟩ := h
  exact pk_nil.run pos pins s σ H Q I (o H c (Fut.refl r) [] .nil)⟩
theorem dk_cons {nm : Option Str} {kpos : Pos} {kws : List Keyword} (ha : PE X e (tE g W m)) (hr : PK X kws (tAr g W ms)) : PK X (⟨nm, e, kpos⟩ :: kws) (tAr g W (mCons m ms)) :=
  ⟨fun pos pins s σ H Q I h => (pk_cons ha hr).run pos pins s σ H Q I (tE_thenS (k := fun x τ => ms τ >>= fun xs => pure (x :: xs)) h fun c S H1 τ v d r1 s1 v1 o1 =>
    ⟨c, S, τ, r1, s1, (Out.bind o1).imp fun ds c2 S2 H2 f2 o2 vs hvs => o2 H2 c2 (Fut.refl f2.rep) (v :: vs) (.cons (f2.val v1) hvs)⟩)⟩
def methD (C m : Str) (n : Nat) (f : List D → M D) (x : D) (ds : List D) : M D := fun S => if ds.length + 1 = n then f (x :: ds) S else .bad
def isObj (C m : Str) (x : D) : M Unit := fun S => match dr S x with
  | .obj C' fs => if C' = C ∧ (fs.lookup m).isNone = true then .ok () S else .bad
  | _ => .bad
def mMethI (C m : Str) (n : Nat) (f : List D → M D) (mo : EM) (ms : AM) : EM := fun τ => mo τ >>= fun x => isObj C m x >>= fun _ => ms τ >>= fun ds => methD C m n f x ds
theorem isObj_of {β : Type} {C m : Str} {x : D} {k : Unit → M β} {c : List Addr} {S : Store} {H : Hp} {R : β → List Addr → Store → Hp → Prop} {E : XK} (h : Out g c S H R E ((isObj C m x >>= k) S)) : ∃ fs, dr S x = .obj C fs ∧ fs.lookup m = none ∧ Out g c S H R E (k () S) := by
  have h2 := h
  rw [bind_def] at h2
  cases q : dr S x with
  | obj C' fs =>
    have e : isObj C m x S = if C' = C ∧ (fs.lookup m).isNone = true then .ok () S else .bad := by unfold isObj; rw [q]
    rw [e] at h2
    by_cases hh : C' = C ∧ (fs.lookup m).isNone = true
    · rw [if_pos hh] at h2
      obtain ⟨rfl, hl⟩ := hh
      refine ⟨fs, rfl, ?_, h2⟩
      cases z : fs.lookup m with
      | none => rfl
      | some z' => rw [z] at hl; cases hl
    · rw [if_neg hh] at h2; exact h2.elim
  | _ =>
    have e : isObj C m x S = .bad := by unfold isObj; rw [q]
    rw [e] at h2; exact h2.elim
theorem meth_core {C m : Str} {Ca : Addr} {n : Nat} {fm : List D → M D} {t : TA} (hm : X.mg C = some (.ref Ca)) {σ : St} {H : Hp} {Q : VK} (ht : ∀ σ H Q, tAr (gx X cur hid) W ms σ H Q → t σ H Q)
    (h : tE (gx X cur hid) W (mMethI C m n fm mo ms) σ H Q) : tMethX (fun D => D = Ca) m (spD X.K X.mg X.prog X.w n fm) (fun σ => WE W σ) (tE (gx X cur hid) W mo) t σ H Q :=
  tE_thenS (R := RV (gx X cur hid) Q) (k := fun x τ => isObj C m x >>= fun _ => ms τ >>= fun ds => methD C m n fm x ds) h fun c S H1 τ v d r1 s1 v1 o1 => by
    obtain ⟨fs, h1, hl, o1⟩ := isObj_of o1
    have sv := dr_seen r1 v1
    rw [h1] at sv
    obtain ⟨a, Cb, dx, ws, e1, e2, e3, e4⟩ := sv.obj'
    have e2' := e2.symm.trans hm
    cases e2'
    subst e1
    refine ⟨a, _, dx, ws, rfl, e3, rfl, e4.lookup_none hl, ?_⟩
    refine ht _ _ _ ⟨c, S, τ, r1, s1, (Out.bind o1).imp fun ds c2 S2 H2 f2 o2 vs hvs => ?_⟩
    unfold methD at o2
    split at o2
    · rename_i hn
      exact ⟨hid, c2, S2, d :: ds, f2.rep.off, (Vls.cons (f2.val v1) hvs).same (SameM.off _), hn, Out.off (g := gx X cur hid) f2.rep o2⟩
    · exact o2.elim
theorem d_methI {C m : Str} {k n : Nat} {Ca f : Addr} {fd : FuncData} {ps : List Str} {fm : List D → M D} {pl : Sem Bool} {apos : Pos} (hc : Cls X.K Ca) (hM : Meth X.K Ca m f) (F : FnD X.prog X.w X.K X.mg X.base k f fd ps fm) (hr : RoomG k X.A) (hm : X.mg C = some (.ref Ca)) (hb : Binds X.K fd ps [])
    (tk : Takes X W) (ho : PE X o (tE (gx X cur hid) W mo)) (ha : PA X (e :: es) (tAr (gx X cur hid) W ms)) (hn : ps.length = n := by rfl) (hst : starEach (e :: es) X.env = (false, eval e X.env) :: starEach es X.env := by rfl) (hpl : (backTo pos (starEach es X.env)).any (·.1) = false := by rfl)
    (ht : MethTree X o m apos (e :: es) pos pl := by rfl) :
    PE X (.Call (.Attribute o m apos) (e :: es) [] pos) (tE (gx X cur hid) W (mMethI C m n fm mo ms)) := by
  subst hn
  exact PE.imp (pe_methX (Ok := fun D => D = Ca) ho (fun D e => by rw [e]; exact ⟨hc, hM⟩) F hr hb (fun σ => passAt tk σ) ha hst hpl ht) fun σ H Q h => meth_core hm (fun _ _ _ q => q) h
theorem d_methI0 {C m : Str} {k n : Nat} {Ca f : Addr} {fd : FuncData} {ps : List Str} {fm : List D → M D} {pl : Sem Bool} {apos : Pos} (hc : Cls X.K Ca) (hM : Meth X.K Ca m f) (F : FnD X.prog X.w X.K X.mg X.base k f fd ps fm) (hr : RoomG k X.A) (hm : X.mg C = some (.ref Ca)) (hb : Binds X.K fd ps [])
    (tk : Takes X W) (ho : PE X o (tE (gx X cur hid) W mo)) (hn : ps.length = n := by rfl)
    (ht : MethTree X o m apos [] pos pl := by rfl) :
    PE X (.Call (.Attribute o m apos) [] [] pos) (tE (gx X cur hid) W (mMethI C m n fm mo mNil)) := by
  subst hn
  exact PE.imp (pe_methX0 (Ok := fun D => D = Ca) ho (fun D e => by rw [e]; exact ⟨hc, hM⟩) F hr hb (fun σ => passAt tk σ) ht) fun σ H Q h => meth_core hm (fun σ H Q q => by
    obtain ⟨c, S, τ, r, sl, o⟩ := q
    exact o H c (Fut.refl r) [] .nil) h
def sAsg2 (i j : Nat) (m : EM) : SM := fun τ => sOf (m τ) τ fun d S => .ok (.nx ((τ.set i (some d)).set j (some d))) S
theorem ds_asg2 {i j : Nat} {x y : Str} {p1 p2 : Pos} (hN : X.N.Nodup) (hi : X.N[i]? = some x) (hx : Loc X.env.scope x) (hj : X.N[j]? = some y) (hy : Loc X.env.scope y) (he : PE X e (tE g W m)) (hf1 : X.fn x = true ∨ X.env.scope.names.lookup x = some .local := by first | exact .inl rfl | exact .inr rfl | assumption)
    (hf2 : X.fn y = true ∨ X.env.scope.names.lookup y = some .local := by first | exact .inl rfl | exact .inr rfl | assumption)
    (ha : (assignEach [.Name x p1, .Name y p2] X.env).map (·.2) = [assign (.Name x p1) X.env, assign (.Name y p2) X.env] := by rfl) (hw : swappedStores [.Name x p1, .Name y p2] e X.env = pure none := by rfl) :
    PS X (.Assign [.Name x p1, .Name y p2] e pos) (tS g W (sAsg2 i j m)) :=
  PS.imp (ps_asg2 he (pg_name hN hi hx hf1) (pg_name hN hj hy hf2) ha hw) fun De σ H h =>
    tS_of (k := fun d τ S => .ok (.nx ((τ.set i (some d)).set j (some d))) S) h fun c S H1 τ v d r1 s1 v1 o1 => o1 _ H1 c (Fut.refl r1) ((s1.set v1 i).set v1 j)
theorem fld1 {C f : Str} {Ca : Addr} (hm : X.mg C = some (.ref Ca)) (c : Cls X.K Ca) (n : NoAttr X.K Ca f) : FldOk X [C] f := fun C' h Cb e => by
  rw [List.mem_singleton.mp h, hm] at e
  cases e
  exact ⟨c, n⟩
def hit1 (nm : Str) : Str → Option Bool := fun C => if C = nm then some true else none
theorem hit1_ok {nm qn fl : Str} {C0 fI : Addr} (T : PySem.ErrX.ErrTxt X.K X.mg nm qn fl C0 fI) : ∀ C Ca b, hit1 nm C = some b → X.mg C = some (.ref Ca) → PySem.W.exmOne X.K (.ref Ca) (.ref C0) = some b := by
  intro C Ca b h e
  unfold hit1 at h
  by_cases q : C = nm
  · rw [if_pos q] at h
    cases h
    rw [q, T.gC] at e
    cases e
    exact T.te
  · rw [if_neg q] at h; cases h
theorem bt_ValueError : bootBuiltins "ValueError" = some (.type "ValueError") := by decide +kernel
theorem bt_KeyError : bootBuiltins "KeyError" = some (.type "KeyError") := by decide +kernel
theorem bt_LookupError : bootBuiltins "LookupError" = some (.type "LookupError") := by decide +kernel
theorem bt_IndexError : bootBuiltins "IndexError" = some (.type "IndexError") := by decide +kernel
theorem bt_OverflowError : bootBuiltins "OverflowError" = some (.type "OverflowError") := by decide +kernel
theorem bt_RuntimeError : bootBuiltins "RuntimeError" = some (.type "RuntimeError") := by decide +kernel
end
end ND
set_option maxHeartbeats 1000000
namespace L2
open PySem
section
variable {X : Cx} {CX : CXT} {k : Nat} {f C : Addr} {fd : FuncData} {ps : List Str} {sp : Sp} {E : XK} {pins : List (Addr × Obj)} {st : St} {G : Hp} {sh : Shared} {A : Around}
theorem run_at {us : List Value} {vs : List V} {Q : VK} (F : FnG X.prog X.w X.K X.mg X.base CX k f fd ps sp) (room : RoomG k A) (frames : A.frames = X.A.frames) (bd : Binds X.K fd ps []) (pass : PassesAt CX X st E) (inv : Inv X pins st G sh) (rel : Vals vs us) (want : sp vs G Q E) :
    wpAny (model X.prog X.w) A (call (.ref f) us) (EP X pins st Q) X.xe sh := by
  have len : us.length = ps.length := rel.length ▸ F.len _ _ _ _ want
  have to := bd sh us inv.kIn (by rw [List.append_nil]; exact len)
  rw [List.append_nil] at to
  have e0 := inv.env0
  refine wpAny_call (codeAny_mono (F.run A X.stack sh G ⟨us, []⟩ us vs Q E room ⟨frames.trans e0.frames, e0.mod, e0.bs, e0.bsz, e0.funs, e0.frf, e0.hok, e0.bare⟩ to rel want) fun r s' got => ?_)
  match r, got with
  | .error e, got => exact pass pins G sh e s' inv got
  | .ok (.ret u), got => exact inv.after got
structure Own (K : PySem.W.Frag) (C : Addr) (name : Str) (f : Addr) : Prop where
  at_ : PySem.W.findIn K (.ref C) name = some (some (.ref f))
  fn : PySem.W.typeIn K (.ref f) = some (.type "function")
def rLenO (C : Addr) (sp : Sp) (E : XK) : List V → Hp → VK → Prop := fun xs G Q => ∃ a dx fs, xs = [.ref a] ∧ G a = some (.ins C dx fs) ∧ sp [.ref a] G (fun v G' => ∃ n : Int, v = .int n ∧ 0 ≤ n ∧ n < 2 ^ 63 ∧ Q (.int n) G') E
theorem len_own {Q : VK} {a dx : Addr} {fs : List (Str × V)} (own : Own X.K C "__len__" f) (F : FnG X.prog X.w X.K X.mg X.base CX k f fd ps sp) (room : RoomG k A) (frames : A.frames = X.A.frames) (bd : Binds X.K fd ps []) (pass : PassesAt CX X st E)
    (inv : Inv X pins st G sh) (at_ : G a = some (.ins C dx fs)) (want : sp [.ref a] G (fun v G' => ∃ n : Int, v = .int n ∧ 0 ≤ n ∧ n < 2 ^ 63 ∧ Q (.int n) G') E) :
    wpAny (model X.prog X.w) A (Builtin.«len» ⟨[.ref a], []⟩) (fun fin s' => ∃ v, fin = .done (.ret v) ∧ (∃ n t, v = .int n t) ∧ EP X pins st Q v s') X.xe sh := by
  obtain ⟨mA, O, _⟩ := ins_get inv.hok at_
  obtain ⟨od, inst, _⟩ := O.look
  have run := run_at F room frames bd pass inv (.cons (show RelV (V.ref a) (Value.ref a) from rfl) .nil) want
  refine wpAny_bind (m := oneArg "len" _) (wpAny_pure (wpAny_bind (m := callSpecial? (.ref a) (Str.ofString "__len__")) (PySem.W.special_fn inv.kIn inst own.at_ own.fn (wpAny_mono run (fun v s1 got => ?_) fun _ _ h => h))))
  obtain ⟨w, G1, inv1, rel, n, ew, n0, n1, q⟩ := got
  subst ew
  obtain ⟨t, rfl⟩ := rel
  refine wpAny_bind (wpAny_holding (wpAny_pure (wpAny_bind (wpAny_letGo ?_))))
  show wpAny _ _ (if n < 0 then _ else _) _ _ _
  rw [if_neg (Int.not_lt.mpr n0)]
  show wpAny _ _ (if n ≥ 2 ^ 63 then _ else _) _ _ _
  rw [if_neg (Int.not_le.mpr n1)]
  exact wpAny_bind (wpAny_mkInt (wpAny_pure ⟨_, rfl, ⟨_, _, rfl⟩, .int n, G1, inv1.tok _, ⟨_, rfl⟩, q⟩))
theorem in1_frames : X.A.in1.frames = X.A.frames := rfl
theorem call_lenO (own : Own X.K C "__len__" f) (F : FnG X.prog X.w X.K X.mg X.base CX k f fd ps sp) (room : RoomG (k + 1) X.A) (bd : Binds X.K fd ps []) (pass : ∀ st, PassesAt CX X st E) : CallR X (.builtin "len") (rLenO C sp E) := fun ps sh st G xs us Q inv rel ⟨a, dx, fs, ex, at_, want⟩ => by
  subst ex
  obtain ⟨u, rfl, isA⟩ := vals1 rel
  obtain rfl : u = .ref a := isA
  refine Calls.call_function_entry PySem.kind_len PySem.plain_len PySem.entry_len (PySem.args_len1 _) (wpAny_mono (len_own own F room.in1 rfl bd (pass st) inv at_ want) (fun fin s' h => ?_) fun _ _ h => h)
  obtain ⟨v, e, _, got⟩ := h
  exact ⟨v, e, got⟩
def rTruO (C : Addr) (sp : Sp) (E : XK) : V → Hp → (Bool → Hp → Prop) → Prop := fun x G Q => ∃ a dx fs, x = .ref a ∧ G a = some (.ins C dx fs) ∧ sp [.ref a] G (fun v G' => ∃ n : Int, v = .int n ∧ 0 ≤ n ∧ n < 2 ^ 63 ∧ Q (n != 0) G') E
theorem tru_at {a dx : Addr} {fs : List (Str × V)} {Q : Bool → Hp → Prop} (own : Own X.K C "__len__" f) (none : PySem.W.findIn X.K (.ref C) "__bool__" = some none) (F : FnG X.prog X.w X.K X.mg X.base CX k f fd ps sp) (room : RoomG (k + 1) A) (frames : A.frames = X.A.frames) (bd : Binds X.K fd ps []) (pass : PassesAt CX X st E)
    (inv : Inv X pins st G sh) (at_ : G a = some (.ins C dx fs)) (want : sp [.ref a] G (fun v G' => ∃ n : Int, v = .int n ∧ 0 ≤ n ∧ n < 2 ^ 63 ∧ Q (n != 0) G') E) : wpAny (model X.prog X.w) A (truthy (.ref a)) (TP X pins st Q) X.xe sh := by
  obtain ⟨mA, O, _⟩ := ins_get inv.hok at_
  obtain ⟨od, inst, _⟩ := O.look
  have run := len_own (A := A.in1) (Q := fun v G' => ∃ n : Int, v = .int n ∧ Q (n != 0) G') own F room.in1 frames bd pass inv at_ (by
    exact cast (by congr; funext v G'; exact propext ⟨fun ⟨n, e, a1, a2, q⟩ => ⟨n, e, a1, a2, n, rfl, q⟩, fun ⟨n, e, a1, a2, m, e2, q⟩ => by cases e2; exact ⟨n, e, a1, a2, q⟩⟩) want)
  refine wpAny_bind (m := callSpecial? (.ref a) (Str.ofString "__bool__")) (wpAny_bind (wpAny_bind (inst.type.here ((PySem.W.looks_findIn inv.kIn none).here (wpAny_pure ?_)))))
  refine wpAny_bind (wpAny_bind (inst.type.here ((PySem.W.looks_findIn inv.kIn own.at_).here ?_)))
  rw [if_neg (by simp)]; refine wpAny_bind (wpAny_runValue (codeAny_builtin PySem.entry_len ?_))
  rw [Around.under_plainId PySem.plain_len _]
  refine wpAny_mono run (fun fin s' h => ?_) fun _ _ h => h
  obtain ⟨v, e, ⟨n, t, ev⟩, w, G', inv', rel, m, em, q⟩ := h
  subst e ev em
  obtain ⟨t', e⟩ := rel
  cases e
  exact wpAny_pure ⟨G', inv', q⟩
theorem tru_own (own : Own X.K C "__len__" f) (none : PySem.W.findIn X.K (.ref C) "__bool__" = some none) (F : FnG X.prog X.w X.K X.mg X.base CX k f fd ps sp) (room : RoomG (k + 1) X.A) (bd : Binds X.K fd ps []) (pass : ∀ st, PassesAt CX X st E) : TruR X (rTruO C sp E) := fun pins sh st G x v Q inv rel ⟨a, dx, fs, ex, at_, want⟩ => by
  subst ex
  obtain rfl : v = .ref a := rel
  exact tru_at own none F room rfl bd (pass st) inv at_ want
def rBoolO (C : Addr) (sp : Sp) (E : XK) : List V → Hp → VK → Prop := fun xs G Q => ∃ x, xs = [x] ∧ rTruO C sp E x G fun b G' => Q (.bl b) G'
theorem call_boolO (own : Own X.K C "__len__" f) (none : PySem.W.findIn X.K (.ref C) "__bool__" = some none) (Fn : FnG X.prog X.w X.K X.mg X.base CX k f fd ps sp) (room : RoomG (k + 3) X.A) (bd : Binds X.K fd ps []) (pass : ∀ st, PassesAt CX X st E) :
    CallR X (.type "bool") (rBoolO C sp E) := fun pins sh st G xs us Q inv rel ⟨x, ex, a, dx, fs, e2, at_, want⟩ => by
  subst ex e2
  obtain ⟨u, rfl, isA⟩ := vals1 rel
  obtain rfl : u = .ref a := isA
  refine callType_codes (Q₁ := fun v s1 => ∃ b G', v = .bool b ∧ Inv X pins st G' s1 ∧ Q (.bl b) G') PySem.F.called_bool (PySem.F.typeCall_bool_1 _) PySem.F.entry_object_init ?_ ?_
  · refine codeAny_call_builtin PySem.F.called_bool.plain PySem.F.entry_bool_new (wpAny_of_eq (PySem.F.newCall_bool_1 _) ?_)
    have truth := tru_at (A := X.A.in1.in1) (Q := fun b G' => Q (.bl b) G') own none Fn room.in1.in1 rfl bd (pass st) inv at_ want
    have sub := PySem.F.conv_sub_bool
    refine wpAny_bind (wpAny_of_eq (a := true) rfl (wpAny_ite ?_))
    rw [if_neg (by decide)]
    refine wpAny_bind (wpAny_of_eq sub (wpAny_ite ?_))
    rw [if_neg (by decide)]
    exact wpAny_bind (wpAny_of_eq (a := [Value.ref a]) rfl (wpAny_bind (wpAny_mono truth (fun b s' ⟨G', inv', q⟩ => wpAny_pure ⟨b, G', rfl, inv', q⟩) fun _ _ h => h)))
  · intro obj s1 ⟨b, G', e, inv', q⟩
    subst e
    exact ⟨rfl, PySem.F.args_object_init_2 _ _, object_init_meets PySem.F.called_bool.init.lookup PySem.F.called_bool.made PySem.F.newNe_bool _ _ X.A.in1 _ s1 ⟨rfl, rfl, .bl b, G', inv', rfl, q⟩⟩
def rEqO (C : Addr) (sp : Sp) (E : XK) : R2 := fun x y G Q => ∃ a b dx dy fs gs, x = .ref a ∧ y = .ref b ∧ G a = some (.ins C dx fs) ∧ G b = some (.ins C dy gs) ∧ sp [.ref a, .ref b] G (fun v G' => ∃ t, v = .bl t ∧ Q (.bl t) G') E
theorem op_eqO (own : Own X.K C "__eq__" f) (Fn : FnG X.prog X.w X.K X.mg X.base CX k f fd ps sp) (room : RoomG k X.A) (bd : Binds X.K fd ps []) (pass : ∀ st, PassesAt CX X st E) : OpR X (compareOp .Eq) (rEqO C sp E) := fun pins sh st G x y u v Q inv isX isY ⟨a, b, dx, dy, fs, gs, ex, ey, atA, atB, want⟩ => by
  subst ex ey
  obtain rfl : u = .ref a := isX
  obtain rfl : v = .ref b := isY
  obtain ⟨_, OA, _⟩ := ins_get inv.hok atA
  obtain ⟨_, OB, _⟩ := ins_get inv.hok atB
  obtain ⟨_, instA, _⟩ := OA.look
  obtain ⟨_, instB, _⟩ := OB.look
  obtain ⟨_, fr⟩ := inv.fr
  refine PySem.W.cmp_K (op := .Eq) (tb := .ref C) room.units0 fr inv.ok.mod.kin instA instB.type (by simp [PySem.W.notFirst]) own.at_ (beq_iff_eq.mpr own.fn) (wpAny_mono (run_at Fn room rfl bd (pass st) inv (.cons (show RelV (V.ref a) (Value.ref a) from rfl) (.cons (show RelV (V.ref b) (Value.ref b) from rfl) .nil)) want) (fun w s' got => ?_) fun _ _ h => h)
  obtain ⟨z, G', inv', rel, t, ez, q⟩ := got
  subst ez
  obtain rfl : w = .bool t := rel
  exact ⟨.bl t, G', inv', rfl, q⟩
end
end L2
namespace ND
open PySem L2
section
variable {X : Cx} {g : G} {W : WX} {cur : Cur} {hid : List Addr} {c : List Addr} {S : Store} {H : Hp} {fm : List D → M D} {C : Str} {Ca : Addr} {K : PySem.W.Frag} {mg : Str → Option Value} {P : Program} {w0 : World}
abbrev gq (K : PySem.W.Frag) (mg : Str → Option Value) (P : Program) (w0 : World) (cur : Cur) (hid : List Addr) : G := ⟨K, mg, P, w0, cur, hid⟩
theorem noErr_out {α : Type} {R : α → List Addr → Store → Hp → Prop} {E : XK} {m : M α} (o : Out g c S H R E (noErr m S)) : Out g c S H R (fun _ _ _ => False) (m S) := by
  unfold noErr at o
  cases q : m S with
  | ok a S' => rw [q] at o; exact o
  | err C fs S' => rw [q] at o; exact o.elim
  | bad => rw [q] at o; exact o
def ownD (C : Str) (f : List D → M D) (x : D) (ds : List D) : M D := fun S => match dr S x with
  | .obj C' _ => if C' = C then noErr (f (x :: ds)) S else .bad
  | _ => .bad
theorem ownD_out {x : D} {ds : List D} {v : V} {R : D → List Addr → Store → Hp → Prop} {E : XK} (hm : mg C = some (.ref Ca)) (r : Rep (gq K mg P w0 cur hid) c S H) (hv : Val (gq K mg P w0 cur hid) (frz (gq K mg P w0 cur hid) c S H) c v x) (o : Out (gq K mg P w0 cur hid) c S H R E (ownD C fm x ds S)) :
    ∃ a dx ws, v = .ref a ∧ H a = some (.ins Ca dx ws) ∧ Out (gq K mg P w0 cur hid) c S H R (fun _ _ _ => False) (fm (x :: ds) S) := by
  have sv := dr_seen r hv
  unfold ownD at o
  split at o
  · rename_i C' fs q
    rw [q] at sv
    split at o
    · rename_i e
      subst e
      obtain ⟨a, Cb, dx, ws, ea, eb, ec, _⟩ := sv.obj'
      have eb' := eb.symm.trans hm
      cases eb'
      exact ⟨a, dx, ws, ea, ec, noErr_out o⟩
    · exact o.elim
  · exact o.elim
theorem own_sp {x : D} {ds : List D} {v : V} {vs : List V} {Q : VK} {n : Nat} (r : Rep (gq K mg P w0 cur hid) c S H) (hv : Val (gq K mg P w0 cur hid) (frz (gq K mg P w0 cur hid) c S H) c v x) (hvs : Vls (gq K mg P w0 cur hid) (frz (gq K mg P w0 cur hid) c S H) c vs ds) (hn : ds.length + 1 = n)
    (o : Out (gq K mg P w0 cur hid) c S H (RV (gq K mg P w0 cur hid) Q) (fun _ _ _ => False) (fm (x :: ds) S)) : spD K mg P w0 n fm (v :: vs) H Q (fun _ _ _ => False) :=
  ⟨hid, c, S, x :: ds, r.off, (Vls.cons hv hvs).same (SameM.off _), by rw [List.length_cons]; exact hn, Out.off (g := gq K mg P w0 cur hid) r o⟩
noncomputable def lenOf (d : D) : M D := match d with
  | .int n => M.chk (okP (0 ≤ n ∧ n < 2 ^ 63)) (pure (.int n))
  | _ => M.no
noncomputable def lenOD (C : Str) (f : List D → M D) (ds : List D) : M D := match ds with
  | [x] => ownD C f x [] >>= lenOf
  | _ => M.no
theorem lenOf_out {d : D} {v : V} {R : D → List Addr → Store → Hp → Prop} {E : XK} (hv : Val g (frz g c S H) c v d) (o : Out g c S H R E (lenOf d S)) : ∃ n : Int, v = .int n ∧ 0 ≤ n ∧ n < 2 ^ 63 ∧ Out g c S H R E (.ok (.int n) S) := by
  unfold lenOf at o
  split at o
  · cases hv with
    | int n =>
      obtain ⟨h, o2⟩ := Out.chk o
      obtain ⟨h0, h1⟩ := okP_of h
      exact ⟨_, rfl, h0, h1, o2⟩
  · exact o.elim
theorem cd_lenO (hm : mg C = some (.ref Ca)) : CbD (gq K mg P w0 cur hid) (rLenO Ca (spD K mg P w0 1 fm) (fun _ _ _ => False)) (lenOD C fm) := by
  intro c S H vs ds Q E r hvs o
  unfold lenOD at o
  split at o
  · obtain ⟨v, rfl, hv⟩ := vls1 hvs
    obtain ⟨a, dx, ws, rfl, at_, o2⟩ := ownD_out hm r hv (Out.bind o)
    refine ⟨a, dx, ws, rfl, at_, own_sp r hv .nil rfl (o2.imp fun d c1 S1 H1 f1 o3 w hw => ?_)⟩
    obtain ⟨n, rfl, n0, n1, o4⟩ := lenOf_out hw o3
    exact ⟨n, rfl, n0, n1, at_now f1.rep o4 (.int n)⟩
  · exact o.elim
theorem passF (st : St) : PassesAt (L2.CX X.prog X.w) X st (fun _ _ _ => False) := passAt (W := WF) takesF st
noncomputable def truOf (d : D) : M Bool := lenOf d >>= fun d => match d with
  | .int n => pure (n != 0)
  | _ => M.no
noncomputable def truOD (C : Str) (f : List D → M D) (x : D) : M Bool := ownD C f x [] >>= truOf
theorem truOf_out {d : D} {v : V} {R : Bool → List Addr → Store → Hp → Prop} {E : XK} (r : Rep g c S H) (hv : Val g (frz g c S H) c v d) (o : Out g c S H R E (truOf d S)) : ∃ n : Int, v = .int n ∧ 0 ≤ n ∧ n < 2 ^ 63 ∧ R (n != 0) c S H := by
  obtain ⟨n, e, n0, n1, o2⟩ := lenOf_out hv (Out.bind o)
  exact ⟨n, e, n0, n1, o2 H c (Fut.refl r) H c (Fut.refl r)⟩
theorem truO_core {x : D} {v : V} {Q : Bool → Hp → Prop} {E : XK} (hm : mg C = some (.ref Ca)) (r : Rep (gq K mg P w0 cur hid) c S H) (hv : Val (gq K mg P w0 cur hid) (frz (gq K mg P w0 cur hid) c S H) c v x) (o : Out (gq K mg P w0 cur hid) c S H (RB Q) E (truOD C fm x S)) :
    rTruO Ca (spD K mg P w0 1 fm) (fun _ _ _ => False) v H Q := by
  obtain ⟨a, dx, ws, rfl, at_, o2⟩ := ownD_out hm r hv (Out.bind o)
  refine ⟨a, dx, ws, rfl, at_, own_sp r hv .nil rfl (o2.imp fun d c1 S1 H1 f1 o3 w hw => ?_)⟩
  obtain ⟨n, rfl, n0, n1, q⟩ := truOf_out f1.rep hw o3
  exact ⟨n, rfl, n0, n1, q⟩
noncomputable def boolOD (C : Str) (f : List D → M D) (ds : List D) : M D := match ds with
  | [x] => truOD C f x >>= fun b => pure (.bl b)
  | _ => M.no
theorem cd_boolO (hm : mg C = some (.ref Ca)) : CbD (gq K mg P w0 cur hid) (rBoolO Ca (spD K mg P w0 1 fm) (fun _ _ _ => False)) (boolOD C fm) := by
  intro c S H vs ds Q E r hvs o
  unfold boolOD at o
  split at o
  · obtain ⟨v, rfl, hv⟩ := vls1 hvs
    exact ⟨v, rfl, truO_core hm r hv ((Out.bind o).imp fun b c1 S1 H1 f1 o1 => at_now f1.rep o1 (.bl b))⟩
  · exact o.elim
noncomputable def mTruO (C : Str) (f : List D → M D) (m : EM) : TM := fun τ => m τ >>= truOD C f
theorem dt_truO {e : Expr} {m : EM} {k : Nat} {f : Addr} {fd : FuncData} {ps : List Str} (own : Own X.K Ca "__len__" f) (none : PySem.W.findIn X.K (.ref Ca) "__bool__" = some none) (F : FnD X.prog X.w X.K X.mg X.base k f fd ps fm) (hr : RoomG (k + 1) X.A) (hm : X.mg C = some (.ref Ca)) (hb : Binds X.K fd ps [])
    (he : PE X e (tE (gx X cur hid) W m)) (hn : ps.length = 1 := by rfl) (ht : ∀ whole, isTrue e X.env whole = (do let v ← whole; standAt e.pos; holding [v] (truthy v)) := by intro _; rfl) : PT X e (tT (gx X cur hid) W (mTruO C fm m)) := by
  rw [FnD, hn] at F
  exact PT.imp (pt_truthR he (tru_own own none F hr hb passF) ht) fun σ H Q ⟨c, S, τ, r, s, o⟩ => ⟨c, S, τ, r, s, (Out.bind o).imp fun d c1 S1 H1 f1 o1 v hv => truO_core hm f1.rep hv o1⟩
def eqOD (C : Str) (f : List D → M D) (x y : D) : M D := fun S => match dr S y with
  | .obj C' _ => if C' = C then (ownD C f x [y] >>= asB >>= fun b => pure (.bl b)) S else .bad
  | _ => .bad
theorem od_eqO (hm : mg C = some (.ref Ca)) : OpD (gq K mg P w0 cur hid) (rEqO Ca (spD K mg P w0 2 fm) (fun _ _ _ => False)) (eqOD C fm) := by
  intro c S H v w x y Q E r hv hw o
  have sw := dr_seen r hw
  unfold eqOD at o
  split at o
  · rename_i C' fs q
    rw [q] at sw
    split at o
    · rename_i e
      subst e
      obtain ⟨b, Cb, dy, gs, rfl, eb, atB, _⟩ := sw.obj'
      have eb' := eb.symm.trans hm
      cases eb'
      rw [bind_assoc'] at o
      obtain ⟨a, dx, ws, rfl, atA, o2⟩ := ownD_out hm r hv (Out.bind o)
      refine ⟨a, b, dx, dy, ws, gs, rfl, rfl, atA, atB, own_sp r hv (.cons hw .nil) rfl (o2.imp fun d c1 S1 H1 f1 o3 u hu => ?_)⟩
      obtain ⟨t, rfl, o4⟩ := asB_out hu o3
      exact ⟨t, rfl, at_now f1.rep o4 (.bl t)⟩
    · exact o.elim
  · exact o.elim
end
end ND
set_option maxHeartbeats 1000000
namespace ND
open PySem L2 RZ
section
variable {X : Cx} {g : G} {W : WX} {cur : Cur} {hid : List Addr} {c : List Addr} {S : Store} {H : Hp} {a b e : Expr} {m ma mb : EM} {ms : AM} {p pos : Pos}
def truB : D → Option Bool
  | .non => some false
  | .bl b => some b
  | .int i => some (i != 0)
  | .str x => some ((x.length : Int) != 0)
  | .lst xs => some (!xs.isEmpty)
  | .rol xs => some (!xs.isEmpty)
  | .tup xs => some (!xs.isEmpty)
  | .dct kvs => some (!kvs.isEmpty)
  | _ => none
def truD (x : D) : M Bool := fun S => match truB (dr S x) with
  | some b => .ok b S
  | none => .bad
def mTru (m : EM) : TM := fun τ => m τ >>= truD
theorem vls_empty {F : Hp} {vs : List V} {xs : List D} (h : Vls g F c vs xs) : (!vs.isEmpty) = !xs.isEmpty := by cases h <;> rfl
theorem vkv_empty {F : Hp} {vs : List (Key × V)} {xs : List (Key × D)} (h : VKv g F c vs xs) : (!vs.isEmpty) = !xs.isEmpty := by cases h <;> rfl
theorem tru_seen {v : V} {d : D} {t : Bool} (h : Seen g c S H v d) (e : truB d = some t) : TruV g.K v H t := by
  cases d with
  | non => cases e; rw [h.non]; rfl
  | bl i => cases e; rw [h.bl]; rfl
  | int i => cases e; rw [h.int]; rfl
  | str x => cases e; obtain ⟨rfl, ok⟩ := h.str; exact ⟨ok.2, rfl⟩
  | lst xs => cases e; obtain ⟨p, vs, rfl, s, l⟩ := h.lst'; exact .inl ⟨vs, SqL.of s, (vls_empty l).symm⟩
  | rol xs => cases e; obtain ⟨p, vs, rfl, s, l⟩ := h.rol; exact .inl ⟨vs, s, (vls_empty l).symm⟩
  | tup xs => cases e; obtain ⟨p, vs, rfl, s, l⟩ := h.tup; exact .inr (.inl ⟨vs, s, (vls_empty l).symm⟩)
  | dct xs => cases e; obtain ⟨p, vs, rfl, s, l⟩ := h.dct'; exact .inr (.inr ⟨vs, s, (vkv_empty l).symm⟩)
  | _ => cases e
theorem truD_out {x : D} {v : V} {R : Bool → List Addr → Store → Hp → Prop} {E : XK} (r : Rep g c S H) (hv : Val g (frz g c S H) c v x) (o : Out g c S H R E (truD x S)) : ∃ t, TruV g.K v H t ∧ R t c S H := by
  unfold truD at o
  split at o
  · rename_i t q
    exact ⟨t, tru_seen (dr_seen r hv) q, o H c (Fut.refl r)⟩
  · exact o.elim
theorem dt_tru (he : PE X e (tE (gx X cur hid) W m)) (ht : ∀ whole, isTrue e X.env whole = (do let v ← whole; standAt e.pos; holding [v] (truthy v)) := by intro _; rfl) : PT X e (tT (gx X cur hid) W (mTru m)) :=
  PT.imp (pt_truth he ht) fun σ H Q ⟨c, S, τ, r, s, o⟩ => ⟨c, S, τ, r, s, (Out.bind o).imp fun d c1 S1 H1 f1 o1 v hv => truD_out f1.rep hv o1⟩
abbrev pairD : D → D → D := fun x y => .tpo [x, y]
theorem zip_at {xs ys : List D} {i : Nat} {d : D} (h : (List.zipWith pairD xs ys)[i]? = some d) : ∃ x y, xs[i]? = some x ∧ ys[i]? = some y ∧ d = .tpo [x, y] := by
  rw [List.getElem?_zipWith] at h
  cases q1 : xs[i]? with
  | none => rw [q1] at h; cases h
  | some x =>
    cases q2 : ys[i]? with
    | none => rw [q1, q2] at h; cases h
    | some y => rw [q1, q2] at h; cases h; exact ⟨x, y, rfl, rfl, rfl⟩
theorem pair_new {c' : List Addr} {S' : Store} {H' : Hp} {T : Addr} {x y : V} {dx dy : D} (r : Rep g c' S' H') (free : H' T = none) (hx : Val g (frz g c' S' H') c' x dx) (hy : Val g (frz g c' S' H') c' y dy) :
    Fut g c' S' H' c' S' (upd H' T (.tup [x, y])) ∧ Val g (frz g c' S' (upd H' T (.tup [x, y]))) c' (.ref T) (.tpo [dx, dy]) := by
  have f := Fut.new (o := .tup [x, y]) r free
  exact ⟨f, .tpo (.inl (.inl (Fut.frz_new r free))) (.cons (f.val hx) (.cons (f.val hy) .nil))⟩
theorem Walks.zipT {p q : Addr} {vs ws : List V} {xs ys : List D} (h1 : SqT g.K (frz g c S H) p vs) (l1 : Vls g (frz g c S H) c vs xs) (h2 : SqT g.K (frz g c S H) q ws) (l2 : Vls g (frz g c S H) c ws ys) : Walks g c S H (ItzT g.K p q) (List.zipWith pairD xs ys) where
  go := fun i g' c' S' H' f hi => by
    rw [List.length_zipWith, ← l1.length, ← l2.length] at hi
    exact ⟨vs, ws, vs[i]'(by omega), ws[i]'(by omega), Evl.ex_t frz_ex (Evl.ex_t f.ex h1), Evl.ex_t frz_ex (Evl.ex_t f.ex h2), by simp, by simp⟩
  yld := fun i g' c' S' H' v H2 f ⟨T, x, y, ev, free, eH, y1, y2⟩ d hd => by
    subst ev eH
    obtain ⟨dx, dy, e1, e2, rfl⟩ := zip_at hd
    obtain ⟨x', ex, vx⟩ := l1.get e1
    obtain ⟨y', ey, vy⟩ := l2.get e2
    cases ex.symm.trans (y1 vs (Evl.ex_t frz_ex (Evl.ex_t f.ex h1)))
    cases ey.symm.trans (y2 ws (Evl.ex_t frz_ex (Evl.ex_t f.ex h2)))
    exact pair_new f.rep free ((vx.mono f.ex f.pre).same f.same) ((vy.mono f.ex f.pre).same f.same)
  stop := fun i g' c' S' H' f hi => by
    rw [List.length_zipWith, ← l1.length, ← l2.length] at hi
    exact ⟨vs, ws, Evl.ex_t frz_ex (Evl.ex_t f.ex h1), Evl.ex_t frz_ex (Evl.ex_t f.ex h2), by omega⟩
theorem Walks.zipL {p q : Addr} {vs ws : List V} {xs ys : List D} (h1 : SqL g.K (frz g c S H) p vs) (l1 : Vls g (frz g c S H) c vs xs) (h2 : SqL g.K (frz g c S H) q ws) (l2 : Vls g (frz g c S H) c ws ys) : Walks g c S H (Itz g.K p q) (List.zipWith pairD xs ys) where
  go := fun i g' c' S' H' f hi => by
    rw [List.length_zipWith, ← l1.length, ← l2.length] at hi
    exact ⟨vs, ws, vs[i]'(by omega), ws[i]'(by omega), Evl.ex_l frz_ex (Evl.ex_l f.ex h1), Evl.ex_l frz_ex (Evl.ex_l f.ex h2), by simp, by simp⟩
  yld := fun i g' c' S' H' v H2 f ⟨T, x, y, ev, free, eH, y1, y2⟩ d hd => by
    subst ev eH
    obtain ⟨dx, dy, e1, e2, rfl⟩ := zip_at hd
    obtain ⟨x', ex, vx⟩ := l1.get e1
    obtain ⟨y', ey, vy⟩ := l2.get e2
    cases ex.symm.trans (y1 vs (Evl.ex_l frz_ex (Evl.ex_l f.ex h1)))
    cases ey.symm.trans (y2 ws (Evl.ex_l frz_ex (Evl.ex_l f.ex h2)))
    exact pair_new f.rep free ((vx.mono f.ex f.pre).same f.same) ((vy.mono f.ex f.pre).same f.same)
  stop := fun i g' c' S' H' f hi => by
    rw [List.length_zipWith, ← l1.length, ← l2.length] at hi
    exact ⟨vs, ws, Evl.ex_l frz_ex (Evl.ex_l f.ex h1), Evl.ex_l frz_ex (Evl.ex_l f.ex h2), by omega⟩
def zipD (ds : List D) : M (List D) := match ds with
  | [.tup xs, .tup ys] => pure (List.zipWith pairD xs ys)
  | [.lst xs, .lst ys] => pure (List.zipWith pairD xs ys)
  | _ => M.no
def mZip (ms : AM) : IM := fun τ => ms τ >>= zipD
theorem di_zip {elts : List Expr} {kk : Nat} {tpos : Pos} (hg : Gl X "zip") (hm : X.mg "zip" = none) (ha : PA X [a, b] (tAr (gx X cur hid) W ms)) (hs : starEach [a, b] X.env = (false, eval a X.env) :: starEach [b] X.env := by rfl) (hpl : (backTo pos (starEach [b] X.env)).any (·.1) = false := by rfl) :
    PI X (.Tuple elts kk tpos) (.Call (.Name "zip" p) [a, b] [] pos) (tIt (gx X cur hid) W (mZip ms)) := PI.imp (pi_zipA hg hm ha hs hpl) fun σ H R ⟨c, S, τ, r, s, o⟩ => ⟨c, S, τ, r, s, (Out.bind o).imp fun ds c1 S1 H1 f1 o1 vs hvs => by
  unfold zipD at o1
  split at o1
  · obtain ⟨v, w, rfl, hv, hw⟩ := vls2 hvs
    cases hv with
    | tup h1 l1 =>
      cases hw with
      | tup h2 l2 => exact ⟨_, _, _, _, rfl, .inr ⟨Evl.ex_t frz_ex h1.sq, Evl.ex_t frz_ex h2.sq, o1 H1 c1 (Fut.refl f1.rep) _ (Walks.zipT (g := gx X cur hid) h1.sq l1 h2.sq l2)⟩⟩
  · obtain ⟨v, w, rfl, hv, hw⟩ := vls2 hvs
    cases hv with
    | lst h1 l1 =>
      cases hw with
      | lst h2 l2 => exact ⟨_, _, _, _, rfl, .inl ⟨Evl.ex_l frz_ex (.inl (.inl h1)), Evl.ex_l frz_ex (.inl (.inl h2)), o1 H1 c1 (Fut.refl f1.rep) _ (Walks.zipL (g := gx X cur hid) (.inl (.inl h1)) l1 (.inl (.inl h2)) l2)⟩⟩
  · exact o1.elim⟩
end
end ND
set_option maxHeartbeats 1000000
namespace ND
open PySem L2
section
variable {X : Cx} {g : G} {W : WX} {cur : Cur} {hid : List Addr} {c : List Addr} {S : Store} {H : Hp}
abbrev rDictAny (K : PySem.W.Frag) : List V → Hp → VK → Prop := fun xs G Q => (rDictT K xs G Q ∨ (∃ (a : Addr) (ps : List Addr) (kvs : List (Key × V)), xs = [.ref a] ∧ SqL K G a (ps.map V.ref) ∧ Paired (fun p kv => SqT K G p [kV kv.1, kv.2]) ps kvs ∧ ∀ p, G p = none → Q (.ref p) (upd G p (.dK (mergeK [] kvs))))) ∨
  ∃ (a : Addr) (kvs : List (Key × V)), xs = [.ref a] ∧ Rd G a (.dK kvs) ∧ ∀ p, G p = none → Q (.ref p) (upd G p (.dK kvs))
theorem call_dictA (calm : X.calm = true) : CallR X (.type "dict") (rDictAny X.K) := ((call_dictT calm).or (call_dictP calm)).or call_dictD
def dictOf (S : Store) (x : D) : Option (List (Key × D)) := match x with
  | .tup xs => (pairsD xs).map (mergeD [])
  | .lst xs => (pairsD xs).map (mergeD [])
  | x => (match dr S x with
    | .dct kvs => some kvs
    | _ => none)
def dictAD (ds : List D) : M D := fun S => match ds with
  | [x] => (match dictOf S x with
    | some kvs => .ok (.dct kvs) S
    | none => .bad)
  | _ => .bad
def dictACD (ds : List D) : M D := fun S => match ds with
  | [x] => (match dictOf S x with
    | some kvs => newCell (.dct kvs) S
    | none => .bad)
  | _ => .bad
theorem dictOf_ok {x : D} {v : V} {kvs : List (Key × D)} {Q : VK} (r : Rep g c S H) (hv : Val g (frz g c S H) c v x) (e : dictOf S x = some kvs) (q : ∀ p ws, H p = none → VKv g (frz g c S H) c ws kvs → Q (.ref p) (upd H p (.dK ws))) : rDictAny g.K [v] H Q := by
  unfold dictOf at e
  split at e
  · rename_i xs
    cases hk : pairsD xs with
    | none => rw [hk] at e; cases e
    | some k0 =>
      rw [hk] at e; cases e
      cases hv with
      | tup s l =>
        obtain ⟨ps, ws, rfl, h1, h2⟩ := paired_of l hk
        exact .inl (.inl ⟨_, ps, ws, rfl, sqP_mono frz_ex s, Paired.ex frz_ex h1, fun p hp => q p _ hp (VKv.merge h2 .nil)⟩)
  · rename_i xs
    cases hk : pairsD xs with
    | none => rw [hk] at e; cases e
    | some k0 =>
      rw [hk] at e; cases e
      cases hv with
      | lst s l =>
        obtain ⟨ps, ws, rfl, h1, h2⟩ := paired_of l hk
        exact .inl (.inr ⟨_, ps, ws, rfl, Evl.ex_l frz_ex (.inl (.inl s)), Paired.ex frz_ex h1, fun p hp => q p _ hp (VKv.merge h2 .nil)⟩)
  · split at e
    · rename_i h1
      cases e
      have sv := dr_seen r hv
      rw [h1] at sv
      obtain ⟨a, ws, rfl, k1, l1⟩ := sv.dct'
      exact .inr ⟨a, ws, rfl, .inl k1, fun p hp => q p _ hp l1⟩
    · cases e
theorem cd_dictA : CbD g (rDictAny g.K) dictAD := by
  intro c S H vs ds Q E r hv o
  unfold dictAD at o
  split at o
  · obtain ⟨v, rfl, hv1⟩ := vls1 hv
    split at o
    · rename_i e
      refine dictOf_ok r hv1 e fun p ws hp l => ?_
      have f := Fut.new (o := .dK ws) r hp
      exact o _ c f _ (.dct (Fut.frz_new r hp) (l.mono f.ex (Pre.refl c)))
    · exact o.elim
  · exact o.elim
theorem cd_dictAC : CbD g (rDictAny g.K) dictACD := by
  intro c S H vs ds Q E r hv o
  unfold dictACD at o
  split at o
  · obtain ⟨v, rfl, hv1⟩ := vls1 hv
    split at o
    · rename_i e
      exact dictOf_ok r hv1 e fun p ws hp l => new_cell (x := .dct _) r rfl ⟨ws, upd_same, l⟩ o hp
    · exact o.elim
  · exact o.elim
def reverseD (x : D) (ds : List D) : M D := fun S => match x, ds with
  | .cel n, [] => (match S[n]? with
    | some (.lst xs) => .ok .non (S.set n (.lst xs.reverse))
    | _ => .bad)
  | _, _ => .bad
theorem md_reverse : MtD g rReverse reverseD := by
  intro c S H v d vs ds Q E r hv hvs o
  unfold reverseD at o
  split at o
  · rename_i n
    obtain ⟨a, rfl, ha⟩ := cel_at hv
    cases hvs
    split at o
    · rename_i xs hx
      obtain ⟨us, hu, lu⟩ := r.ok n a _ ha hx
      refine ⟨a, us, rfl, rfl, hu, ?_⟩
      exact o _ c (Fut.put (o := .lst us.reverse) r ha hx rfl (y := .lst xs.reverse) rfl ⟨_, upd_same, lu.reverse⟩) _ .non
    · exact o.elim
  · exact o.elim
theorem Vls.erase {F : Hp} : ∀ {vs : List V} {xs : List D} (n : Nat), Vls g F c vs xs → Vls g F c (vs.eraseIdx n) (xs.eraseIdx n)
  | _, _, _, .nil => .nil
  | _, _, 0, .cons _ t => t
  | _, _, n + 1, .cons h t => .cons h (Vls.erase n t)
theorem Vls.dropLast {F : Hp} {vs : List V} {xs : List D} (h : Vls g F c vs xs) : Vls g F c vs.dropLast xs.dropLast := by
  rw [List.dropLast_eq_take, List.dropLast_eq_take, h.length]
  exact h.take _
noncomputable def popD (x : D) (ds : List D) : M D := fun S => match x, ds with
  | .cel n, [] => (match S[n]? with
    | some (.lst xs) => (match xs[xs.length - 1]? with
      | some y => .ok y (S.set n (.lst xs.dropLast))
      | none => .bad)
    | _ => .bad)
  | .cel n, [.int i] => (match S[n]? with
    | some (.lst xs) => if okP (-(2 ^ 63) ≤ i ∧ i < 2 ^ 63) = true then (match seqIndex? i xs.length with
      | some k => (match xs[k]? with
        | some y => .ok y (S.set n (.lst (xs.eraseIdx k)))
        | none => .bad)
      | none => .bad) else .bad
    | _ => .bad)
  | _, _ => .bad
theorem mt_popA : MtR X "list.pop" (fun x vs H Q => rPop x vs H Q ∨ rPopAt x vs H Q) := fun pins s σ H x xs v us Q I rx r h => h.elim (mt_pop pins s σ H x xs v us Q I rx r) (mt_popAt pins s σ H x xs v us Q I rx r)
theorem md_pop : MtD g (fun x vs H Q => rPop x vs H Q ∨ rPopAt x vs H Q) popD := by
  intro c S H v d vs ds Q E r hv hvs o
  unfold popD at o
  split at o
  · rename_i n
    obtain ⟨a, rfl, ha⟩ := cel_at hv
    cases hvs
    split at o
    · rename_i xs hx
      split at o
      · rename_i y hy
        obtain ⟨us, hu, lu⟩ := r.ok n a _ ha hx
        obtain ⟨w, hw, vw⟩ := lu.get hy
        refine .inl ⟨a, us, w, rfl, rfl, hu, by rw [lu.length]; exact hw, ?_⟩
        have f := Fut.put (o := .lst us.dropLast) r ha hx rfl (y := .lst xs.dropLast) rfl ⟨_, upd_same, lu.dropLast⟩
        exact o _ c f _ (f.val vw)
      · exact o.elim
    · exact o.elim
  · rename_i n i
    obtain ⟨a, rfl, ha⟩ := cel_at hv
    obtain ⟨w0, rfl, hw0⟩ := vls1 hvs
    cases hw0
    split at o
    · rename_i xs hx
      split at o
      · rename_i hb
        split at o
        · rename_i k hk
          split at o
          · rename_i y hy
            obtain ⟨us, hu, lu⟩ := r.ok n a _ ha hx
            obtain ⟨w, hw, vw⟩ := lu.get hy
            refine .inr ⟨a, us, i, k, w, rfl, rfl, hu, (okP_of hb).1, (okP_of hb).2, by rw [lu.length]; exact hk, hw, ?_⟩
            have f := Fut.put (o := .lst (us.eraseIdx k)) r ha hx rfl (y := .lst (xs.eraseIdx k)) rfl ⟨_, upd_same, lu.erase k⟩
            exact o _ c f _ (f.val vw)
          · exact o.elim
        · exact o.elim
      · exact o.elim
    · exact o.elim
  · exact o.elim
end
end ND
set_option maxHeartbeats 1000000
namespace NDS
open PySem PyProof.Rows
section
variable {prog : Program} {w : World} {A : Around} {E : Value → Shared → Prop} {sh : Shared} {Q : Value → Shared → Prop} {l : Addr} {items : Array Value} {ns : List Int}
theorem call_set_intsL (calm : A.handled = none) (is : sh.heap.IsList l items) (isI : IntsAre items.toList ns) (few : ns.length + 1 < scanBound)
    (want : ∀ (h' : Heap) (tk n : Nat), L2.SetR w h' sh.heap.objs.size (fun j => decide (j ∈ ns)) n → n ≤ ns.length → (∀ b o, sh.heap.get? b = some o → h'.get? b = some o) → Q (.ref sh.heap.objs.size) { sh with heap := h', toks := tk }) :
    wpAny (model prog w) A (call (.type "set") [.ref l]) Q E sh := by
  refine set_calledL (L := fun led => led = !w.params.followText "set-order") (L2.code_set_led1 _ ⟨_, rfl, rfl, rfl⟩) fun led hL => ?_
  subst hL
  have is1 : (withBare sh (!w.params.followText "set-order")).heap.IsList l items := is.push _
  have old : l < sh.heap.objs.size := by obtain ⟨o, e, _⟩ := is; exact Heap.lt_size e
  have big : (withBare sh (!w.params.followText "set-order")).heap.objs.size = sh.heap.objs.size + 1 := Heap.size_push ..
  have size : items.size = ns.length := by rw [← Array.length_toList]; exact IntsAre.length isI
  refine init_by (T := "list") is1.typeIs F.sub_list_set F.sub_list_frozenset (by decide) (wpAny_pyIter_list is1 ?_)
  rw [big]
  have W := (Walks.list (prog := prog) (w := w) (A := A.in1.in1.in1) (by simpa using calm) (sh.heap.objs.size + 1) l (Nat.ne_of_lt (Nat.lt_succ_of_lt old)) items).toS
  refine L2.set_update_ints W sh.heap.objs.size ?_ ns size few (fun i v e => ?_) items.size 0 _ rfl (Nat.zero_le _) ⟨?_, is1.push _⟩ ⟨0, Nat.le_refl 0, L2.setR_new_at (Heap.get?_push_of_some _ (Heap.get?_push_size _ rfl))⟩ fun s' n mv hn got => ?_
  · simp only [List.mem_cons, List.not_mem_nil, or_false, not_or]
    exact ⟨Nat.ne_of_lt (Nat.lt_succ_self _), Nat.ne_of_gt old⟩
  · have lt : i < ns.length := by rw [← size]; exact (Array.getElem?_eq_some_iff.mp e).1
    obtain ⟨t, ev⟩ := IntsAre.int_at isI i v (by rw [Array.getElem?_toList]; exact e)
    refine ⟨ns[i], t, List.getElem?_eq_getElem lt, ?_⟩
    rw [ev, List.getD_eq_getElem?_getD, List.getElem?_eq_getElem lt] <;> rfl
  · rw [show sh.heap.objs.size + 1 = (withBare sh (!w.params.followText "set-order")).heap.objs.size from big.symm]; exact ⟨_, Heap.get?_push_size _ rfl, rfl, rfl⟩
  · rw [mv.eq_with]
    refine ⟨rfl, want s'.heap s'.toks n got (size ▸ hn) fun b o e => mv.heap b o ?_ (Heap.get?_push_of_some _ (Heap.get?_push_of_some _ e))⟩
    have lt := Heap.lt_size e
    simp only [List.mem_cons, List.not_mem_nil, or_false, not_or]
    exact ⟨Nat.ne_of_lt lt, Nat.ne_of_lt (Nat.lt_succ_of_lt lt)⟩
end
end NDS
namespace L2
open PySem
def rSetI (K : PySem.W.Frag) (w : World) : List V → Hp → VK → Prop := fun xs G Q => ∃ (l : Addr) (ns : List Int), xs = [.ref l] ∧ SqL K G l (ns.map V.int) ∧ ns.length + 1 < scanBound ∧ ∀ p n, G p = none → n ≤ ns.length → Q (.ref p) (upd G p (SetO w p (fun j => decide (j ∈ ns)) n))
theorem call_setI {X : Cx} (calm : X.calm = true) : CallR X (.type "set") (rSetI X.K X.w) := fun ps sh st G xs us Q inv rel ⟨l, ns, ex, sq, few, want⟩ => by
  subst ex
  obtain ⟨u, rfl, isL⟩ := vals1 rel
  obtain rfl : u = .ref l := isL
  obtain ⟨its, relI, lst, _⟩ := inv.list sq
  refine NDS.call_set_intsL (ns := ns) (inv.ok.hd calm) lst.isList (by simpa using intsAre_of relI) few fun h' tk n got le kept => ?_
  exact ⟨.ref _, _, inv.laid (t' := tk) kept (Nat.le_refl _) (setO_new got), rfl, want _ _ (inv.hok.fresh (Nat.le_refl _)) le⟩
end L2
namespace ND
open PySem L2
def insU (k : Int) : List Int → List Int
  | [] => [k]
  | x :: xs => if k < x then k :: x :: xs else if k = x then x :: xs else x :: insU k xs
def sortU : List Int → List Int
  | [] => []
  | k :: ks => insU k (sortU ks)
theorem mem_insU {k x : Int} : ∀ {l : List Int}, x ∈ insU k l ↔ x = k ∨ x ∈ l
  | [] => by simp [insU]
  | y :: l => by
    unfold insU
    split
    · simp
    · split
      · rename_i e; subst e; simp
      · rw [List.mem_cons, mem_insU, List.mem_cons]
        exact ⟨fun h => h.elim (fun e => .inr (.inl e)) fun h => h.elim .inl fun h => .inr (.inr h), fun h => h.elim (fun e => .inr (.inl e)) fun h => h.elim .inl fun h => .inr (.inr h)⟩
theorem insU_sorted {k : Int} : ∀ {l : List Int}, l.Pairwise (· < ·) → (insU k l).Pairwise (· < ·)
  | [], _ => by simp [insU]
  | y :: l, h => by
    obtain ⟨h1, h2⟩ := List.pairwise_cons.mp h
    unfold insU
    split
    · rename_i lt
      exact List.pairwise_cons.mpr ⟨fun z hz => (List.mem_cons.mp hz).elim (fun e => e ▸ lt) fun hz => Int.lt_trans lt (h1 z hz), h⟩
    · split
      · exact h
      · refine List.pairwise_cons.mpr ⟨fun z hz => ?_, insU_sorted h2⟩
        rcases mem_insU.mp hz with e | hz
        · omega
        · exact h1 z hz
theorem mem_sortU {x : Int} : ∀ {l : List Int}, x ∈ sortU l ↔ x ∈ l
  | [] => Iff.rfl
  | k :: l => by rw [sortU, mem_insU, mem_sortU, List.mem_cons]
theorem sortU_sorted : ∀ (l : List Int), (sortU l).Pairwise (· < ·)
  | [] => .nil
  | _ :: l => insU_sorted (sortU_sorted l)
theorem rising_eq : ∀ {l m : List Int}, l.Pairwise (· < ·) → m.Pairwise (· < ·) → (∀ x, x ∈ l ↔ x ∈ m) → l = m
  | [], [], _, _, _ => rfl
  | [], y :: m, _, _, h => absurd ((h y).mpr List.mem_cons_self) List.not_mem_nil
  | x :: l, [], _, _, h => absurd ((h x).mp List.mem_cons_self) List.not_mem_nil
  | x :: l, y :: m, a, b, h => by
    obtain ⟨a1, a2⟩ := List.pairwise_cons.mp a
    obtain ⟨b1, b2⟩ := List.pairwise_cons.mp b
    have e : x = y := by
      have h1 : x = y ∨ x ∈ m := List.mem_cons.mp ((h x).mp List.mem_cons_self)
      have h2 : y = x ∨ y ∈ l := List.mem_cons.mp ((h y).mpr List.mem_cons_self)
      rcases h1 with h1 | h1
      · exact h1
      · rcases h2 with h2 | h2
        · exact h2.symm
        · have := a1 y h2; have := b1 x h1; omega
    subst e
    rw [rising_eq a2 b2 fun z => ⟨fun hz => ?_, fun hz => ?_⟩]
    · rcases List.mem_cons.mp ((h z).mp (List.mem_cons_of_mem _ hz)) with e | k
      · have := a1 z hz; omega
      · exact k
    · rcases List.mem_cons.mp ((h z).mpr (List.mem_cons_of_mem _ hz)) with e | k
      · have := b1 z hz; omega
      · exact k
def intsOf : List D → Option (List Int)
  | [] => some []
  | .int i :: r => (intsOf r).map (i :: ·)
  | _ :: _ => none
section
variable {X : Cx} {g : G} {W : WX} {cur : Cur} {hid : List Addr} {c : List Addr} {S : Store} {H : Hp} {e : Expr} {m : EM} {p p2 pos pos2 : Pos}
theorem ints_val {F : Hp} : ∀ {vs : List V} {xs : List D} {ns : List Int}, Vls g F c vs xs → intsOf xs = some ns → vs = ns.map V.int
  | _, _, _, .nil, e => by cases e; rfl
  | _, _, _, .cons (xs := xs) h t, e => by
    cases h with
    | int i =>
      rw [intsOf] at e
      cases q : intsOf xs with
      | none => rw [q] at e; cases e
      | some ms => rw [q] at e; cases e; rw [ints_val t q]; rfl
    | _ => cases e
theorem vls_ints {F : Hp} : ∀ (ns : List Int), Vls g F c (ns.map V.int) (ns.map D.int)
  | [] => .nil
  | n :: ns => .cons (.int n) (vls_ints ns)
def sortSetD (x : D) : M D := fun S => match dr S x with
  | .lst xs => (match intsOf xs with
    | some ns => if ns.length < 63 then .ok (.lst ((sortU ns).map D.int)) S else .bad
    | none => .bad)
  | _ => .bad
def mSortSet (m : EM) : EM := fun τ => m τ >>= sortSetD
theorem bt_sorted : bootBuiltins "sorted" = some (.builtin "sorted") := by decide +kernel
theorem d_sortset (calm : X.calm = true) (hg : Gl X "sorted") (hm : X.mg "sorted" = none) (hg2 : Gl X "set") (hm2 : X.mg "set" = none) (he : PE X e (tE (gx X cur hid) W m))
    (h1 : starEach [e] X.env = (false, eval e X.env) :: starEach [] X.env := by rfl) (h2 : starEach [.Call (.Name "set" p2) [e] [] pos2] X.env = (false, eval (.Call (.Name "set" p2) [e] [] pos2) X.env) :: starEach [] X.env := by rfl) :
    PE X (.Call (.Name "sorted" p) [.Call (.Name "set" p2) [e] [] pos2] [] pos) (tE (gx X cur hid) W (mSortSet m)) :=
  PE.imp (pe_callB (cr_sortedSet calm) hg hm bt_sorted (pa_cons (pe_callTy (call_setI calm) hg2 hm2 bt_set (pa_cons he pa_nil h1) (by decide) (by decide) h1 rfl) pa_nil h2) (by decide) (by decide) h2 rfl) fun σ H Q h => tE_then h fun c S H1 v d r1 v1 o1 => by
    unfold sortSetD at o1
    have sv := dr_seen r1 v1
    split at o1
    · rename_i xs hx
      rw [hx] at sv
      obtain ⟨a, vs, rfl, k1, l1⟩ := sv.lst'
      split at o1
      · rename_i ns hn
        split at o1
        · rename_i few
          have ev := ints_val l1 hn
          subst ev
          refine ⟨a, ns, rfl, SqL.of k1, by unfold scanBound; omega, fun q n free le => ⟨q, _, n, rfl, upd_same, by omega, fun ms t up has len free2 => ?_⟩⟩
          have em : ms = sortU ns := rising_eq up (sortU_sorted ns) fun x => by rw [has x, decide_eq_true_iff, mem_sortU]
          subst em
          have f1 := Fut.new (o := SetO X.w q (fun j => decide (j ∈ ns)) n) r1 free
          have f2 := Fut.new (o := .lst ((sortU ns).map V.int)) f1.rep free2
          exact o1 _ c (f1.trans f2) _ (.lst (Fut.frz_new f1.rep free2) (vls_ints _))
        · exact o1.elim
      · exact o1.elim
    · exact o1.elim
end
end ND
set_option maxHeartbeats 1000000
namespace L2
open PySem
section
variable {X : Cx} {CX : CXT} {k : Nat} {f : Addr} {fd : FuncData} {params ks : List Str} {sp : Sp} {E : St → XK} {m : Str} {pos apos : Pos} {o : Expr} {obj : TE} {args : TA} {kws : List Keyword}
theorem run_kw {pins : List (Addr × Obj)} {st : St} {G : Hp} {sh : Shared} {Q : VK} {us bs : List Value} {vs : List V} {kv : List (Str × Value)} (F : FnG X.prog X.w X.K X.mg X.base CX k f fd params sp) (room : RoomG k X.A) (to : BindsTo sh fd ⟨us, kv⟩ (params.zip bs)) (pass : PassesAt CX X st (E st))
    (inv : Inv X pins st G sh) (rel : Vals vs bs) (want : sp vs G Q (E st)) : wpAny (model X.prog X.w) X.A (call (.ref f) us kv) (EP X pins st Q) X.xe sh := by
  refine wpAny_call (codeAny_mono (F.run X.A X.stack sh G ⟨us, kv⟩ bs vs Q (E st) room inv.env0 to rel want) fun r s' got => ?_)
  match r, got with
  | .error e, got => exact pass pins G sh e s' inv got
  | .ok (.ret u), got => exact inv.after got
abbrev MethTreeK (X : Cx) (o : Expr) (m : Str) (apos : Pos) (es : List Expr) (kws : List Keyword) (pos : Pos) (pl : Sem Bool) : Prop := eval (.Call (.Attribute o m apos) es kws pos) X.env =
  (eval o X.env >>= fun ov => standAt apos.atName >>= fun _ => holding [ov] (getMethod ov m pl) >>= fun fm => callWith pos fm.1 fm.2 (backTo pos (starEach es X.env)) (backToKw pos (keywordEach kws X.env)))
theorem pe_methK {Ok : Addr → Prop} {pl : Sem Bool} (ho : PE X o obj) (known : ∀ C, Ok C → Cls X.K C ∧ Meth X.K C m f) (F : FnG X.prog X.w X.K X.mg X.base CX k f fd params sp) (room : RoomG k X.A)
    (bd : ∀ (s : Shared) (self : Value) (ws : List Value), X.K.In s.heap → ws.length = ks.length → BindsTo s fd ⟨[self], ks.zip ws⟩ (params.zip (self :: ws))) (count : params.length = ks.length + 1) (pass : ∀ st, PassesAt CX X st (E st)) (items : PK X kws args)
    (named : (backToKw pos (keywordEach kws X.env)).all (·.1.isSome) = true) (names : (backToKw pos (keywordEach kws X.env)).filterMap (·.1) = ks) (plain : ((backTo pos (starEach [] X.env)).any (·.1) || (backToKw pos (keywordEach kws X.env)).any (·.1.isNone)) = false)
    (tree : MethTreeK X o m apos [] kws pos pl) : PE X (.Call (.Attribute o m apos) [] kws pos) (tMethX Ok m sp E obj args) where
  run := fun ps sh st G Q inv want => PySem.W.methodCall_KW (pl := pl) (thn (ho.run ps sh st G _ inv want) fun u s1 ⟨x, G1, inv1, isX, a, C, dx, fs, ex, at_, ok, free, rest⟩ => by
    subst ex
    obtain rfl : u = .ref a := isX
    obtain ⟨cls, meth⟩ := known C ok
    exact getmeth_ok inv1 at_ cls meth free (PySem.W.callWith_KW0 (first := [.ref a]) (h₀ := X.base) inv.ok.mod.kin meth.kp named (thn (items.run pos ps s1 st G1 _ inv1 rest) fun ws s2 ⟨vs, G2, inv2, rel, q⟩ => ⟨inv2.kIn, by
      rw [names]
      have len := F.len _ _ _ _ q
      exact run_kw (us := [.ref a]) (bs := .ref a :: ws) F room (bd s2 _ ws inv2.kIn (by have := rel.length; rw [List.length_cons] at len; omega)) (pass st) inv2 (.cons (show RelV (V.ref a) (Value.ref a) from rfl) rel) q⟩) plain)) tree
end
end L2
namespace ND
open PySem L2
section
variable {X : Cx} {W : WX} {cur : Cur} {hid : List Addr} {o : Expr} {ms : AM} {mo : EM} {pos : Pos} {kws : List Keyword} {ks : List Str}
theorem d_methK {C m : Str} {k n : Nat} {Ca f : Addr} {fd : FuncData} {ps : List Str} {fm : List D → M D} {pl : Sem Bool} {apos : Pos} (hc : Cls X.K Ca) (hM : Meth X.K Ca m f) (F : FnD X.prog X.w X.K X.mg X.base k f fd ps fm) (hr : RoomG k X.A) (hm : X.mg C = some (.ref Ca))
    (hb : ∀ (s : Shared) (z : Value) (ws : List Value), X.K.In s.heap → ws.length = ks.length → BindsTo s fd ⟨[z], ks.zip ws⟩ (ps.zip (z :: ws))) (tk : Takes X W) (ho : PE X o (tE (gx X cur hid) W mo)) (ha : PK X kws (tAr (gx X cur hid) W ms)) (hps : ps.length = ks.length + 1 := by rfl) (hn : ps.length = n := by rfl)
    (hkw : KwPlain X pos kws ks := by exact ⟨rfl, rfl, rfl⟩) (ht : MethTreeK X o m apos [] kws pos pl := by rfl) :
    PE X (.Call (.Attribute o m apos) [] kws pos) (tE (gx X cur hid) W (mMethI C m n fm mo ms)) := by
  subst hn
  exact PE.imp (pe_methK (Ok := fun D => D = Ca) ho (fun D e => by rw [e]; exact ⟨hc, hM⟩) F hr hb hps (fun σ => passAt tk σ) ha hkw.1 hkw.2.1 hkw.2.2 ht) fun σ H Q h => meth_core hm (fun _ _ _ q => q) h
end
end ND
set_option maxHeartbeats 1000000
namespace ND
open PySem L2
section
variable {g : G} {c : List Addr} {S : Store} {H : Hp} {p : Addr}
theorem Rep.adopt {x : Cell} (r : Rep (g.hide p) c S H) (np : p ∉ g.hid) (hx : x.alive = true) (ok : CellOk (g.hide p) (frz (g.hide p) c S H) c H p x) : Rep g (c ++ [p]) (S ++ [x]) H ∧ frz g (c ++ [p]) (S ++ [x]) H = frz (g.hide p) c S H := by
  have hm : p ∈ (g.hide p).hid := List.mem_cons_self
  have off : p ∉ live c S := fun z => r.hl p z hm
  have lv : live (c ++ [p]) (S ++ [x]) = live c S ++ [p] := by rw [live_snoc p x r.len, if_pos hx]
  have inL : ∀ a, a ∈ live (c ++ [p]) (S ++ [x]) ↔ a ∈ live c S ∨ a = p := fun a => by rw [lv, List.mem_append, List.mem_singleton]
  have ef : frz g (c ++ [p]) (S ++ [x]) H = frz (g.hide p) c S H := by
    funext a
    by_cases q : a ∈ live c S
    · rw [frz_mem q, frz_mem ((inL a).mpr (.inl q))]
    · by_cases q1 : a = p
      · rw [frz_mem ((inL a).mpr (.inr q1)), frz_hid (q1 ▸ hm)]
      · by_cases q2 : a ∈ g.hid
        · rw [frz_hid q2, frz_hid (show a ∈ p :: g.hid from List.mem_cons_of_mem _ q2)]
        · rw [frz_in (fun z => ((inL a).mp z).elim q q1) q2, frz_in q (show a ∉ p :: g.hid from fun z => (List.mem_cons.mp z).elim q1 q2)]
  have same := (SameM.hide g p).symm
  have pre := Pre.snoc c p
  have exr : Ex (frz (g.hide p) c S H) (frz (g.hide p) c S H) := Evl.Ex.refl _
  refine ⟨⟨by simp [r.len], ?_, fun a ha => ?_, fun a ha => r.hs a (show a ∈ p :: g.hid from List.mem_cons_of_mem _ ha), fun q e => by rw [ef]; exact ((r.cu q e).same same).mono exr pre, fun n a y h1 h2 => ?_⟩, ef⟩
  · rw [lv]
    exact List.nodup_append.mpr ⟨r.nd, List.nodup_cons.mpr ⟨List.not_mem_nil, List.nodup_nil⟩, fun a ha b hb e => off (by rw [← List.mem_singleton.mp hb, ← e]; exact ha)⟩
  · rcases (inL a).mp ha with z | z
    · exact fun k => r.hl a z (show a ∈ p :: g.hid from List.mem_cons_of_mem _ k)
    · rw [z]; exact np
  · rw [ef]
    rcases Nat.lt_or_ge n c.length with q | q
    · rw [List.getElem?_append_left q] at h1
      rw [List.getElem?_append_left (by rw [← r.len]; exact q)] at h2
      exact ((r.ok n a y h1 h2).same same).mono exr pre
    · have hn : n = c.length := by
        rcases Nat.eq_or_lt_of_le q with z | z
        · exact z.symm
        · rw [List.getElem?_eq_none (by simp; omega)] at h1; cases h1
      subst hn
      simp at h1
      rw [r.len] at h2
      simp at h2
      subst h1 h2
      exact (ok.same same).mono exr pre
end
section
variable {X : Cx} {W : WX} {cur : Cur} {hid : List Addr} {elt tg iter : Expr} {ifs : List Expr} {scope : Scope} {own : List (Str × Nat)} {pos : Pos} {it : IM} {t : Tg} {tt : TM} {te : EM}
theorem tE_compC {σ : St} {H : Hp} {Q : VK} (hsl : ∀ i ∈ t.slots, i ∈ own.map (·.2)) (h : tE (gx X cur hid) W (mCompC it (own.map (·.2)) t tt te) σ H Q) :
    tLc (tIt (gx X cur hid) W it) (t.rd X.K) (fun σ H Q => ∃ hd, tT (gx X cur hd) WF tt σ H Q) (fun σ H Q => ∃ hd, tE (gx X cur hd) WF te σ H Q) (own.map (·.2)) σ H Q := by
  obtain ⟨c, S, τ, r, s, o⟩ := h
  refine ⟨c, S, τ, r, s, (Out.bind o).imp fun xs c1 S1 H1 f1 o1 J wk => ?_⟩
  intro p hp
  have o2 : Out (gx X cur hid) c1 S1 H1 (fun ys _ S' _ => ∀ H2 c2, Fut (gx X cur hid) c1 S1 H1 c2 (S' ++ [.lst ys]) H2 → ∀ v, Val (gx X cur hid) (frz (gx X cur hid) c2 (S' ++ [.lst ys]) H2) c2 v (.cel S'.length) → Q v H2) (WS W σ) (noErr (compL t tt te (wipeD τ (own.map (·.2))) xs []) S1) := by
    rw [bind_def] at o1
    cases q : noErr (compL t tt te (wipeD τ (own.map (·.2))) xs []) S1 with
    | ok ys S' => rw [q] at o1; exact fun _ _ _ => o1
    | err C fs S' => rw [q] at o1; exact o1
    | bad => rw [q] at o1; exact o1
  refine lc_of (hid := hid) (Qd := fun p H => Q (.ref p) H) (comp_core (Qd := fun p H => Q (.ref p) H) f1.rep (s.mono f1.ex f1.pre) wk hsl o2 (fun p ys us c' S' H' hp hf hH vl hR => ?_) p hp) (Tg.rd_mono t)
  obtain ⟨rep, ef⟩ := hf.l.rep.adopt (x := .lst ys) (not_hid f1.rep hp) rfl ⟨us, hH, vl⟩
  refine hR H' c' hf.fut H' (c' ++ [p]) ⟨hf.l.pre.trans (Pre.snoc c' p), rep, by rw [ef]; exact hf.l.ex, hf.hid⟩ _ (.cel ?_)
  rw [← hf.l.rep.len]; simp
theorem d_compC (hc : X.calm = true) (hN : X.N.Nodup) (hi : PI X tg iter (tIt (gx X cur hid) W it)) (ok : BlkOk X.N X.env.scope scope own)
    (hg : ∀ (s : Shared) (H : Hp) (C : Addr) (cl : List (Str × Addr)) (fp : List Addr), PG (X.blk s H scope (compEnvC scope cl C X.env) fp) tg (t.rd X.K))
    (hts : ∀ (s : Shared) (H : Hp) (C : Addr) (cl : List (Str × Addr)) (fp : List Addr) (hd : List Addr), PTs (X.blk s H scope (compEnvC scope cl C X.env) fp) ifs (tT (gx X cur hd) WF tt))
    (he : ∀ (s : Shared) (H : Hp) (C : Addr) (cl : List (Str × Addr)) (fp : List Addr) (hd : List Addr), PE (X.blk s H scope (compEnvC scope cl C X.env) fp) elt (tE (gx X cur hd) WF te))
    (hsl : ∀ i ∈ t.slots, i ∈ own.map (·.2)) (hs : ∀ x, foldedSetIterable iter X.env x = pure x := by intro _; rfl) :
    PE X (.ListComp elt [⟨tg, iter, ifs, 0⟩] scope pos) (tE (gx X cur hid) W (mCompC it (own.map (·.2)) t tt te)) :=
  PE.imp (pe_lc hc hN hi ok hg (fun s H C cl fp => pts_ex (hts s H C cl fp)) (fun s H C cl fp => pe_ex (he s H C cl fp)) hs) fun σ H Q h => tE_compC hsl h
structure IcOk (K : PySem.W.Frag) (C : Addr) : Prop where
  self : PySem.W.kitOne K (.ref C) (.ref C) = some true
  other : ∀ t ∈ ["NoneType", "bool", "int", "str", "list", "tuple", "dict"], PySem.W.kitOne K (.type t) (.ref C) = some false
  ha : PySem.W.findIn K (.ref C) "__class__" = some (some (.builtin "object.__class__"))
  hn : PySem.W.specialIn K (.builtin "object.__class__") "__get__" = some (some (.builtin "getset_descriptor.__get__"))
  htk : PySem.W.takesIn K (.builtin "object.__class__") = some true
  hm : PySem.W.mroIn K C (.type "object") = some true
def icB (K : PySem.W.Frag) (C : Addr) : Bool := decide (PySem.W.kitOne K (.ref C) (.ref C) = some true) && (["NoneType", "bool", "int", "str", "list", "tuple", "dict"].all fun t => decide (PySem.W.kitOne K (.type t) (.ref C) = some false)) &&
  (He.eqO (PySem.W.findIn K (.ref C) "__class__") (some (some (.builtin "object.__class__"))) && (He.eqO (PySem.W.specialIn K (.builtin "object.__class__") "__get__") (some (some (.builtin "getset_descriptor.__get__"))) && (decide (PySem.W.takesIn K (.builtin "object.__class__") = some true) && decide (PySem.W.mroIn K C (.type "object") = some true))))
theorem icB_ok {K : PySem.W.Frag} {C : Addr} (h : icB K C = true) : IcOk K C := by
  unfold icB at h
  simp only [Bool.and_eq_true, decide_eq_true_eq, List.all_eq_true] at h
  obtain ⟨⟨h1, h2⟩, h3, h4, h5, h6⟩ := h
  exact ⟨h1, h2, He.eqO_ok h3, He.eqO_ok h4, h5, h6⟩
def isiCD (C : Str) (x : D) : M D := fun S => match dr S x with
  | .obj C' _ => if C' = C then .ok (.bl true) S else .bad
  | d => (match tyNm d with
    | some _ => .ok (.bl false) S
    | none => .bad)
theorem tyNm_in {d : D} {t : String} (e : tyNm d = some t) : t ∈ ["NoneType", "bool", "int", "str", "list", "tuple", "dict"] := by
  cases d <;> simp [tyNm] at e <;> (subst e; simp)
theorem d_isiC {C : Str} {Ca : Addr} {e : Expr} {m : EM} {p q : Pos} (hm : X.mg C = some (.ref Ca)) (ic : IcOk X.K Ca) (cl : Cls X.K Ca) (he : PE X e (tE (gx X cur hid) W m)) (hg : Gl X C) (hi : X.mg "isinstance" = none) (hgi : Gl X "isinstance" := by rfl) (hd : (C == ("__debug__" : Str)) = false := by decide)
    (h1 : starEach [.Name C q] X.env = (false, eval (.Name C q) X.env) :: starEach [] X.env := by rfl) (h2 : starEach [e, .Name C q] X.env = (false, eval e X.env) :: starEach [.Name C q] X.env := by rfl) (hpl : (backTo pos (starEach [.Name C q] X.env)).any (·.1) = false := by rfl) :
    PE X (.Call (.Name "isinstance" p) [e, .Name C q] [] pos) (tE (gx X cur hid) W (mUn (isiCD C) m)) :=
  PE.imp (pe_callB call_isi hgi hi bt_isinstance (pa_cons he (pa_cons (pe_glob (v := .ref Ca) hg hm rfl hd) pa_nil h1) h2) (by decide) (by decide) h2 hpl) fun σ H Q h => tE_then h fun c S H1 v d r1 v1 o1 => by
    have sv := dr_seen r1 v1
    unfold isiCD at o1
    split at o1
    · rename_i C' fs q1
      rw [q1] at sv
      split at o1
      · rename_i e1
        subst e1
        obtain ⟨a, Cb, dx, ws, rfl, eb, at_, _⟩ := sv.obj'
        have eb' := eb.symm.trans hm
        cases eb'
        exact ⟨.ref a, .ref Ca, .ref Ca, .ref Ca, true, rfl, .own Ca, .base (.ins at_ cl ic.ha ic.hn ic.htk ic.hm), ic.self, at_now r1 o1 (.bl true)⟩
      · exact o1.elim
    · split at o1
      · rename_i t ht
        exact ⟨v, .ref Ca, .type t, .ref Ca, false, rfl, .own Ca, tyx_of sv ht, ic.other t (tyNm_in ht), at_now r1 o1 (.bl false)⟩
      · exact o1.elim
theorem ownOf {K : PySem.W.Frag} {C f : Addr} {name : Str} (h : Meth K C name f) : Own K C name f := ⟨h.at_, by simpa [PySem.W.isFn] using h.fn⟩
end
end ND
set_option maxHeartbeats 1000000
namespace ND
open PySem L2
theorem live_put : ∀ {c : List Addr} {S : Store} {n : Nat} {a : Addr} {x y : Cell}, c[n]? = some a → S[n]? = some y → y.alive = false → x.alive = true → (live c (S.set n x)).Perm (a :: live c S)
  | [], _, _, _, _, _, h, _, _, _ => by simp at h
  | _ :: _, [], _, _, _, _, _, h, _, _ => by simp at h
  | b :: c, z :: S, 0, a, x, y, h1, h2, h3, h4 => by
    simp at h1 h2
    subst h1 h2
    rw [List.set_cons_zero, live, live, if_pos h4, if_neg (by rw [h3]; exact Bool.false_ne_true)]
  | b :: c, z :: S, n + 1, a, x, y, h1, h2, h3, h4 => by
    have ih := live_put (c := c) (S := S) (n := n) (x := x) (by simpa using h1) (by simpa using h2) h3 h4
    rw [List.set_cons_succ, live, live]
    split
    · exact (ih.cons b).trans (List.Perm.swap a b _)
    · exact ih
section
variable {g : G} {c : List Addr} {S : Store} {H : Hp} {n : Nat} {a : Addr}
theorem Rep.take {x : Cell} (r : Rep g c S H) (ha : c[n]? = some a) (hs : S[n]? = some x) (hx : x.alive = true) : Rep (g.hide a) c (S.set n .dead) H ∧ frz (g.hide a) c (S.set n .dead) H = frz g c S H := by
  have hl : n < S.length := (List.getElem?_eq_some_iff.mp hs).1
  have inA := mem_live ha hs hx
  have back : ((S.set n .dead).set n x) = S := by
    rw [List.set_set]
    apply List.ext_getElem?
    intro i
    by_cases e : i = n
    · subst e; rw [List.getElem?_set_self hl, hs]
    · rw [List.getElem?_set_ne (Ne.symm e)]
  have perm : (live c S).Perm (a :: live c (S.set n .dead)) := by
    have := live_put (c := c) (S := S.set n .dead) (n := n) (a := a) (x := x) (y := .dead) ha (List.getElem?_set_self hl) rfl hx
    rwa [back] at this
  have nd := (perm.nodup_iff.mp r.nd)
  obtain ⟨off, nd'⟩ := List.nodup_cons.mp nd
  have ef : frz (g.hide a) c (S.set n .dead) H = frz g c S H := by
    funext b
    by_cases q1 : b = a
    · subst q1; rw [frz_hid (show b ∈ b :: g.hid from List.mem_cons_self), frz_mem inA]
    · by_cases q2 : b ∈ live c S
      · have q3 : b ∈ live c (S.set n .dead) := (List.mem_cons.mp (perm.mem_iff.mp q2)).resolve_left q1
        rw [frz_mem q2, frz_mem q3]
      · have q3 : b ∉ live c (S.set n .dead) := fun z => q2 (perm.mem_iff.mpr (List.mem_cons_of_mem _ z))
        by_cases q4 : b ∈ g.hid
        · rw [frz_hid q4, frz_hid (show b ∈ a :: g.hid from List.mem_cons_of_mem _ q4)]
        · rw [frz_in q2 q4, frz_in q3 (show b ∉ a :: g.hid from fun z => (List.mem_cons.mp z).elim q1 q4)]
  refine ⟨⟨by rw [List.length_set]; exact r.len, nd', fun b hb z => ?_, fun b hb => ?_, fun q e => by rw [ef]; exact (r.cu q e).same (SameM.hide g a), fun m b y h1 h2 => ?_⟩, ef⟩
  · rcases List.mem_cons.mp (show b ∈ a :: g.hid from z) with e | z
    · subst e; exact off hb
    · exact r.hl b (perm.mem_iff.mpr (List.mem_cons_of_mem _ hb)) z
  · rcases List.mem_cons.mp (show b ∈ a :: g.hid from hb) with e | z
    · subst e; exact live_some r inA
    · exact r.hs b z
  · rw [ef]
    by_cases e : m = n
    · subst e
      rw [List.getElem?_set_self hl] at h2; cases h2
      trivial
    · rw [List.getElem?_set_ne (Ne.symm e)] at h2
      exact (r.ok m b y h1 h2).same (SameM.hide g a)
theorem Rep.give {x : Cell} (r : Rep (g.hide a) c S H) (na : a ∉ g.hid) (ha : c[n]? = some a) (hs : S[n]? = some .dead) (hx : x.alive = true) (ok : CellOk (g.hide a) (frz (g.hide a) c S H) c H a x) : Rep g c (S.set n x) H ∧ frz g c (S.set n x) H = frz (g.hide a) c S H := by
  have hl : n < S.length := (List.getElem?_eq_some_iff.mp hs).1
  have hm : a ∈ (g.hide a).hid := List.mem_cons_self
  have off : a ∉ live c S := fun z => r.hl a z hm
  have perm := live_put (c := c) (S := S) (n := n) (x := x) ha hs rfl hx
  have same := (SameM.hide g a).symm
  have ef : frz g c (S.set n x) H = frz (g.hide a) c S H := by
    funext b
    by_cases q1 : b = a
    · subst q1; rw [frz_hid hm, frz_mem (perm.mem_iff.mpr List.mem_cons_self)]
    · by_cases q2 : b ∈ live c S
      · rw [frz_mem q2, frz_mem (perm.mem_iff.mpr (List.mem_cons_of_mem _ q2))]
      · have q3 : b ∉ live c (S.set n x) := fun z => (List.mem_cons.mp (perm.mem_iff.mp z)).elim q1 q2
        by_cases q4 : b ∈ g.hid
        · rw [frz_hid q4, frz_hid (show b ∈ a :: g.hid from List.mem_cons_of_mem _ q4)]
        · rw [frz_in q3 q4, frz_in q2 (show b ∉ a :: g.hid from fun z => (List.mem_cons.mp z).elim q1 q4)]
  refine ⟨⟨by rw [List.length_set]; exact r.len, perm.nodup_iff.mpr (List.nodup_cons.mpr ⟨off, r.nd⟩), fun b hb z => ?_, fun b hb => r.hs b (show b ∈ a :: g.hid from List.mem_cons_of_mem _ hb), fun q e => by rw [ef]; exact (r.cu q e).same same, fun m b y h1 h2 => ?_⟩, ef⟩
  · rcases List.mem_cons.mp (perm.mem_iff.mp hb) with e | k
    · subst e; exact na z
    · exact r.hl b k (show b ∈ a :: g.hid from List.mem_cons_of_mem _ z)
  · rw [ef]
    by_cases e : m = n
    · subst e
      rw [List.getElem?_set_self hl] at h2; cases h2
      rw [ha] at h1; cases h1
      exact ok.same same
    · rw [List.getElem?_set_ne (Ne.symm e)] at h2
      exact (r.ok m b y h1 h2).same same
theorem Walks.held {vs : List V} {xs : List D} (hid : a ∈ g.hid) (h : H a = some (.lst vs)) (l : Vls g (frz g c S H) c vs xs) : Walks g c S H (Itl g.K a) xs where
  go := fun i g' c' S' H' f hi => ⟨vs, vs[i]'(by rw [l.length]; exact hi), SqL.of ((f.hid a hid).trans h), by simp⟩
  yld := fun i g' c' S' H' v H2 f ⟨e, y⟩ d hd => by
    subst e
    have hv := y vs (SqL.of ((f.hid a hid).trans h))
    obtain ⟨w, hw, vw⟩ := l.get hd
    cases hv.symm.trans hw
    exact ⟨Fut.refl f.rep, (vw.mono f.ex f.pre).same f.same⟩
  stop := fun i g' c' S' H' f hi => ⟨vs, SqL.of ((f.hid a hid).trans h), by rw [l.length]; exact hi⟩
end
def compW (x : D) (k : List D → M (List D)) : M D := fun S => match x with
  | .cel n => (match S[n]? with
    | some (.lst xs) => (match k xs (S.set n .dead) with
      | .ok ys S' => (match S'[n]? with
        | some .dead => .ok (.lst ys) (S'.set n (.lst xs))
        | _ => .bad)
      | _ => .bad)
    | _ => .bad)
  | _ => .bad
def mCompW (m : EM) (vs : List Nat) (t : Tg) (tt : TM) (te : EM) : EM := fun τ => m τ >>= fun x => compW x fun xs => noErr (compL t tt te (wipeD τ vs) xs [])
section
variable {X : Cx} {W : WX} {cur : Cur} {hid : List Addr} {elt tg iter : Expr} {ifs : List Expr} {scope : Scope} {own : List (Str × Nat)} {pos : Pos} {m : EM} {t : Tg} {tt : TM} {te : EM}
theorem d_compW (hc : X.calm = true) (hN : X.N.Nodup) (hi : PE X iter (tE (gx X cur hid) W m)) (ok : BlkOk X.N X.env.scope scope own)
    (hg : ∀ (s : Shared) (H : Hp) (C : Addr) (cl : List (Str × Addr)) (fp : List Addr), PG (X.blk s H scope (compEnvC scope cl C X.env) fp) tg (t.rd X.K))
    (hts : ∀ (s : Shared) (H : Hp) (C : Addr) (cl : List (Str × Addr)) (fp : List Addr) (hd : List Addr), PTs (X.blk s H scope (compEnvC scope cl C X.env) fp) ifs (tT (gx X cur hd) WF tt))
    (he : ∀ (s : Shared) (H : Hp) (C : Addr) (cl : List (Str × Addr)) (fp : List Addr) (hd : List Addr), PE (X.blk s H scope (compEnvC scope cl C X.env) fp) elt (tE (gx X cur hd) WF te))
    (hsl : ∀ i ∈ t.slots, i ∈ own.map (·.2)) (hs : ∀ x, foldedSetIterable iter X.env x = pure x := by intro _; rfl) :
    PE X (.ListComp elt [⟨tg, iter, ifs, 0⟩] scope pos) (tE (gx X cur hid) W (mCompW m (own.map (·.2)) t tt te)) :=
  PE.imp (pe_lc hc hN (pi_list hi) ok hg (fun s H C cl fp => pts_ex (hts s H C cl fp)) (fun s H C cl fp => pe_ex (he s H C cl fp)) hs) fun σ H Q h => by
    obtain ⟨c, S, τ, r, s, o⟩ := h
    refine ⟨c, S, τ, r, s, (Out.bind o).imp fun d c1 S1 H1 f1 o1 v hv => ?_⟩
    unfold compW at o1
    split at o1
    · rename_i n
      obtain ⟨a, rfl, ha⟩ := cel_at hv
      split at o1
      · rename_i xs hx
        obtain ⟨vs, hH, vl⟩ := f1.rep.ok n a _ ha hx
        split at o1
        · rename_i ys S' hk
          split at o1
          · rename_i hd
            have na : a ∉ hid := f1.rep.hl a (mem_live ha hx rfl)
            obtain ⟨r2, ef⟩ := f1.rep.take ha hx rfl
            have s2 : Sl (gx X cur (a :: hid)) (frz (gx X cur (a :: hid)) c1 (S1.set n .dead) H1) c1 σ τ := by
              have := (s.mono f1.ex f1.pre).same (SameM.hide (gx X cur hid) a)
              rw [← ef] at this
              exact this
            have vl2 : Vls (gx X cur (a :: hid)) (frz (gx X cur (a :: hid)) c1 (S1.set n .dead) H1) c1 vs xs := by
              have := vl.same (SameM.hide (gx X cur hid) a)
              rw [← ef] at this
              exact this
            refine ⟨a, rfl, ⟨vs, SqL.of hH⟩, fun p hp => ?_⟩
            refine lc_of (hid := a :: hid) (Qd := fun p H => Q (.ref p) H) (comp_core (g := gx X cur (a :: hid)) (R := fun ys0 _ S0 _ => ys0 = ys ∧ S0 = S') (E := fun _ _ _ => False) (Qd := fun p H => Q (.ref p) H) r2 s2 (Walks.held (g := gx X cur (a :: hid)) List.mem_cons_self hH vl2) hsl (by show Out _ _ _ _ _ _ ((fun xs => noErr (compL t tt te (wipeD τ (List.map (fun x => x.snd) own)) xs [])) xs (List.set S1 n Cell.dead)); rw [hk]; exact fun _ _ _ => ⟨rfl, rfl⟩) (fun p ys0 us c' S0 H' hp hf hHp vlp hR => ?_) p hp) (Tg.rd_mono t)
            obtain ⟨rfl, rfl⟩ := hR H' c' hf.fut
            obtain ⟨r3, ex3, un⟩ := hf.l.rep.bare
            have npa := not_hid r2 hp
            have vl3 : Vls ((gx X cur hid).hide a) (frz ((gx X cur hid).hide a) c' S0 H') c' vs xs := vl2.mono hf.fut.ex hf.fut.pre
            obtain ⟨r4, ef4⟩ := Rep.give (g := gx X cur hid) (x := .lst xs) r3 na (hf.fut.pre _ _ ha) hd rfl ⟨vs, (hf.hid a List.mem_cons_self).trans hH, vl3⟩
            have ex5 : Ex (frz ((gx X cur hid).hide a) c1 (S1.set n .dead) H1) (frz ((gx X cur hid).hide a) c' S0 H') := hf.fut.ex
            rw [ef, ← ef4] at ex5
            have f : Fut (gx X cur hid) c1 S1 H1 c' (S0.set n (.lst xs)) H' := ⟨hf.fut.pre, r4, ex5, fun b hb => hf.hid b (List.mem_cons_of_mem _ hb)⟩
            refine o1 H' c' f _ (.lst (by rw [ef4]; exact (un npa).trans hHp) ?_)
            have := ((vlp.same (SameM.hide _ p).symm).mono ex3 (Pre.refl c')).same (SameM.hide (gx X cur hid) a).symm
            rw [ef4]
            exact this
          · exact o1.elim
        · exact o1.elim
      · exact o1.elim
    · exact o1.elim
end
end ND
set_option maxHeartbeats 1000000
namespace NDS
open PySem PyProof.Rows
abbrev enH1 (h : Heap) (l : Addr) : Heap := h.push { cls := .type "tuple_iterator", data := .fields #[.ref l, .int 0 0] }
abbrev enH2 (h : Heap) (l : Addr) : Heap := (enH1 h l).push { cls := .type "enumerate", data := .fields #[.none, .bool false, .ref h.objs.size, rawInt 0, .none, .none] }
theorem enT_new (l : Addr) (its : Array Value) : Meets (Builtin.«enumerate.__new__» ⟨[.type "enumerate", .ref l], []⟩) fun _ R s => s.heap.IsTuple l its ∧ R (.ok (.ret (.ref (enH1 s.heap l).objs.size))) { s with heap := enH2 s.heap l } :=
  .of_wp fun prog w A R s two => by
    obtain ⟨hp, gl, dd, tk, os⟩ := s
    obtain ⟨ht, fin⟩ := two
    have sb := sub_enumerate
    have go : ∀ {A' : Around} {E : Value → Shared → Prop} {Q : Value → Shared → Prop}, Q (.ref hp.objs.size) ⟨enH1 hp l, gl, dd, tk, os⟩ → wpAny (model prog w) A' (pyIter (.ref l)) Q E ⟨hp, gl, dd, tk, os⟩ := fun q => wpAny_pyIter_tuple (s := ⟨hp, gl, dd, tk, os⟩) ht q
    wp_walk using go
    refine wpAny_stack_any fun st => wpAny_pure ?_
    split
    · rename_i c _ _ _ _ _
      cases (c == Value.type "enumerate") <;> (wp_walk using go; exact ⟨_, rfl, fin⟩)
    · wp_walk using go
      exact ⟨_, rfl, fin⟩
theorem enT_call {prog : Program} {w : World} {A : Around} {E : Value → Shared → Prop} {s : Shared} {l : Addr} {its : Array Value} {Q : Value → Shared → Prop} (ht : s.heap.IsTuple l its)
    (q : IsEnum (enH2 s.heap l) (s.heap.objs.size + 1) s.heap.objs.size 0 .none → (enH2 s.heap l).IsTupleIter s.heap.objs.size l 0 → (∀ b o, s.heap.get? b = some o → (enH2 s.heap l).get? b = some o) → Q (.ref (s.heap.objs.size + 1)) { s with heap := enH2 s.heap l }) :
    wpAny (model prog w) A (call (.type "enumerate") [.ref l]) Q E s := by
  refine callType_new F.called_enumerate (by decide) (F.typeCall_enumerate_1 _) (F.newCall_enumerate_1 _) (fun obj => F.args_object_init_2 obj _) F.entry_enumerate_new (enT_new l its) ⟨ht, ?_⟩
  have sz : (enH1 s.heap l).objs.size = s.heap.objs.size + 1 := Heap.size_push ..
  have top : IsEnum (enH2 s.heap l) (s.heap.objs.size + 1) s.heap.objs.size 0 .none := by rw [← sz]; exact Heap.get?_push_size (enH1 s.heap l) rfl
  show _ ∧ _
  rw [sz]
  exact ⟨⟨_, top, rfl⟩, q top ⟨_, Heap.get?_push_of_some _ (Heap.get?_push_size _ rfl), rfl, rfl⟩ fun b o e => Heap.get?_push_of_some _ (Heap.get?_push_of_some _ e)⟩
end NDS
namespace L2
open PySem PySem.Spec PyProof.Rows
def IteT (K : PySem.W.Frag) (a : Addr) : It where
  go := fun i H => ∃ (xs : List V) (x : V), SqT K H a xs ∧ xs[i]? = some x
  yld := fun i H v H' => ∃ T x, v = .ref T ∧ H T = none ∧ H' = upd H T (.tup [.int (i : Nat), x]) ∧ ∀ xs, SqT K H a xs → xs[i]? = some x
  stop := fun i H => ∃ xs : List V, SqT K H a xs ∧ xs.length ≤ i
theorem turn_enT {P : Program} {w : World} {K : PySem.W.Frag} {elts : List Expr} {kk : Nat} {tpos : Pos} (a e it : Addr) (ea : a ≠ it) (eb : e ≠ a) :
    Turn P w K (.Tuple elts kk tpos) (IteT K a) [e, it] e (fun i h => (∃ old, IsEnum h e it ((i : Nat) : Int) old) ∧ h.IsTupleIter it a i ∧ e ≠ it) where
  mem := by simp
  obj := fun i h st b hb => by
    obtain ⟨⟨old, he⟩, ⟨o, ho, _, hd⟩, _⟩ := st
    rcases (by simpa using hb : b = e ∨ b = it) with rfl | rfl
    · exact ⟨_, he, fun v q => nomatch q⟩
    · exact ⟨o, ho, fun v q => by rw [hd] at q; cases q⟩
  keep := fun i h h' ⟨⟨old, he⟩, hi, ne⟩ k => ⟨⟨old, k e (by simp) _ he⟩, hi.at fun o q => k it (by simp) o q, ne⟩
  item := by
    intro X eP ew eK calm i pins s σ H E I fp ⟨⟨old, he⟩, hit, ne⟩ ⟨xs, x, sq, hx⟩
    subst eP ew eK
    obtain ⟨its, rv, tp, _⟩ := I.tuple sq
    obtain ⟨u, hu, ru⟩ := rv.get hx
    have le : e < s.heap.objs.size := Heap.lt_size he
    have li : it < s.heap.objs.size := by obtain ⟨_, q, _⟩ := hit; exact Heap.lt_size q
    have iL : i < its.toArray.size := by simpa using (List.getElem?_eq_some_iff.mp hu).1
    refine wpAny_pyNext_enum_itemD (Draws.tuple (by simpa using I.ok.hd calm) it a ea its.toArray) he ⟨hit, tp⟩ iL ne (by simp [ne, eb]) fun y h' tk hy out st2 hT sz kp => ?_
    have ey : y = u := by
      have hy' : its[i]? = some y := by simpa using hy
      rw [hu] at hy'; exact (Option.some.inj hy').symm
    subst ey
    refine ⟨_, rfl, wpAny_letOwnedTupleGo_enum (s := { s with heap := h', toks := tk + 1 }) out fun h2 he2 sb => ?_⟩
    have hT2 := (sb.2 _ (Nat.ne_of_gt le)).trans hT
    have new : ObjOk X.prog X.w (upd H s.heap.objs.size (.tup [.int (i : Nat), x])) h2 s.heap.objs.size (.tup [.int (i : Nat), x]) := ⟨by show 2 ≤ sizeLine; decide, [_, _], .cons ⟨_, rfl⟩ (.cons ru .nil), ⟨_, hT2, rfl, _, rfl⟩⟩
    have I1 := I.turnedNew (t' := tk + 1) (ch := [e, it]) (fun b ob hb q => (sb.2 b (fun z => hb (by simp [z]))).trans (kp b ob (fun z => hb (by simp [z])) (fun z => hb (by simp [z])) q)) fp (Nat.le_refl _) new
    refine ⟨.ref s.heap.objs.size, _, I1, rfl, ⟨_, x, rfl, I.hok.fresh (Nat.le_refl _), rfl, fun ys hy => by rw [I.tuple_inj hy sq]; exact hx⟩, ⟨⟨y, ?_⟩, st2.1.at fun o q => (sb.2 it (Ne.symm ne)).trans q, ne⟩, fun b hb => ?_⟩
    · rw [show ((i + 1 : Nat) : Int) = (i : Int) + 1 by omega]; exact he2
    · rw [upd_ne (by rcases (by simpa using hb : b = e ∨ b = it) with rfl | rfl <;> first | exact Nat.ne_of_lt le | exact Nat.ne_of_lt li)]
      exact (fp b hb).1
  done := by
    intro X eP ew eK calm i pins s σ H E I fp ⟨⟨old, he⟩, hit, ne⟩ ⟨xs, sq, hx⟩
    subst eP ew eK
    obtain ⟨its, rv, tp, _⟩ := I.tuple sq
    obtain ⟨f0, f1, f2, f3, f4, f5⟩ := fp it (by simp)
    have hl := rv.length
    have hn : its.toArray[i]? = none := by simp; omega
    have D0 : Draws X.prog X.w X.A.in1 it [it, a] i (fun _ _ => True) (fun j h => j = i ∧ h.IsTupleIter it a i ∧ h.IsTuple a its.toArray) :=
      { live := fun _ _ st => let ⟨o, ho, _⟩ := st.2.1; ⟨o, ho⟩
        frame := fun _ _ _ st hk => ⟨st.1, st.2.1.at fun o e => hk it (by simp) o e, st.2.2.at fun o e => hk a (by simp) o e⟩
        item := fun j s Q E hj st _ => absurd st.1 (Nat.ne_of_lt hj)
        done := fun s Q E st hE => wpAny_nextOf_tuple_end (by simpa using I.ok.hd calm) st.2.1 st.2.2 hn hE }
    exact wpAny_pyNext_enum_endD D0 he ⟨rfl, hit, tp⟩ fun h' eb => ⟨rfl, I.turned (t' := s.toks) (fun b o hb q => eb b o hb q) f0 f1 f3 f4 f5⟩
  self := fun A i s Q E st h => let ⟨⟨_, he⟩, _⟩ := st; wpAny_pyIter_enum he h
def iEnT (K : PySem.W.Frag) (ta : TA) : TI := fun σ H R => ta σ H fun vs H1 => ∃ a xs, vs = [.ref a] ∧ SqT K H1 a xs ∧ R (IteT K a) H1
theorem pi_enT {X : Cx} {e : Expr} {ta : TA} {p pos tpos : Pos} {elts : List Expr} {kk : Nat} (hg : Gl X "enumerate") (hm : X.mg "enumerate" = none) (ha : PA X [e] ta) (hs : starEach [e] X.env = [(false, eval e X.env)] := by rfl) :
    PI X (.Tuple elts kk tpos) (.Call (.Name "enumerate" p) [e] [] pos) (iEnT X.K ta) where
  run := fun pins s σ H R I h => Call_ (ld_blt I hg hm boot_enumerate (PyProof.Rows.callWith_type1 (thn (ha.run pos pins s σ H _ I h) fun us s1 ⟨vs, H1, I1, r1, a, xs, ex, sq, q⟩ => by
    subst ex
    obtain ⟨u, rfl, isL⟩ := vals1 r1
    obtain rfl : u = .ref a := isL
    obtain ⟨its, rv, tp, _⟩ := I1.tuple sq
    have la : a < s1.heap.objs.size := by obtain ⟨_, q, _⟩ := tp; exact Heap.lt_size q
    refine NDS.enT_call tp fun he hit kp => wpAny_pyIter_enum he ?_
    refine ⟨s1.heap.objs.size + 1, [s1.heap.objs.size + 1, s1.heap.objs.size], _, _, H1, rfl, I1.kept (t' := s1.toks) kp, turn_enT a (s1.heap.objs.size + 1) s1.heap.objs.size (Nat.ne_of_lt la) (Nat.ne_of_gt (Nat.lt_succ_of_lt la)), ⟨⟨.none, he⟩, hit, Nat.succ_ne_self _⟩, fun b hb => ?_, q⟩
    have ge : s1.heap.objs.size ≤ b := by
      rcases (by simpa using hb : b = s1.heap.objs.size + 1 ∨ b = s1.heap.objs.size) with rfl | rfl
      · exact Nat.le_add_right _ _
      · exact Nat.le_refl _
    exact I1.fpOk ge (I1.hok.fresh ge)) hs rfl))
end L2
namespace ND
open PySem L2
section
variable {X : Cx} {g : G} {W : WX} {cur : Cur} {hid : List Addr} {c : List Addr} {S : Store} {H : Hp} {a : Expr} {ms : AM} {p pos : Pos}
def enumL : Nat → List D → List D
  | _, [] => []
  | i, x :: xs => .tpo [.int (i : Int), x] :: enumL (i + 1) xs
theorem enumL_len : ∀ (i : Nat) (xs : List D), (enumL i xs).length = xs.length
  | _, [] => rfl
  | i, x :: xs => by rw [enumL, List.length_cons, enumL_len, List.length_cons]
theorem enumL_at : ∀ {i : Nat} {xs : List D} {j : Nat} {d : D}, (enumL i xs)[j]? = some d → ∃ x, xs[j]? = some x ∧ d = .tpo [.int ((i + j : Nat) : Int), x]
  | i, x :: xs, 0, d, h => by cases h; exact ⟨x, rfl, rfl⟩
  | i, x :: xs, j + 1, d, h => by
    obtain ⟨y, h1, h2⟩ := enumL_at (i := i + 1) (xs := xs) (j := j) (by simpa [enumL] using h)
    exact ⟨y, by simpa using h1, by rw [h2, show i + 1 + j = i + (j + 1) by omega]⟩
theorem Walks.enT {q : Addr} {vs : List V} {xs : List D} (h1 : SqT g.K (frz g c S H) q vs) (l1 : Vls g (frz g c S H) c vs xs) : Walks g c S H (IteT g.K q) (enumL 0 xs) where
  go := fun i g' c' S' H' f hi => by
    rw [enumL_len, ← l1.length] at hi
    exact ⟨vs, vs[i], Evl.ex_t frz_ex (Evl.ex_t f.ex h1), by simp⟩
  yld := fun i g' c' S' H' v H2 f ⟨T, x, ev, free, eH, y1⟩ d hd => by
    subst ev eH
    obtain ⟨dx, e1, rfl⟩ := enumL_at hd
    obtain ⟨x', ex, vx⟩ := l1.get e1
    cases ex.symm.trans (y1 vs (Evl.ex_t frz_ex (Evl.ex_t f.ex h1)))
    rw [show (0 + i : Nat) = i by omega]
    exact pair_new f.rep free (.int _) ((vx.mono f.ex f.pre).same f.same)
  stop := fun i g' c' S' H' f hi => by
    rw [enumL_len, ← l1.length] at hi
    exact ⟨vs, Evl.ex_t frz_ex (Evl.ex_t f.ex h1), by omega⟩
def enumD (ds : List D) : M (List D) := match ds with
  | [.tup xs] => pure (enumL 0 xs)
  | _ => M.no
def mEnum (ms : AM) : IM := fun τ => ms τ >>= enumD
theorem di_enum {elts : List Expr} {kk : Nat} {tpos : Pos} (hg : Gl X "enumerate") (hm : X.mg "enumerate" = none) (ha : PA X [a] (tAr (gx X cur hid) W ms)) (hs : starEach [a] X.env = [(false, eval a X.env)] := by rfl) :
    PI X (.Tuple elts kk tpos) (.Call (.Name "enumerate" p) [a] [] pos) (tIt (gx X cur hid) W (mEnum ms)) := PI.imp (pi_enT hg hm ha hs) fun σ H R ⟨c, S, τ, r, s, o⟩ => ⟨c, S, τ, r, s, (Out.bind o).imp fun ds c1 S1 H1 f1 o1 vs hvs => by
  unfold enumD at o1
  split at o1
  · obtain ⟨v, rfl, hv⟩ := vls1 hvs
    cases hv with
    | tup h1 l1 => exact ⟨_, _, rfl, Evl.ex_t frz_ex h1.sq, o1 H1 c1 (Fut.refl f1.rep) _ (Walks.enT (g := gx X cur hid) h1.sq l1)⟩
  · exact o1.elim⟩
end
end ND
set_option maxHeartbeats 1000000
namespace L2
open PySem
def rReprG (K : PySem.W.Frag) : List V → Hp → VK → Prop := fun xs G Q => ∃ x d, xs = [x] ∧ Dp K G x d ∧ d.showable = true ∧ d.hasDict = false ∧ d.depth ≤ 64 ∧ d.shown.length ≤ sizeLine ∧ Q (.str d.shown) G
theorem call_reprG {X : Cx} {k : Nat} (room : RoomG k X.A) : CallR X (.builtin "repr") (rReprG X.K) := fun ps sh st G xs us Q inv rel ⟨x, d, ex, dp, able, nod, dep, few, q⟩ => by
  subst ex
  obtain ⟨u, rfl, isX⟩ := vals1 rel
  obtain ⟨as, rd⟩ := Dp.reads inv d x u dp isX
  have un := room.toRoom.un
  cases u with
  | ref a =>
    exact repr_of_reads' rd able (fun z => by rw [nod] at z; cases z) room.gd (by omega) (fun _ _ e => e) (fun h' t tk kp => ⟨.str d.shown, G, inv.kept (t' := tk) kp, ⟨t, rfl⟩, q⟩) few
  | none => cases rd; exact PySem.P.repr_of_none ⟨.str _, G, inv.tok _, ⟨_, rfl⟩, q⟩
  | bool b => cases rd; exact PySem.P.repr_of_bool ⟨.str _, G, inv.tok _, ⟨_, rfl⟩, q⟩
  | int i t => cases rd; exact PySem.P.repr_of_int (of_decide_eq_true able) ⟨.str _, G, inv.tok _, ⟨_, rfl⟩, q⟩
  | str y t => cases rd; exact PySem.P.repr_of_str ⟨.str _, G, inv.tok _, ⟨_, rfl⟩, q⟩ few
  | _ => cases rd
end L2
namespace ND
open PySem L2
section
variable {g : G}
noncomputable def reprC (z : PyData) : Bool := okP (z.showable = true ∧ z.hasDict = false ∧ z.depth ≤ 64 ∧ z.shown.length ≤ sizeLine ∧ SOk z.shown)
noncomputable def repr1 (x : D) : M D := fun S => match pyD S x with
  | some z => if reprC z = true then .ok (.str z.shown) S else .bad
  | none => .bad
noncomputable def reprD (ds : List D) : M D := match ds with
  | [x] => repr1 x
  | _ => M.no
theorem cd_repr : CbD g (rReprG g.K) reprD := by
  intro c S H vs ds Q E r hv o
  unfold reprD at o
  split at o
  · rename_i x
    obtain ⟨v, rfl, hv1⟩ := vls1 hv
    unfold repr1 at o
    split at o
    · rename_i z hz
      split at o
      · rename_i hc
        obtain ⟨h1, h2, h3, h4, h5⟩ := okP_of hc
        exact ⟨v, z, rfl, (pyD_ok r hv1 hz).1, h1, h2, h3, h4, at_now r o (.str h5)⟩
      · exact o.elim
    · exact o.elim
  · exact o.elim
theorem bt_repr : bootBuiltins "repr" = some (.builtin "repr") := by decide +kernel
end
end ND
set_option maxHeartbeats 1000000
namespace L2
open PySem PySem.Spec PyProof.Rows
section
variable {X : Cx} {o e : Expr} {es : List Expr} {to : TE} {t : TA} {apos cpos : Pos} {name : Str} {id : String} {r : V → List V → Hp → VK → Prop}
def tTup1 (K : PySem.W.Frag) (r : V → List V → Hp → VK → Prop) (to : TE) (t : TA) : TE := fun st G Q => to st G fun x G1 => (∃ a xs, x = .ref a ∧ SqP K G1 a xs) ∧ t st G1 fun xs G2 => r x xs G2 Q
abbrev FewArgs (X : Cx) (cpos : Pos) (es : List Expr) : Prop := ((backTo cpos (starEach es X.env)).all (fun x => !x.1) && (backToKw cpos (keywordEach [] X.env)).all (fun x => x.1.isSome) && decide (es.length + ([] : List Keyword).length + (if ([] : List Keyword).isEmpty then 0 else 1) < 30)) = true
theorem pe_tup1 (slot : Slot "tuple" name id) (isM : typeOf (.builtin id) = pure (.type "method_descriptor")) (m : MtR X id r) (ho : PE X o to) (ha : PA X (e :: es) t) (own : attributeBase o name X.env (eval o X.env) = eval o X.env) (few : FewArgs X cpos (e :: es)) (line : (apos.endLine == cpos.line) = true)
    (plain : starEach (e :: es) X.env = (false, eval e X.env) :: starEach es X.env) (nostar : (backTo cpos (starEach es X.env)).any (·.1) = false) : PE X (.Call (.Attribute o name apos) (e :: es) [] cpos) (tTup1 X.K r to t) where
  run := fun ps sh st G Q inv want => wpAny_Call_method_late own few line rfl (thn (ho.run ps sh st G _ inv want) fun u s1 ⟨x, G1, inv1, isX, ⟨a, xs, ex, sq⟩, q⟩ => by
    subst ex
    obtain rfl : u = .ref a := isX
    obtain ⟨its, ob, n, _, at_, isT, noD, _⟩ := Inv.tupleP inv1 sq
    refine ⟨"tuple", id, F.plainAttrs_tuple, slot, isM, ⟨ob, at_, isT⟩, fun b z => by cases z; exact ⟨ob, at_, noD⟩, ?_⟩
    have args := ha.run cpos ps s1 st G1 _ inv1 q
    rw [plain] at args ⊢
    exact Calls.callWith_builtin (by have z : (false || (backTo cpos (starEach es X.env)).any (·.1)) = false := (by rw [nostar]; rfl); exact z) (Calls.evalArgs_plain (thn args fun us s2 ⟨vs, G2, inv2, rel, q2⟩ => m ps s2 st G2 (.ref a) vs (.ref a) us Q inv2 rfl rel q2)))
end
end L2
namespace ND
open PySem L2
section
variable {X : Cx} {g : G} {W : WX} {e o : Expr} {es : List Expr} {mo : EM} {ms : AM} {pos : Pos} {cur : Cur} {hid : List Addr}
def isTp (x : D) : M Unit := match x with
  | .tup _ => pure ()
  | _ => M.no
def mTupM (f : D → List D → M D) (mo : EM) (ms : AM) : EM := fun τ => mo τ >>= fun x => isTp x >>= fun _ => ms τ >>= fun xs => f x xs
theorem d_tmeth {name : Str} {apos : Pos} {id : String} {r : V → List V → Hp → VK → Prop} {f : D → List D → M D} (slot : Slot "tuple" name id) (hty : typeOf (.builtin id) = pure (.type "method_descriptor")) (hm : MtR X id r) (hf : MtD (gx X cur hid) r f) (ho : PE X o (tE (gx X cur hid) W mo)) (ha : PA X (e :: es) (tAr (gx X cur hid) W ms))
    (h1 : attributeBase o name X.env (eval o X.env) = eval o X.env := by rfl) (h2 : FewArgs X pos (e :: es) := by rfl) (h3 : (apos.endLine == pos.line) = true := by rfl) (h4 : starEach (e :: es) X.env = (false, eval e X.env) :: starEach es X.env := by rfl) (h5 : (backTo pos (starEach es X.env)).any (·.1) = false := by rfl) :
    PE X (.Call (.Attribute o name apos) (e :: es) [] pos) (tE (gx X cur hid) W (mTupM f mo ms)) :=
  PE.imp (pe_tup1 slot hty hm ho ha h1 h2 h3 h4 h5) fun σ H Q h => tE_thenS (k := fun x τ => isTp x >>= fun _ => ms τ >>= fun xs => f x xs) h fun c S H1 τ v d r1 s1 v1 o1 => by
    cases v1 with
    | tup h1 l1 =>
      have o2 : Out (gx X cur hid) c S H1 _ _ ((ms τ >>= fun xs => f (.tup _) xs) S) := o1
      have v1 : Val (gx X cur hid) (frz (gx X cur hid) c S H1) c (.ref _) (.tup _) := .tup h1 l1
      refine ⟨⟨_, _, rfl, sqP_mono (g := gx X cur hid) frz_ex h1⟩, c, S, τ, r1, s1, (Out.bind o2).imp fun ds c2 S2 H2 f2 o3 vs hvs => hf c2 S2 H2 _ _ vs ds Q _ f2.rep (f2.val v1) hvs o3⟩
    | _ => exact o1.elim
def idxS (z : Str) : List Str → Nat → Option Nat
  | [], _ => none
  | y :: ys, j => if y = z then some j else idxS z ys (j + 1)
theorem idxS_at {z : Str} : ∀ {ys : List Str} {j n : Nat}, idxS z ys j = some n → ∃ m, n = j + m ∧ ys[m]? = some z ∧ ∀ i, i < m → ys[i]? ≠ some z
  | y :: ys, j, n, h => by
    unfold idxS at h
    split at h
    · rename_i e
      cases h
      exact ⟨0, rfl, by simp [e], fun i hi => absurd hi (Nat.not_lt_zero i)⟩
    · rename_i e
      obtain ⟨m, h1, h2, h3⟩ := idxS_at h
      refine ⟨m + 1, by omega, by simpa using h2, fun i hi => ?_⟩
      cases i with
      | zero => simpa using e
      | succ i => simpa using h3 i (by omega)
def optD : Option D → M D
  | some d => pure d
  | none => M.no
def indexO (xs : List D) (z : Str) : Option D := (strsOf xs).bind fun ys => (idxS z ys 0).map fun j => .int (j : Nat)
def indexTD (x : D) (ds : List D) : M D := match x, ds with
  | .tup xs, [.str z] => optD (indexO xs z)
  | _, _ => M.no
theorem md_indexT : MtD g (fun x xs H Q => ∃ p, ∃ ys : List Str, ∃ z j, x = .ref p ∧ xs = [.str z] ∧ SqT g.K H p (ys.map V.str) ∧ ys[j]? = some z ∧ (∀ m, m < j → ys[m]? ≠ some z) ∧ Q (.int (j : Nat)) H) indexTD := by
  intro c S H v d vs ds Q E r hv hvs o
  unfold indexTD at o
  split at o
  · rename_i xs z
    obtain ⟨u, rfl, hu⟩ := vls1 hvs
    cases hu
    cases hv with
    | tup h1 l1 =>
      unfold indexO at o
      cases hy : strsOf xs with
      | none => rw [hy] at o; exact o.elim
      | some ys =>
        obtain ⟨rfl, _⟩ := strs_val l1 hy
        cases hj : idxS z ys 0 with
        | none => rw [hy] at o; simp only [Option.bind_some, hj, Option.map_none] at o; exact o.elim
        | some j =>
          rw [hy] at o
          simp only [Option.bind_some, hj, Option.map_some] at o
          obtain ⟨m, rfl, h2, h3⟩ := idxS_at hj
          exact ⟨_, ys, z, _, rfl, rfl, Evl.ex_t frz_ex h1.sq, by simpa using h2, fun i hi => h3 i (by omega), at_now r o (.int _)⟩
  · exact o.elim
end
end ND
namespace NA
open PySem L2 ND
noncomputable def b_is_name : SM := (sRet (mAnd (mCall isiD (mCons (mVar 0) (mCons (mC (.ty "str")) mNil))) (mAnd (mChain leD leD (mC (.int 1)) (mCall lenSD (mCons (mVar 0) mNil)) (mC (.int 8))) (mCall allD (mCons (mComp (mWalkS (mVar 0)) [1] (.nm 1) tYesD (mBin (inD false) (mVar 1) (mC (.str "abcdefghijklmnopqrstuvwxyz")))) mNil)))))
noncomputable def m_is_name : List D → M D := mFn ["thing", "sign"] b_is_name
noncomputable def b_are_names : SM := (sThen (sIf (mTOr (mTNot (mAsT (mCall isiD (mCons (mVar 0) (mCons (mC (.ty "tuple")) mNil))))) (mTOr (mAsT (mBin gtD (mCall lenSD (mCons (mVar 0) mNil)) (mC (.int 10)))) (mTNot (mAsT (mCall allD (mCons (mComp (mWalkT (mVar 0)) [1] (.nm 1) tYesD (mCall (arity 1 m_is_name) (mCons (mVar 1) mNil))) mNil)))))) (sRet (mC (.bl false))) sSkip) (sRet (mBin (eqvD false) (mCall lenSD (mCons (mCall setOD (mCons (mVar 0) mNil)) mNil)) (mCall lenSD (mCons (mVar 0) mNil)))))
noncomputable def m_are_names : List D → M D := mFn ["thing", "one"] b_are_names
noncomputable def b_is_filling : SM := (sRet (mAnd (mCall isiD (mCons (mVar 1) (mCons (mC (.ty "tuple")) mNil))) (mAnd (mBin (eqvD false) (mCall lenSD (mCons (mVar 1) mNil)) (mCall lenSD (mCons (mVar 0) mNil))) (mCall allD (mCons (mComp (mWalkT (mVar 1)) [2] (.nm 2) tYesD (mCall isiD (mCons (mVar 2) (mCons (mC (.ty "bool")) mNil)))) mNil)))))
noncomputable def m_is_filling : List D → M D := mFn ["names", "thing", "one"] b_is_filling
noncomputable def b_mask_of : SM := (sThen (sSet 2 (mCall dictAD (mCons (mVar 1) mNil))) (sThen (sAsg2 3 4 (mC (.int 1))) (sThen (sFor (mWalkT (mUn revTD (mVar 0))) (.nm 5) (sThen (sIf (mAsT (mBin (inD true) (mVar 5) (mVar 2))) (sAug 3 orD (mBin shlD (mVar 3) (mVar 4))) (sIf (mTru (mBin ixD (mVar 2) (mVar 5))) (sAug 3 shlD (mVar 4)) sSkip)) (sAug 4 mulID (mC (.int 2))))) (sRet (mVar 3)))))
noncomputable def m_mask_of : List D → M D := mFn ["names", "pairs", "wanted", "mask", "size", "name"] b_mask_of
noncomputable def b_filling_at : SM := (sThen (sSet 2 (mCall lenSD (mCons (mVar 0) mNil))) (sRet (mCall tupleD (mCons (mComp (mRng1 (mCons (mVar 2) mNil)) [3] (.nm 3) tYesD (mBin (eqvD false) (mBin andD (mBin shrD (mVar 1) (mBin subD (mBin subD (mVar 2) (mC (.int 1))) (mVar 3))) (mC (.int 1))) (mC (.int 1)))) mNil))))
noncomputable def m_filling_at : List D → M D := mFn ["names", "place", "many", "at"] b_filling_at
noncomputable def b_place_of : SM := (sThen (sSet 1 (mC (.int 0))) (sThen (sFor (mWalkT (mVar 0)) (.nm 2) (sSet 1 (mBin addD (mBin mulD (mC (.int 2)) (mVar 1)) (mCall intCD (mCons (mVar 2) mNil))))) (sRet (mVar 1))))
noncomputable def m_place_of : List D → M D := mFn ["filling", "place", "truth"] b_place_of
noncomputable def b_Lot____init__ : SM := (sThen (sIf (mTNot (mAsT (mCall (arity 1 m_are_names) (mCons (mVar 1) mNil)))) (sRaise "NoHouse" "part" (mC (.str "names"))) sSkip) (sThen (sFldD ["Lot"] "names" (mVar 0) (mVar 1)) (sFldD ["Lot"] "mask" (mVar 0) (mCall (arity 2 m_mask_of) (mCons (mVar 1) (mCons (mTup mNil) mNil))))))
noncomputable def m_Lot____init__ : List D → M D := mFn ["self", "names"] b_Lot____init__
noncomputable def b_lot_of : SM := (sThen (sSet 2 (mMake "Lot" 2 m_Lot____init__ (mCons (mVar 0) mNil))) (sThen (sFldD ["Lot"] "mask" (mVar 2) (mVar 1)) (sRet (mVar 2))))
noncomputable def m_lot_of : List D → M D := mFn ["names", "mask", "lot"] b_lot_of
noncomputable def b_Lot__barred : SM := (sRet (mCall (arity 2 m_lot_of) (mCons (mUn (fldD ["Lot"] "names") (mVar 0)) (mCons (mBin andD (mUn (fldD ["Lot"] "mask") (mVar 0)) (mUn invD (mCall (arity 2 m_mask_of) (mCons (mUn (fldD ["Lot"] "names") (mVar 0)) (mCons (mVar 1) mNil))))) mNil))))
noncomputable def m_Lot__barred : List D → M D := mFn ["self", "tie"] b_Lot__barred
noncomputable def b_Lot__fitted : SM := (sRet (mCall (arity 2 m_lot_of) (mCons (mUn (fldD ["Lot"] "names") (mVar 0)) (mCons (mBin andD (mUn (fldD ["Lot"] "mask") (mVar 0)) (mCall (arity 2 m_mask_of) (mCons (mUn (fldD ["Lot"] "names") (mVar 0)) (mCons (mVar 1) mNil)))) mNil))))
noncomputable def m_Lot__fitted : List D → M D := mFn ["self", "pairs"] b_Lot__fitted
noncomputable def b_Lot__has : SM := (sRet (mAnd (mCall (arity 2 m_is_filling) (mCons (mUn (fldD ["Lot"] "names") (mVar 0)) (mCons (mVar 1) mNil))) (mBin (eqvD false) (mBin andD (mBin shrD (mUn (fldD ["Lot"] "mask") (mVar 0)) (mCall (arity 1 m_place_of) (mCons (mVar 1) mNil))) (mC (.int 1))) (mC (.int 1)))))
noncomputable def m_Lot__has : List D → M D := mFn ["self", "filling"] b_Lot__has
noncomputable def b_Lot__fillings : SM := (sRet (mCompC (mRng1 (mCons (mBin shlD (mC (.int 1)) (mCall lenSD (mCons (mUn (fldD ["Lot"] "names") (mVar 0)) mNil))) mNil)) [1] (.nm 1) (mTru (mBin andD (mBin shrD (mUn (fldD ["Lot"] "mask") (mVar 0)) (mVar 1)) (mC (.int 1)))) (mCall (arity 2 m_filling_at) (mCons (mUn (fldD ["Lot"] "names") (mVar 0)) (mCons (mVar 1) mNil)))))
noncomputable def m_Lot__fillings : List D → M D := mFn ["self", "place"] b_Lot__fillings
noncomputable def b_Lot____len__ : SM := (sRet (mCall lenSD (mCons (mMethI "Lot" "fillings" 1 m_Lot__fillings (mVar 0) mNil) mNil)))
noncomputable def m_Lot____len__ : List D → M D := mFn ["self"] b_Lot____len__
noncomputable def b_law_bag : SM := (sThen (sAsg (.tp [(.nm 4), (.nm 5)]) (mTup (mCons (mC (.int 0)) (mCons (mTup (mCons (mC (.int 2147483629)) (mCons (mC (.int 2147483587)) (mCons (mC (.int 2147483579)) (mCons (mC (.int 2147483563)) (mCons (mC (.int 2147483549)) (mCons (mC (.int 2147483543)) (mCons (mC (.int 2147483497)) (mCons (mC (.int 2147483489)) mNil))))))))) mNil)))) (sThen (sIf (mAsT (mBin ltD (mVar 1) (mCall lenSD (mCons (mVar 0) mNil)))) (sSet 4 (mBin ixD (mVar 0) (mVar 1))) sSkip) (sThen (sSet 2 (mIf (mAsT (mBin geD (mCall absD (mCons (mVar 4) mNil)) (mBin powD (mC (.int 10)) (mC (.int 18))))) (mCall absD (mCons (mVar 4) mNil)) (mC (.int 0)))) (sThen (sSet 3 (mBin modD (mBin powD (mBin addD (mBin addD (mBin modD (mVar 4) (mC (.int 2147483647))) (mBin mulD (mC (.int 104729)) (mVar 1))) (mC (.int 7))) (mC (.int 5))) (mBin ixD (mVar 5) (mBin modD (mVar 1) (mC (.int 8)))))) (sRet (mLstC (mCons (mVar 2) (mCons (mBin modD (mBin powD (mBin addD (mBin addD (mBin mulD (mVar 3) (mC (.int 48271))) (mBin mulD (mC (.int 7919)) (mVar 1))) (mC (.int 11))) (mC (.int 3))) (mC (.int 2147483647))) mNil))))))))
noncomputable def m_law_bag : List D → M D := mFn ["_law_script", "_law_at", "_law_great", "_law_mixed", "_law_cell", "_law_primes"] b_law_bag
noncomputable def b_law_take : SM := (sThen (sIf (mAsT (mBin gtD (mBin ixD (mVar 0) (mC (.int 0))) (mC (.int 0)))) (sThen (sSet 2 (mBin modD (mBin ixD (mVar 0) (mC (.int 0))) (mVar 1))) (sThen (sPut (mVar 0) (mC (.int 0)) (mBin fdivD (mBin ixD (mVar 0) (mC (.int 0))) (mVar 1))) (sRet (mVar 2)))) sSkip) (sThen (sPut (mVar 0) (mC (.int 1)) (mBin modD (mBin addD (mBin mulD (mBin ixD (mVar 0) (mC (.int 1))) (mC (.int 48271))) (mC (.int 11))) (mC (.int 2147483647)))) (sRet (mBin modD (mBin modD (mBin powD (mBin fdivD (mBin ixD (mVar 0) (mC (.int 1))) (mC (.int 8))) (mC (.int 3))) (mC (.int 2147483629))) (mVar 1)))))
noncomputable def m_law_take : List D → M D := mFn ["_law_bag_here", "_law_many", "_law_digit"] b_law_take
noncomputable def b_law_names : SM := (sThen (sSet 2 (mC (.str "abcdefghijklmnopqrstuvwxyz"))) (sThen (sSet 3 (mMeth "str" joinD (mC (.str "")) (mCons (mComp (mRng1 (mCons (mBin ixD (mLst (mCons (mC (.int 0)) (mCons (mC (.int 0)) (mCons (mC (.int 1)) (mCons (mC (.int 2)) (mCons (mC (.int 7)) mNil)))))) (mCall (arity 2 m_law_take) (mCons (mVar 0) (mCons (mC (.int 5)) mNil)))) mNil)) [5] (.nm 5) tYesD (mBin ixD (mVar 2) (mCall (arity 2 m_law_take) (mCons (mVar 0) (mCons (mC (.int 26)) mNil))))) mNil))) (sThen (sPar3 6 7 8 (mCons (mCall (arity 2 m_law_take) (mCons (mVar 0) (mCons (mBin addD (mCall lenSD (mCons (mVar 3) mNil)) (mC (.int 1))) mNil))) (mCons (mCall (arity 2 m_law_take) (mCons (mVar 0) (mCons (mC (.int 26)) mNil))) (mCons (mBin ixD (mLst (mCons (mC (.int 1)) (mCons (mC (.int 3)) (mCons (mC (.int 5)) (mCons (mC (.int 25)) mNil))))) (mCall (arity 2 m_law_take) (mCons (mVar 0) (mCons (mC (.int 4)) mNil)))) mNil)))) (sThen (sSet 4 (mLstC mNil)) (sThen (sFor (mRng1 (mCons (mVar 1) mNil)) (.nm 5) (sThen (sSet 9 (mBin ixD (mVar 2) (mBin modD (mBin addD (mVar 7) (mBin mulD (mVar 8) (mVar 5))) (mC (.int 26))))) (sExpr (mMeth "list" appendD (mVar 4) (mCons (mBin addD (mBin addD (mSl (mVar 3) mNoPart (mPart (mVar 6))) (mVar 9)) (mSl (mVar 3) (mPart (mVar 6)) mNoPart)) mNil))))) (sRet (mCall tupleD (mCons (mVar 4) mNil))))))))
noncomputable def m_law_names : List D → M D := mFn ["_law_bag_here", "_law_many", "_law_letters", "_law_stem", "_law_found", "_law_k", "_law_spot", "_law_first", "_law_pace", "_law_other"] b_law_names
noncomputable def b_law_any : SM := (sThen (sSet 1 (mLst (mCons (mC .non) (mCons (mC (.bl true)) (mCons (mC (.bl false)) (mCons (mC (.int 0)) (mCons (mC (.int 1)) (mCons (mUn negD (mC (.int 1))) (mCons (mBin powD (mC (.int 10)) (mC (.int 59))) (mCons (mC (.str "")) (mCons (mC (.str "A")) (mCons (mC (.str "a b")) (mCons (mC (.str "ninelongs")) (mCons (mC (.str "a1")) (mCons (mLst mNil) (mCons (mLst (mCons (mC (.str "a")) mNil)) (mCons (mTup (mCons (mC (.int 1)) mNil)) (mCons (mTup (mCons (mC .non) mNil)) (mCons (mTup (mCons (mTup mNil) mNil)) mNil))))))))))))))))))) (sRet (mBin ixD (mBin addD (mVar 1) (mLst (mCons (mC (.str "a-")) (mCons (mTup (mCons (mC (.str "a")) (mCons (mC (.int 1)) mNil))) (mCons (mLst (mCons (mTup (mCons (mC (.str "a")) (mCons (mC (.bl true)) mNil))) mNil)) (mCons (mTup (mCons (mC (.bl true)) (mCons (mC (.int 0)) mNil))) mNil)))))) (mCall (arity 2 m_law_take) (mCons (mVar 0) (mCons (mC (.int 21)) mNil))))))
noncomputable def m_law_any : List D → M D := mFn ["_law_bag_here", "_law_some"] b_law_any
noncomputable def b_law_truth : SM := (sRet (mAnd (mCall isiD (mCons (mVar 0) (mCons (mC (.ty "bool")) mNil))) (mBin (eqvD false) (mVar 0) (mVar 1))))
noncomputable def m_law_truth : List D → M D := mFn ["_law_told", "_law_due"] b_law_truth
noncomputable def b_law_pairs : SM := (sThen (sSet 4 (mSortSet (mComp (mRng1 (mCons (mBin addD (mVar 2) (mCall (arity 2 m_law_take) (mCons (mVar 0) (mCons (mBin addD (mBin subD (mVar 3) (mVar 2)) (mC (.int 1))) mNil)))) mNil)) [6] (.nm 6) tYesD (mCall (arity 2 m_law_take) (mCons (mVar 0) (mCons (mCall lenSD (mCons (mVar 1) mNil)) mNil)))))) (sRet (mCall tupleD (mCons (mComp (mWalkL (mVar 4)) [5] (.nm 5) tYesD (mTup (mCons (mBin ixD (mVar 1) (mVar 5)) (mCons (mBin (eqvD false) (mCall (arity 2 m_law_take) (mCons (mVar 0) (mCons (mC (.int 2)) mNil))) (mC (.int 1))) mNil)))) mNil))))
noncomputable def m_law_pairs : List D → M D := mFn ["_law_bag_here", "_law_names_here", "_law_fewest", "_law_most", "_law_places", "_law_place", "_law_turn"] b_law_pairs
noncomputable def b_law_fillings : SM := (sThen (sSet 1 (mLst (mCons (mTup mNil) mNil))) (sThen (sFor (mRng1 (mCons (mVar 0) mNil)) (.nm 2) (sThen (sSet 3 (mLst mNil)) (sThen (sFor (mWalkL (mVar 1)) (.nm 4) (sSet 3 (mBin addD (mVar 3) (mLst (mCons (mBin addD (mVar 4) (mTup (mCons (mC (.bl false)) mNil))) (mCons (mBin addD (mVar 4) (mTup (mCons (mC (.bl true)) mNil))) mNil)))))) (sSet 1 (mVar 3))))) (sRet (mVar 1))))
noncomputable def m_law_fillings : List D → M D := mFn ["_law_many", "_law_found", "_law_turn", "_law_longer", "_law_filling"] b_law_fillings
noncomputable def b_law_fits : SM := (sThen (sSet 3 (mCall dictAD (mCons (mComp (mZip (mCons (mVar 0) (mCons (mVar 1) mNil))) [4, 5] (.tp [(.nm 4), (.nm 5)]) tYesD (mTup (mCons (mVar 4) (mCons (mVar 5) mNil)))) mNil))) (sRet (mCall allD (mCons (mComp (mWalkT (mVar 2)) [4, 5] (.tp [(.nm 4), (.nm 5)]) tYesD (mBin (eqvD false) (mBin ixD (mVar 3) (mVar 4)) (mVar 5))) mNil))))
noncomputable def m_law_fits : List D → M D := mFn ["_law_names_here", "_law_filling", "_law_pairs_here", "_law_there", "_law_name", "_law_truth_here"] b_law_fits
noncomputable def b_law_is_lot : SM := (sThen (sSet 2 (mMethI "Lot" "fillings" 1 m_Lot__fillings (mVar 0) mNil)) (sThen (sIf (mTOr (mTNot (mAsT (mCall isiD (mCons (mVar 2) (mCons (mC (.ty "list")) mNil))))) (mTOr (mAsT (mBin (eqvD true) (mVar 2) (mVar 1))) (mTOr (mAsT (mBin (eqvD true) (mCall (lenOD "Lot" m_Lot____len__) (mCons (mVar 0) mNil)) (mCall lenSD (mCons (mVar 1) mNil)))) (mAsT (mBin (eqvD true) (mCall (boolOD "Lot" m_Lot____len__) (mCons (mVar 0) mNil)) (mBin (eqvD true) (mVar 1) (mLst mNil))))))) (sRet (mC (.bl false))) sSkip) (sThen (sIf (mTNot (mAsT (mCall allD (mCons (mCompW (mVar 2) [3] (.nm 3) tYesD (mAnd (mCall isiD (mCons (mVar 3) (mCons (mC (.ty "tuple")) mNil))) (mCall allD (mCons (mComp (mWalkT (mVar 3)) [4] (.nm 4) tYesD (mCall isiD (mCons (mVar 4) (mCons (mC (.ty "bool")) mNil)))) mNil)))) mNil)))) (sRet (mC (.bl false))) sSkip) (sThen (sExpr (mMeth "list" appendD (mVar 2) (mCons (mC .non) mNil))) (sThen (sExpr (mMeth "list" reverseD (mVar 2) mNil)) (sRet (mBin (eqvD false) (mMethI "Lot" "fillings" 1 m_Lot__fillings (mVar 0) mNil) (mVar 1))))))))
noncomputable def m_law_is_lot : List D → M D := mFn ["_law_lot", "_law_due", "_law_told", "_law_one", "_law_truth_here"] b_law_is_lot
noncomputable def b_law_has_right : SM := (sThen (sFor (mRng1 (mCons (mC (.int 4)) mNil)) (.nm 4) (sThen (sSet 5 (mCall tupleD (mCons (mComp (mWalkT (mVar 2)) [6] (.nm 6) tYesD (mBin (eqvD false) (mCall (arity 2 m_law_take) (mCons (mVar 0) (mCons (mC (.int 2)) mNil))) (mC (.int 1)))) mNil))) (sIf (mTOr (mTNot (mAsT (mCall (arity 2 m_law_truth) (mCons (mMethI "Lot" "has" 2 m_Lot__has (mVar 1) (mCons (mVar 5) mNil)) (mCons (mBin (inD false) (mVar 5) (mVar 3)) mNil))))) (mAsT (mBin (isD true) (mMethI "Lot" "has" 2 m_Lot__has (mVar 1) (mCons (mCall listD (mCons (mVar 5) mNil)) mNil)) (mC (.bl false))))) (sRet (mC (.bl false))) sSkip))) (sThen (sIf (mTNot (mAsT (mCall (arity 2 m_law_truth) (mCons (mMethI "Lot" "has" 2 m_Lot__has (mVar 1) (mCons (mCall tupleD (mCons (mComp (mWalkT (mVar 5)) [7] (.nm 7) tYesD (mCall intCD (mCons (mVar 7) mNil))) mNil)) mNil)) (mCons (mAnd (mBin (eqvD false) (mVar 5) (mTup mNil)) (mBin (eqvD true) (mVar 3) (mLst mNil))) mNil))))) (sRet (mC (.bl false))) sSkip) (sRet (mAnd (mBin (isD false) (mMethI "Lot" "has" 2 m_Lot__has (mVar 1) (mCons (mCall (arity 1 m_law_any) (mCons (mVar 0) mNil)) mNil)) (mC (.bl false))) (mBin (isD false) (mMethI "Lot" "has" 2 m_Lot__has (mVar 1) (mCons (mBin addD (mVar 5) (mTup (mCons (mC (.bl true)) mNil))) mNil)) (mC (.bl false)))))))
noncomputable def m_law_has_right : List D → M D := mFn ["_law_bag_here", "_law_lot", "_law_names_here", "_law_due", "_law_turn", "_law_filling", "_law_name", "_law_truth_here"] b_law_has_right
noncomputable def b_is_pair : SM := (sThen (sIf (mTOr (mTNot (mAsT (mCall isiD (mCons (mVar 1) (mCons (mC (.ty "tuple")) mNil))))) (mTOr (mAsT (mBin (eqvD true) (mCall lenSD (mCons (mVar 1) mNil)) (mC (.int 2)))) (mTOr (mTNot (mAsT (mCall (arity 1 m_is_name) (mCons (mBin ixD (mVar 1) (mC (.int 0))) mNil)))) (mTNot (mAsT (mCall isiD (mCons (mBin ixD (mVar 1) (mC (.int 1))) (mCons (mC (.ty "bool")) mNil)))))))) (sRet (mC (.bl false))) sSkip) (sRet (mBin (inD false) (mBin ixD (mVar 1) (mC (.int 0))) (mVar 0))))
noncomputable def m_is_pair : List D → M D := mFn ["names", "thing"] b_is_pair
noncomputable def b_are_pairs : SM := (sThen (sIf (mTOr (mTNot (mAsT (mCall isiD (mCons (mVar 1) (mCons (mC (.ty "tuple")) mNil))))) (mTNot (mAsT (mCall allD (mCons (mComp (mWalkT (mVar 1)) [5] (.nm 5) tYesD (mCall (arity 2 m_is_pair) (mCons (mVar 0) (mCons (mVar 5) mNil)))) mNil))))) (sRet (mC (.bl false))) sSkip) (sThen (sSet 2 (mComp (mWalkT (mVar 1)) [3, 4] (.tp [(.nm 3), (.nm 4)]) tYesD (mTupM indexTD (mVar 0) (mCons (mVar 3) mNil)))) (sRet (mCall allD (mCons (mComp (mZip (mCons (mVar 2) (mCons (mSl (mVar 2) (mPart (mC (.int 1))) mNoPart) mNil))) [5, 6] (.tp [(.nm 5), (.nm 6)]) tYesD (mBin ltD (mVar 5) (mVar 6))) mNil)))))
noncomputable def m_are_pairs : List D → M D := mFn ["names", "thing", "places", "name", "truth", "one", "other"] b_are_pairs
noncomputable def b_is_tie : SM := (sRet (mAnd (mCall (arity 2 m_are_pairs) (mCons (mVar 0) (mCons (mVar 1) mNil))) (mChain leD leD (mC (.int 1)) (mCall lenSD (mCons (mVar 1) mNil)) (mC (.int 4)))))
noncomputable def m_is_tie : List D → M D := mFn ["names", "thing"] b_is_tie
noncomputable def b_law_are_pairs : SM := (sThen (sIf (mTNot (mAsT (mCall isiD (mCons (mVar 1) (mCons (mC (.ty "tuple")) mNil))))) (sRet (mC (.bl false))) sSkip) (sThen (sSet 2 (mLstC (mCons (mUn negD (mC (.int 1))) mNil))) (sThen (sFor (mWalkT (mVar 1)) (.nm 3) (sThen (sIf (mTOr (mTNot (mAsT (mCall isiD (mCons (mVar 3) (mCons (mC (.ty "tuple")) mNil))))) (mTOr (mAsT (mBin (eqvD true) (mCall lenSD (mCons (mVar 3) mNil)) (mC (.int 2)))) (mTNot (mAsT (mCall isiD (mCons (mBin ixD (mVar 3) (mC (.int 1))) (mCons (mC (.ty "bool")) mNil))))))) (sRet (mC (.bl false))) sSkip) (sThen (sIf (mTOr (mTNot (mAsT (mCall isiD (mCons (mBin ixD (mVar 3) (mC (.int 0))) (mCons (mC (.ty "str")) mNil))))) (mTOr (mAsT (mBin (inD true) (mBin ixD (mVar 3) (mC (.int 0))) (mVar 0))) (mAsT (mBin leD (mTupM indexTD (mVar 0) (mCons (mBin ixD (mVar 3) (mC (.int 0))) mNil)) (mBin ixD (mVar 2) (mUn negD (mC (.int 1)))))))) (sRet (mC (.bl false))) sSkip) (sExpr (mMeth "list" appendD (mVar 2) (mCons (mTupM indexTD (mVar 0) (mCons (mBin ixD (mVar 3) (mC (.int 0))) mNil)) mNil)))))) (sRet (mC (.bl true))))))
noncomputable def m_law_are_pairs : List D → M D := mFn ["_law_names_here", "_law_thing", "_law_places", "_law_one"] b_law_are_pairs
noncomputable def b_law_is_filling : SM := (sThen (sIf (mTOr (mTNot (mAsT (mCall isiD (mCons (mVar 1) (mCons (mC (.ty "tuple")) mNil))))) (mAsT (mBin (eqvD true) (mCall lenSD (mCons (mVar 1) mNil)) (mCall lenSD (mCons (mVar 0) mNil))))) (sRet (mC (.bl false))) sSkip) (sRet (mCall allD (mCons (mComp (mWalkT (mVar 1)) [2] (.nm 2) tYesD (mCall isiD (mCons (mVar 2) (mCons (mC (.ty "bool")) mNil)))) mNil))))
noncomputable def m_law_is_filling : List D → M D := mFn ["_law_names_here", "_law_thing", "_law_one"] b_law_is_filling
noncomputable def b_law_spoilt : SM := (sThen (sPar3 5 6 7 (mCons (mCall (arity 2 m_law_take) (mCons (mVar 0) (mCons (mC (.int 8)) mNil))) (mCons (mCall (arity 2 m_law_take) (mCons (mVar 0) (mCons (mBin addD (mCall lenSD (mCons (mVar 1) mNil)) (mC (.int 1))) mNil))) (mCons (mCall (arity 2 m_law_take) (mCons (mVar 0) (mCons (mBin addD (mCall lenSD (mCons (mVar 1) mNil)) (mC (.int 1))) mNil))) mNil)))) (sThen (sSet 2 (mIf (mAsT (mBin ltD (mVar 6) (mCall lenSD (mCons (mVar 1) mNil)))) (mBin ixD (mVar 1) (mVar 6)) (mTup (mCons (mC (.str "a")) (mCons (mC (.bl true)) mNil))))) (sThen (sSet 3 (mIf (mAsT (mBin ltD (mVar 7) (mCall lenSD (mCons (mVar 1) mNil)))) (mBin ixD (mVar 1) (mVar 7)) (mTup (mCons (mC (.bl true)) (mCons (mC (.str "a")) mNil))))) (sThen (sIf (mAsT (mBin (eqvD false) (mVar 5) (mC (.int 0)))) (sRet (mBin addD (mBin addD (mBin addD (mBin addD (mSl (mVar 1) mNoPart (mPart (mVar 6))) (mTup (mCons (mVar 3) mNil))) (mSl (mVar 1) (mPart (mBin addD (mVar 6) (mC (.int 1)))) (mPart (mVar 7)))) (mTup (mCons (mVar 2) mNil))) (mSl (mVar 1) (mPart (mBin addD (mVar 7) (mC (.int 1)))) mNoPart))) sSkip) (sThen (sIf (mAsT (mBin (eqvD false) (mVar 5) (mC (.int 1)))) (sRet (mBin addD (mBin addD (mSl (mVar 1) mNoPart (mPart (mVar 6))) (mTup (mCons (mVar 2) mNil))) (mSl (mVar 1) (mPart (mVar 6)) mNoPart))) sSkip) (sThen (sIf (mAsT (mBin (eqvD false) (mVar 5) (mC (.int 2)))) (sRet (mBin addD (mSl (mVar 1) mNoPart (mPart (mVar 6))) (mSl (mVar 1) (mPart (mBin addD (mVar 6) (mC (.int 1)))) mNoPart))) sSkip) (sThen (sIf (mAsT (mBin (eqvD false) (mVar 5) (mC (.int 3)))) (sRet (mCall listD (mCons (mVar 1) mNil))) sSkip) (sThen (sSet 4 (mLst (mCons (mCall (arity 1 m_law_any) (mCons (mVar 0) mNil)) (mCons (mVar 2) (mCons (mVar 2) mNil))))) (sThen (sIf (mAsT (mCall isiD (mCons (mVar 2) (mCons (mC (.ty "tuple")) mNil)))) (sSet 4 (mLst (mCons (mTup (mCons (mBin ixD (mVar 2) (mC (.int 0))) (mCons (mCall intCD (mCons (mBin (isD false) (mBin ixD (mVar 2) (mC (.int 1))) (mC (.bl true))) mNil)) mNil))) (mCons (mCall listD (mCons (mVar 2) mNil)) (mCons (mIf (mAsT (mBin (isD true) (mBin ixD (mVar 2) (mC (.int 0))) (mC (.bl true)))) (mTup (mCons (mBin addD (mBin ixD (mVar 2) (mC (.int 0))) (mC (.str "q"))) (mCons (mC (.bl true)) mNil))) (mC (.int 0))) mNil))))) sSkip) (sRet (mBin addD (mBin addD (mSl (mVar 1) mNoPart (mPart (mVar 6))) (mTup (mCons (mBin ixD (mBin addD (mVar 4) (mLst (mCons (mCall (arity 1 m_law_any) (mCons (mVar 0) mNil)) mNil))) (mBin subD (mVar 5) (mC (.int 4)))) mNil))) (mSl (mVar 1) (mPart (mBin addD (mVar 6) (mC (.int 1)))) mNoPart))))))))))))
noncomputable def m_law_spoilt : List D → M D := mFn ["_law_bag_here", "_law_thing", "_law_one", "_law_two", "_law_put", "_law_way", "_law_place", "_law_other"] b_law_spoilt
end NA
set_option maxHeartbeats 1000000
namespace NDS
open PySem PyProof.Rows PpSet
section
variable {prog : Program} {w : World} {A : Around}
theorem bools_in {I : Addr} {fp wr : List Addr} {G : Array GenState → Array GenState → Prop} {n : Nat} {Pv : Nat → Value → Prop} {St : Nat → Shared → Prop} {Z : Result → Shared → Prop}
    (W : WalksS prog w A.in1 I fp wr G n Pv St) (a : Addr) (na : a ∉ fp) (bs : List Bool) (hn : n = bs.length) (few : bs.length + 1 < scanBound) (val : ∀ i v, Pv i v → ∃ b, bs[i]? = some b ∧ v = .bool b) :
    ∀ (k i : Nat) (sh : Shared), i + k = n → St i sh → (∃ c, c ≤ i ∧ SetB w sh.heap a (fun j => decide (j ∈ bs.take i)) c) →
      (∀ s' c, Moved (a :: wr) G sh s' → c ≤ n → SetB w s'.heap a (fun j => decide (j ∈ bs)) c → Z (.ok (.ret .none)) s') → codeAny (model prog w) A (.builtin "set.update.loop" ⟨[.ref a, .ref I], []⟩) Z sh := by
  have wider : ∀ b ∈ wr, b ∈ a :: wr := fun b hb => List.mem_cons_of_mem _ hb
  have nw : a ∉ wr := fun h => na (W.sub _ h)
  intro k
  induction k with
  | zero =>
    rintro i sh hk st ⟨c, hc, hS⟩ go
    obtain rfl : i = n := hk
    refine codeAny_builtin F.entry_set_update_loop (by
      rw [Around.under_plainId F.plain_set_update_loop _]
      refine (wpAny_bind (W.done sh _ _ st fun s' mv => ?_) : wpAny _ A.in1 (pyNext (.ref I) >>= _) _ _ sh)
      rw [show bs.take i = bs from List.take_of_length_le (by omega)] at hS
      exact wpAny_pure (go s' c (mv.mono wider) hc (hS.at fun o e => mv.heap a o nw e)))
  | succ k ih =>
    rintro i sh hk st ⟨c, hc, hS⟩ go
    have lt : i < n := by omega
    refine codeAny_builtin F.entry_set_update_loop (by
      rw [Around.under_plainId F.plain_set_update_loop _]
      refine (wpAny_bind (W.item i sh _ _ lt st fun v s' hP st' mv => ?_) : wpAny _ A.in1 (pyNext (.ref I) >>= _) _ _ sh)
      obtain ⟨z, hz, rfl⟩ := val i v hP
      have hS1 : SetB w s'.heap a (fun j => decide (j ∈ bs.take i)) c := hS.at fun o e => mv.heap a o nw e
      refine wpAny_bind (wpAny_holding (wpAny_holding (wpAny_bind ((boolK prog w).pyHash (k := z) (boolK_is _ _ _) ?_))))
      refine setB_add_hashed (s := { s' with toks := s'.toks + 1 }) hS1 (by omega) fun h' sb hS2 => ?_
      have hS3 : SetB w h' a (fun j => decide (j ∈ bs.take (i + 1))) (if decide (z ∈ bs.take i) = true then c else c + 1) := hS2.congr fun j => by
        rw [List.take_add_one, hz]; simp [List.mem_append]
      have hc3 : (if decide (z ∈ bs.take i) = true then c else c + 1) ≤ i + 1 := by split <;> omega
      have other : ∀ b o, b ≠ a → s'.heap.get? b = some o → h'.get? b = some o := fun b o ne e => by rw [sb.2 b ne]; exact e
      refine wpAny_pure ⟨plainId_quiet F.plain_set_update_loop _, ih (i + 1) _ (by omega) (W.frame _ s' _ _ st' (Nat.le_succ _) fun b hb o e => other b o (fun h => na (h ▸ hb)) e) ⟨_, hc3, hS3⟩ fun s2 c2 mv2 hc2 hS4 => ?_⟩
      exact go s2 c2 (Moved.trans W.gtrans ((mv.mono wider).then_heap (Nat.le_succ _) fun b o hb e => other b o (fun h => hb (h ▸ List.mem_cons_self)) e) mv2) hc2 hS4)
inductive BlsAre : List Value → List Bool → Prop
  | nil : BlsAre [] []
  | cons (b : Bool) {vs : List Value} {bs : List Bool} : BlsAre vs bs → BlsAre (.bool b :: vs) (b :: bs)
theorem BlsAre.length : ∀ {vs : List Value} {bs : List Bool}, BlsAre vs bs → vs.length = bs.length
  | _, _, .nil => rfl
  | _, _, .cons _ t => by rw [List.length_cons, List.length_cons, t.length]
theorem BlsAre.at : ∀ {vs : List Value} {bs : List Bool} {i : Nat} {v : Value}, BlsAre vs bs → vs[i]? = some v → ∃ b, bs[i]? = some b ∧ v = .bool b
  | _, _, _, _, .nil, h => by simp at h
  | _, _, 0, _, .cons b _, h => by simp at h; exact ⟨b, rfl, h.symm⟩
  | _, _, i + 1, v, .cons _ t, h => by
    obtain ⟨b, h1, h2⟩ := t.at (i := i) (v := v) (by simpa using h)
    exact ⟨b, by simpa using h1, h2⟩
theorem setB_new_at {h : Heap} {a : Addr} {bs : List Bool} (ho : h.get? a = some { cls := .type "set", dict := none, data := .set #[] 0 (.fresh 0 0 (!w.params.followText "set-order")) }) : SetB w h a (fun j => decide (j ∈ bs.take 0)) 0 := by
  refine ⟨_, #[], 0, _, ho, ⟨rfl, rfl, rfl⟩, rfl, (fun e he => by simp at he), (by simp), (fun k => by simp), (by decide), (by rfl), rfl, List.Pairwise.nil, ?_⟩
  show _ ∨ (!w.params.followText "set-order") = true
  cases w.params.followText "set-order" <;> simp
variable {E : Value → Shared → Prop} {sh : Shared} {Q : Value → Shared → Prop} {l : Addr} {items : Array Value} {bs : List Bool}
theorem call_set_boolsL (calm : A.handled = none) (is : sh.heap.IsList l items) (isB : BlsAre items.toList bs) (few : bs.length + 1 < scanBound)
    (want : ∀ (h' : Heap) (tk n : Nat), SetB w h' sh.heap.objs.size (fun j => decide (j ∈ bs)) n → n ≤ bs.length → (∀ b o, sh.heap.get? b = some o → h'.get? b = some o) → Q (.ref sh.heap.objs.size) { sh with heap := h', toks := tk }) :
    wpAny (model prog w) A (call (.type "set") [.ref l]) Q E sh := by
  refine set_calledL (L := fun led => led = !w.params.followText "set-order") (L2.code_set_led1 _ ⟨_, rfl, rfl, rfl⟩) fun led hL => ?_
  subst hL
  have is1 : (withBare sh (!w.params.followText "set-order")).heap.IsList l items := is.push _
  have old : l < sh.heap.objs.size := by obtain ⟨o, e, _⟩ := is; exact Heap.lt_size e
  have big : (withBare sh (!w.params.followText "set-order")).heap.objs.size = sh.heap.objs.size + 1 := Heap.size_push ..
  have size : items.size = bs.length := by rw [← Array.length_toList]; exact isB.length
  refine init_by (T := "list") is1.typeIs F.sub_list_set F.sub_list_frozenset (by decide) (wpAny_pyIter_list is1 ?_)
  rw [big]
  have W := (Walks.list (prog := prog) (w := w) (A := A.in1.in1.in1) (by simpa using calm) (sh.heap.objs.size + 1) l (Nat.ne_of_lt (Nat.lt_succ_of_lt old)) items).toS
  refine bools_in W sh.heap.objs.size ?_ bs size few (fun i v e => isB.at (by rw [Array.getElem?_toList]; exact e)) items.size 0 _ (Nat.zero_add _) ⟨?_, is1.push _⟩ ⟨0, Nat.le_refl 0, setB_new_at (Heap.get?_push_of_some _ (Heap.get?_push_size _ rfl))⟩ fun s' n mv hn got => ?_
  · simp only [List.mem_cons, List.not_mem_nil, or_false, not_or]
    exact ⟨Nat.ne_of_lt (Nat.lt_succ_self _), Nat.ne_of_gt old⟩
  · rw [show sh.heap.objs.size + 1 = (withBare sh (!w.params.followText "set-order")).heap.objs.size from big.symm]; exact ⟨_, Heap.get?_push_size _ rfl, rfl, rfl⟩
  · rw [mv.eq_with]
    refine ⟨rfl, want s'.heap s'.toks n got (size ▸ hn) fun b o e => mv.heap b o ?_ (Heap.get?_push_of_some _ (Heap.get?_push_of_some _ e))⟩
    have lt := Heap.lt_size e
    simp only [List.mem_cons, List.not_mem_nil, or_false, not_or]
    exact ⟨Nat.ne_of_lt lt, Nat.ne_of_lt (Nat.lt_succ_of_lt lt)⟩
end
end NDS
namespace NDS
open PySem PySem.W PyProof.Rows PpSet
def waysOf (S : Bool → Bool) : List Bool := [false, true].filter S
theorem bools_nodup : ∀ (bs : List Bool), bs.Nodup → bs = [] ∨ bs = [true] ∨ bs = [false] ∨ bs = [true, false] ∨ bs = [false, true]
  | [], _ => .inl rfl
  | [true], _ => .inr (.inl rfl)
  | [false], _ => .inr (.inr (.inl rfl))
  | [true, false], _ => .inr (.inr (.inr (.inl rfl)))
  | [false, true], _ => .inr (.inr (.inr (.inr rfl)))
  | [true, true], h => by simp at h
  | [false, false], h => by simp at h
  | a :: b :: c :: r, h => by
    simp only [List.nodup_cons, List.mem_cons, not_or] at h
    obtain ⟨⟨h1, h2, _⟩, ⟨h3, _⟩, _⟩ := h
    cases a <;> cases b <;> cases c <;> simp at h1 h2 h3
theorem sort_bools {bs : List Bool} {S : Bool → Bool} (nd : bs.Nodup) (h : ∀ k, S k = true ↔ k ∈ bs) : bs.mergeSort (sortLe (listOrd itemOrd) false fun b => keyToks (.bool b)) = waysOf S := by
  have t := h true
  have f := h false
  have eS : ∀ k, S k = decide (k ∈ bs) := fun k => by
    cases e : S k with
    | true => exact (decide_eq_true ((h k).mp e)).symm
    | false => exact (decide_eq_false fun z => by rw [(h k).mpr z] at e; cases e).symm
  unfold waysOf
  rcases bools_nodup bs nd with rfl | rfl | rfl | rfl | rfl
  · simp [List.filter, eS]
  · simp [List.filter, eS]
  · simp [List.filter, eS]
  · simp [List.filter, eS, List.mergeSort, List.merge]; decide
  · simp [List.filter, eS, List.mergeSort, List.merge]; decide
theorem each_bools : ∀ bs : List Bool, EachIs (fun v b => v = Value.bool b) (bs.map Value.bool) bs
  | [] => .nil
  | b :: bs => .cons rfl (each_bools bs)
theorem bools_each : ∀ {vs : List Value} {bs : List Bool}, EachIs (fun v b => v = Value.bool b) vs bs → vs = bs.map Value.bool
  | _, _, .nil => rfl
  | _, _, .cons h t => by rw [h, bools_each t]; rfl
section
variable {prog : Program} {w : World} {A : Around} {E : Value → Shared → Prop} {sh : Shared} {Q : Value → Shared → Prop}
theorem sorts_bools (s : Shared) (bs : List Bool) (room : A.units + 4 < cLine) : SortsAt prog w A s (dataKind s.heap (bs.map PyData.bool)) (bs.map Value.bool) := by
  refine SortsAt.data (ds := bs.map PyData.bool) ?_ (fun d hd d' hd' => ?_) (.inr fun d hd => ?_) fun d hd => ?_
  · clear room
    induction bs with
    | nil => exact .nil
    | cons b bs ih => exact .cons ⟨_, .bool b⟩ ih
  · obtain ⟨b, _, rfl⟩ := List.mem_map.mp hd
    obtain ⟨b', _, rfl⟩ := List.mem_map.mp hd'
    simp [alike]
  · obtain ⟨b, _, rfl⟩ := List.mem_map.mp hd
    exact ⟨by simp, by simp⟩
  · obtain ⟨b, _, rfl⟩ := List.mem_map.mp hd
    have : (PyData.bool b).depth ≤ 1 := by simp [PyData.depth]
    omega
theorem sortVals_bools (h : Heap) {bs : List Bool} {S : Bool → Bool} (nd : bs.Nodup) (hS : ∀ k, S k = true ↔ k ∈ bs) : sortVals (dataKind h (bs.map PyData.bool)) false (bs.map Value.bool) (bs.map Value.bool) = (waysOf S).map Value.bool := by
  have al : AllAlike (bs.map PyData.bool) := fun d hd d' hd' => by
    obtain ⟨b, _, rfl⟩ := List.mem_map.mp hd
    obtain ⟨b', _, rfl⟩ := List.mem_map.mp hd'
    simp [alike]
  have e := sortVals_each (κ := dataKind h (bs.map PyData.bool)) (rev := false) (R := fun v b => v = Value.bool b) (fun b => keyToks (.bool b)) (each_bools bs) (ks := bs.map Value.bool) (by
    have : ∀ cs : List Bool, (∀ c ∈ cs, c ∈ bs) → EachIs (fun v b => (dataKind h (bs.map PyData.bool)).keyOf v = some (keyToks (.bool b))) (cs.map Value.bool) cs := by
      intro cs
      induction cs with
      | nil => intro _; exact .nil
      | cons c cs ih => intro hc; exact .cons (dataKind_some al (List.mem_map_of_mem (hc c List.mem_cons_self)) (.bool c)) (ih fun d hd => hc d (List.mem_cons_of_mem _ hd))
    exact this bs fun _ h => h)
  have e2 := bools_each e
  rw [e2]
  exact congrArg _ (sort_bools nd hS)
theorem sorted_setB {a : Addr} {S : Bool → Bool} {n : Nat} (R : SetB w sh.heap a S n) (calm : A.handled = none) (room : A.units + 8 < cLine)
    (want : ∀ s' p c, (∀ b o, sh.heap.get? b = some o → s'.heap.get? b = some o) → s'.gens = sh.gens → s'.os = sh.os → sh.heap.objs.size ≤ p → s'.heap.get? p = some (seqObj "list" ((waysOf S).map Value.bool).toArray c) → Q (.ref p) s') :
    wpAny (model prog w) A (call (.builtin "sorted") [.ref a]) Q E sh := by
  obtain ⟨o, es, ep, t, ho, hex, hd, g, nd, hm, hb, hf, hn, hr, hl⟩ := R
  refine Calls.call_function_entry kind_sorted plain_sorted entry_sorted (args_sorted1 _) (wpAny_bind (m := checkCount "sorted" 1 1 _) (wpAny_pure ?_))
  refine wpAny_bind (L2.collect_set (A := A.in1) calm ⟨o, ho, hex.1, hd⟩ hf hb hr hl fun s1 vs k1 hz g1 o1 pm => ?_)
  have hv : ∃ bs : List Bool, vs = bs.map Value.bool ∧ bs.Perm (es.toList.map keyB) := by
    refine ⟨vs.map fun v => match v with | .bool k => k | _ => false, ?_, ?_⟩
    · rw [List.map_map]
      refine (List.map_id vs).symm.trans (List.map_congr_left fun v hv => ?_)
      obtain ⟨e, he, q⟩ := List.mem_map.mp (pm.mem_iff.mp hv)
      obtain ⟨k, h1, _⟩ := g e he
      rw [← q, h1]; rfl
    · have q := pm.map fun v => match v with | Value.bool k => k | _ => false
      rw [List.map_map] at q
      exact q
  obtain ⟨bs, rfl, pb⟩ := hv
  have ndb : bs.Nodup := pb.nodup_iff.mpr nd
  have hmb : ∀ k, S k = true ↔ k ∈ bs := fun k => by rw [pb.mem_iff]; exact hm k
  have few : (bs.map Value.bool).length ≤ sizeLine := by
    rw [List.length_map, sizeLine_eq]
    rcases bools_nodup bs ndb with rfl | rfl | rfl | rfl | rfl <;> decide
  refine wpAny_bind (wpAny_newList ?_ few)
  have hoL : (s1.heap.push (seqObj "list" (bs.map Value.bool).toArray 0)).get? s1.heap.objs.size = some (seqObj "list" (bs.map Value.bool).toArray 0) := Heap.get?_push_size _ rfl
  refine wpAny_bind (wpAny_holding (wpAny_call_entry slot_list_sort ⟨_, hoL, rfl⟩ entry_list_sort (list_sort_vals hoL (sorts_bools _ bs (by show A.units + 1 + 1 + 4 < cLine; omega)) few ⟨_, rfl, ?_⟩) (args_list_sort _)))
  rw [sortVals_bools _ ndb hmb]
  obtain ⟨c, hc⟩ := sortedHeap_at (vs := bs.map Value.bool) (out := ((waysOf S).map Value.bool).toArray) hoL
  refine wpAny_pure ⟨_, rfl, want _ s1.heap.objs.size c (fun b u e => ?_) g1 o1 hz hc⟩
  have lt := Heap.lt_size (k1 b u e)
  show (sortedHeap (s1.heap.push (seqObj "list" (bs.map Value.bool).toArray 0)) s1.heap.objs.size (bs.map Value.bool) _).get? b = some u
  rw [sortedHeap_old (Nat.ne_of_lt lt) (by rw [size_push']; exact Nat.lt_succ_of_lt lt)]
  exact Heap.get?_push_of_some _ (k1 b u e)
end
end NDS
namespace L2
open PySem PpSet
theorem bls_vals : ∀ {bs : List Bool} {us : List Value}, Vals (bs.map V.bl) us → NDS.BlsAre us bs
  | [], _, .nil => .nil
  | b :: bs, _, .cons r t => by cases r; exact .cons b (bls_vals t)
theorem vals_bls : ∀ (bs : List Bool), Vals (bs.map V.bl) (bs.map Value.bool)
  | [] => .nil
  | b :: bs => .cons rfl (vals_bls bs)
def rSetB (K : PySem.W.Frag) (w : World) : List V → Hp → VK → Prop := fun xs G Q => ∃ (l : Addr) (bs : List Bool), xs = [.ref l] ∧ SqL K G l (bs.map V.bl) ∧ bs.length + 1 < scanBound ∧ ∀ p n, G p = none → n ≤ bs.length → Q (.ref p) (upd G p (SetBO w p (fun j => decide (j ∈ bs)) n))
theorem call_setB {X : Cx} (calm : X.calm = true) : CallR X (.type "set") (rSetB X.K X.w) := fun ps sh st G xs us Q inv rel ⟨l, bs, ex, sq, few, want⟩ => by
  subst ex
  obtain ⟨u, rfl, isL⟩ := vals1 rel
  obtain rfl : u = .ref l := isL
  obtain ⟨its, relI, lst, _⟩ := inv.list sq
  refine NDS.call_set_boolsL (bs := bs) (inv.ok.hd calm) lst.isList (by simpa using bls_vals relI) few fun h' tk n got le kept => ?_
  exact ⟨.ref _, _, inv.laid (t' := tk) kept (Nat.le_refl _) (setBO_new got), rfl, want _ _ (inv.hok.fresh (Nat.le_refl _)) le⟩
def rSortB (w : World) : List V → Hp → VK → Prop := fun xs G Q => ∃ (a : Addr) (S : Bool → Bool) (n : Nat), xs = [.ref a] ∧ G a = some (SetBO w a S n) ∧ ∀ p, G p = none → Q (.ref p) (upd G p (.lst ((NDS.waysOf S).map V.bl)))
theorem call_sortB {X : Cx} (calm : X.calm = true) (room : X.A.units + 8 < cLine) : CallR X (.builtin "sorted") (rSortB X.w) := fun ps sh st G xs us Q inv rel ⟨a, S, n, ex, ha, want⟩ => by
  subst ex
  rw [Vals.ref1 rel]
  refine NDS.sorted_setB (setBO_get inv ha) (inv.ok.hd calm) room fun s' p c kp gn os le hp => ?_
  have free := inv.hok.fresh le
  have len : ((NDS.waysOf S).map V.bl).length ≤ sizeLine := by
    have := List.length_filter_le S [false, true]
    rw [List.length_map, sizeLine_eq]
    unfold NDS.waysOf
    simp at this
    omega
  have J : Inv X ps st (upd G p (.lst ((NDS.waysOf S).map V.bl))) { sh with heap := s'.heap, gens := s'.gens, drawn := s'.drawn, toks := s'.toks } :=
    inv.call (ch := []) (Un.laid kp le free) (inv.hok.laid kp le ⟨len, _, c, vals_bls _, hp⟩) (by rw [gn]; exact inv.bare) (fun _ z => nomatch z)
  have e : s' = { sh with heap := s'.heap, gens := s'.gens, drawn := s'.drawn, toks := s'.toks } := by
    cases s'; cases sh; cases os; rfl
  rw [e]
  exact ⟨.ref p, _, J, rfl, want p free⟩
end L2
namespace ND
open PySem L2 PpSet
section
variable {X : Cx} {g : G} {W : WX} {cur : Cur} {hid : List Addr} {c : List Addr} {S : Store} {H : Hp} {e : Expr} {m : EM} {p p2 pos pos2 : Pos} {k : Nat}
theorem vls_bls {F : Hp} : ∀ (bs : List Bool), Vls g F c (bs.map V.bl) (bs.map D.bl)
  | [] => .nil
  | n :: ns => .cons (.bl n) (vls_bls ns)
noncomputable def sortSetBD (x : D) : M D := fun S => match dr S x with
  | .lst xs => (match blsOf xs with
    | some bs => if bs.length ≤ 1024 then .ok (.lst ((NDS.waysOf fun j => decide (j ∈ bs)).map D.bl)) S else .bad
    | none => .bad)
  | _ => .bad
noncomputable def mSortSetB (m : EM) : EM := fun τ => m τ >>= sortSetBD
theorem d_sortsetB (calm : X.calm = true) (room : Room k X.A) (hg : Gl X "sorted") (hm : X.mg "sorted" = none) (hg2 : Gl X "set") (hm2 : X.mg "set" = none) (he : PE X e (tE (gx X cur hid) W m))
    (h1 : starEach [e] X.env = (false, eval e X.env) :: starEach [] X.env := by rfl) (h2 : starEach [.Call (.Name "set" p2) [e] [] pos2] X.env = (false, eval (.Call (.Name "set" p2) [e] [] pos2) X.env) :: starEach [] X.env := by rfl) :
    PE X (.Call (.Name "sorted" p) [.Call (.Name "set" p2) [e] [] pos2] [] pos) (tE (gx X cur hid) W (mSortSetB m)) :=
  PE.imp (pe_callB (call_sortB calm (by have := room.un; omega)) hg hm bt_sorted (pa_cons (pe_callTy (call_setB calm) hg2 hm2 bt_set (pa_cons he pa_nil h1) (by decide) (by decide) h1 rfl) pa_nil h2) (by decide) (by decide) h2 rfl) fun σ H Q h => tE_then h fun c S H1 v d r1 v1 o1 => by
    unfold sortSetBD at o1
    have sv := dr_seen r1 v1
    split at o1
    · rename_i xs hx
      rw [hx] at sv
      obtain ⟨a, vs, rfl, k1, l1⟩ := sv.lst'
      split at o1
      · rename_i bs hn
        split at o1
        · rename_i few
          have ev := bls_val l1 hn
          subst ev
          refine ⟨a, bs, rfl, SqL.of k1, by unfold scanBound; omega, fun q n free le => ⟨q, _, n, rfl, upd_same, fun q2 free2 => ?_⟩⟩
          have f1 := Fut.new (o := SetBO X.w q (fun j => decide (j ∈ bs)) n) r1 free
          have f2 := Fut.new (o := .lst ((NDS.waysOf fun j => decide (j ∈ bs)).map V.bl)) f1.rep free2
          exact o1 _ c (f1.trans f2) _ (.lst (Fut.frz_new f1.rep free2) (vls_bls _))
        · exact o1.elim
      · exact o1.elim
    · exact o1.elim
end
end ND
namespace NA
open PySem L2 ND
noncomputable def b_Lot____eq__ : SM := (sRet (mAnd (mUn (isiCD "Lot") (mVar 1)) (mAnd (mBin (eqvD false) (mUn (fldD ["Lot"] "names") (mVar 0)) (mUn (fldD ["Lot"] "names") (mVar 1))) (mBin (eqvD false) (mUn (fldD ["Lot"] "mask") (mVar 0)) (mUn (fldD ["Lot"] "mask") (mVar 1))))))
noncomputable def m_Lot____eq__ : List D → M D := mFn ["self", "other"] b_Lot____eq__
noncomputable def b_Lot__settled : SM := (sThen (sSet 1 (mLstC mNil)) (sThen (sFor (mWalkT (mUn (fldD ["Lot"] "names") (mVar 0))) (.nm 2) (sThen (sSet 3 (mComp (mWalkT (mTup (mCons (mC (.bl false)) (mCons (mC (.bl true)) mNil)))) [4] (.nm 4) (mTru (mBin andD (mUn (fldD ["Lot"] "mask") (mVar 0)) (mCall (arity 2 m_mask_of) (mCons (mUn (fldD ["Lot"] "names") (mVar 0)) (mCons (mTup (mCons (mTup (mCons (mVar 2) (mCons (mVar 4) mNil))) mNil)) mNil))))) (mVar 4))) (sIf (mAsT (mBin (eqvD false) (mCall lenSD (mCons (mVar 3) mNil)) (mC (.int 1)))) (sExpr (mMeth "list" appendD (mVar 1) (mCons (mTup (mCons (mVar 2) (mCons (mBin ixD (mVar 3) (mC (.int 0))) mNil))) mNil))) sSkip))) (sRet (mCall tupleD (mCons (mVar 1) mNil)))))
noncomputable def m_Lot__settled : List D → M D := mFn ["self", "found", "name", "ways", "truth"] b_Lot__settled
noncomputable def b_law_left : SM := (sThen (sAsg (.tp [(.nm 2), (.nm 3), (.nm 4)]) (mVar 0)) (sRet (mComp (mWalkL (mVar 3)) [5] (.nm 5) (mAsT (mBin (eqvD true) (mCall (arity 3 m_law_fits) (mCons (mVar 2) (mCons (mVar 5) (mCons (mVar 4) mNil)))) (mVar 1))) (mVar 5))))
noncomputable def m_law_left : List D → M D := mFn ["_law_some", "_law_bars", "_law_names_here", "_law_left_here", "_law_pairs_here", "_law_one"] b_law_left
noncomputable def b_law_settled : SM := (sThen (sSet 2 (mLstC mNil)) (sThen (sFor (mEnum (mCons (mVar 0) mNil)) (.tp [(.nm 3), (.nm 4)]) (sThen (sSet 5 (mSortSetB (mComp (mWalkL (mVar 1)) [6] (.nm 6) tYesD (mBin ixD (mVar 6) (mVar 3))))) (sIf (mAsT (mBin (eqvD false) (mCall lenSD (mCons (mVar 5) mNil)) (mC (.int 1)))) (sExpr (mMeth "list" appendD (mVar 2) (mCons (mTup (mCons (mVar 4) (mCons (mBin ixD (mVar 5) (mC (.int 0))) mNil))) mNil))) sSkip))) (sRet (mCall tupleD (mCons (mVar 2) mNil)))))
noncomputable def m_law_settled : List D → M D := mFn ["_law_names_here", "_law_left_here", "_law_found", "_law_place", "_law_name", "_law_ways", "_law_filling"] b_law_settled
noncomputable def b_law_is_same : SM := (sThen (sIf (mTOr (mTNot (mAsT (mCall isiD (mCons (mVar 0) (mCons (mC (.ty "tuple")) mNil))))) (mAsT (mBin (eqvD true) (mVar 0) (mVar 1)))) (sRet (mC (.bl false))) sSkip) (sRet (mCall allD (mCons (mComp (mWalkT (mVar 0)) [2] (.nm 2) tYesD (mAnd (mCall isiD (mCons (mVar 2) (mCons (mC (.ty "tuple")) mNil))) (mCall isiD (mCons (mBin ixD (mVar 2) (mC (.int 1))) (mCons (mC (.ty "bool")) mNil))))) mNil))))
noncomputable def m_law_is_same : List D → M D := mFn ["_law_told", "_law_due", "_law_one"] b_law_is_same
end NA
set_option maxHeartbeats 1000000
namespace NDS
open PySem PySem.W PyProof.Rows
def sortBy {α : Type} (xs : List α) (ds : List PyData) : List α := ((xs.zip ds).mergeSort (sortLe (listOrd itemOrd) false fun p => keyToks p.2)).map (·.1)
def SortAble (ds : List PyData) : Prop := AllAlike ds ∧ (Sortable ds ∨ ds = [.tuple []]) ∧ ∀ d ∈ ds, d.depth ≤ 64
section
variable {prog : Program} {w : World} {A : Around} {s : Shared}
theorem sorts_able {vs : List Value} {ds : List PyData} (e : EachIs (fun v d => ∃ as, Reads s.heap v d as) vs ds) (h : SortAble ds) (room : A.units + 66 < cLine) : SortsAt prog w A s (dataKind s.heap ds) vs := by
  obtain ⟨al, so, dp⟩ := h
  rcases so with so | so
  · exact SortsAt.data e al so fun d hd => by have := dp d hd; omega
  · subst so
    refine ⟨fun v hv => ?_, tuples' true, ?_, fun h2 => ?_⟩
    · obtain ⟨d, hd, as, r⟩ := e.left v hv
      exact ⟨_, dataKind_some al hd r⟩
    · intro E x y a b Q ha hb hq
      obtain ⟨d, as, hd, ra, rfl⟩ := dataKind_inv ha
      obtain ⟨d', as', hd', rb, rfl⟩ := dataKind_inv hb
      obtain rfl := List.mem_singleton.mp hd
      obtain rfl := List.mem_singleton.mp hd'
      have hq' : Q (dataLt (.tuple []) (.tuple [])) s := hq
      rw [dataLt_tuple] at hq'
      cases ra with
      | @tuple l o xs n _ _ h1 h2 h3 h4 =>
        cases rb with
        | @tuple l' o' xs' n' _ _ k1 k2 k3 k4 =>
          have n1 : xs.size = 0 := by simpa using SeqAt.ReadsAll.length _ _ _ h4
          have n2 : xs'.size = 0 := by simpa using SeqAt.ReadsAll.length _ _ _ k4
          exact kat_lt h1 h3 k1 k3 (katLex_alike [] [] 0 _ _ _ _ h4 k4 rfl (by simp [PyData.depthAll]; omega) (fun _ _ x r t ex => nomatch ex) (by rw [n1, n2]; rfl) hq')
    · have := e.length
      rw [this] at h2
      simp at h2
theorem each_zip {α : Type} {R : α → Value → Prop} : ∀ {xs : List α} {vs : List Value} {ds : List PyData}, xs.length = vs.length → vs.length = ds.length → (∀ (i : Nat) (x : α) (v : Value), xs[i]? = some x → vs[i]? = some v → R x v) → EachIs (fun v p => R p.1 v) vs (xs.zip ds)
  | [], [], [], _, _, _ => .nil
  | x :: xs, v :: vs, d :: ds, h1, h2, h => .cons (h 0 x v rfl rfl) (each_zip (by simpa using h1) (by simpa using h2) fun i a b ha hb => h (i + 1) a b (by simpa using ha) (by simpa using hb))
  | [], _ :: _, _, h1, _, _ => by simp at h1
  | _ :: _, [], _, h1, _, _ => by simp at h1
  | _, [], _ :: _, _, h2, _ => by simp at h2
  | _, _ :: _, [], _, h2, _ => by simp at h2
theorem keys_zip {α : Type} {h : Heap} {es : List PyData} (al : AllAlike es) : ∀ {xs : List α} {vs : List Value} {ds : List PyData}, xs.length = vs.length → (∀ d ∈ ds, d ∈ es) → EachIs (fun v d => ∃ as, Reads h v d as) vs ds → EachIs (fun v (p : α × PyData) => (dataKind h es).keyOf v = some (keyToks p.2)) vs (xs.zip ds)
  | [], _, _, h1, _, .nil => .nil
  | x :: xs, _, _, h1, hm, .cons ⟨as, r⟩ t => .cons (dataKind_some al (hm _ List.mem_cons_self) r) (keys_zip al (by simpa using h1) (fun d hd => hm d (List.mem_cons_of_mem _ hd)) t)
  | [], _, _, h1, _, .cons _ _ => by simp at h1
theorem reads_each {h : Heap} : ∀ {vs : List Value} {ds : List PyData} {as : List Addr}, ReadsAll h vs ds as → EachIs (fun v d => ∃ as, Reads h v d as) vs ds
  | _, _, _, .nil => .nil
  | _, _, _, .cons r t => .cons ⟨_, r⟩ (reads_each t)
end
end NDS
namespace L2
open PySem PySem.W
theorem vals_at : ∀ {xs : List V} {us : List Value} {i : Nat} {x : V} {u : Value}, Vals xs us → xs[i]? = some x → us[i]? = some u → RelV x u
  | _, _, _, _, _, .nil, h, _ => by simp at h
  | _, _, 0, _, _, .cons r _, h1, h2 => by simp at h1 h2; subst h1; subst h2; exact r
  | _, _, i + 1, _, _, .cons _ t, h1, h2 => vals_at (i := i) t (by simpa using h1) (by simpa using h2)
theorem vals_each {α : Type} : ∀ {us : List Value} {ps : List (V × α)}, EachIs (fun u p => RelV p.1 u) us ps → Vals (ps.map (·.1)) us
  | _, _, .nil => .nil
  | _, _, .cons h t => .cons h (vals_each t)
def rSortV (K : PySem.W.Frag) : List V → Hp → VK → Prop := fun vs G Q => ∃ (l : Addr) (xs : List V) (ds : List PyData), vs = [.ref l] ∧ SqL K G l xs ∧ DpAll K G xs ds ∧ NDS.SortAble ds ∧ ∀ p, G p = none → Q (.ref p) (upd G p (.lst (NDS.sortBy xs ds)))
theorem call_sortV {X : Cx} (room : X.A.units + 68 < cLine) : CallR X (.builtin "sorted") (rSortV X.K) := fun ps sh st G vs us Q inv rel ⟨l, xs, ds, ex, sq, dp, able, want⟩ => by
  subst ex
  rw [Vals.ref1 rel]
  obtain ⟨its, relI, lst, few⟩ := inv.list sq
  obtain ⟨as, rd⟩ := Dp.readsAll inv ds xs its dp relI
  have kp : ∀ b o, sh.heap.get? b = some o → (sortingHeap (copyHeap sh.heap its) (sh.heap.objs.size + 1) its).get? b = some o := fun b o e => sorting_copy_old e
  have ea := NDS.reads_each (PyProof.Rows.ReadsAll.keeps kp rd)
  have l1 := relI.length
  have l2 := ea.length
  have few' : its.length ≤ sizeLine := by rw [← l1]; exact few
  have E1 := sortVals_each (κ := dataKind (sortingHeap (copyHeap sh.heap its) (sh.heap.objs.size + 1) its) ds) (rev := false) (β := V × PyData) (R := fun u p => RelV p.1 u) (fun p => keyToks p.2)
    (NDS.each_zip (R := RelV) l1 l2 fun i x v hx hv => vals_at relI hx hv) (NDS.keys_zip able.1 l1 (fun d hd => hd) ea)
  have V1 := vals_each E1
  have len : (NDS.sortBy xs ds).length ≤ sizeLine := by
    have := V1.length
    rw [sortVals_length false rfl] at this
    show (List.map _ _).length ≤ _
    exact Nat.le_trans (Nat.le_of_eq this) few'
  refine sorted_vals lst.isList (NDS.sorts_able (s := { sh with heap := sortingHeap (copyHeap sh.heap its) (sh.heap.objs.size + 1) its }) ea able (by show X.A.units + 1 + 1 + 66 < cLine; omega)) few' ?_
  obtain ⟨c, hc⟩ := PyProof.Rows.sortedAll_at sh.heap its (sortVals (dataKind (sortingHeap (copyHeap sh.heap its) (sh.heap.objs.size + 1) its) ds) false its its).toArray
  exact ⟨.ref _, _, inv.laid (t' := sh.toks) (o := .lst (NDS.sortBy xs ds)) (fun b o e => PyProof.Rows.sortedAll_old e) (Nat.le_succ _) ⟨len, _, c, V1, hc⟩, rfl, want _ (inv.hok.fresh (Nat.le_succ _))⟩
end L2
namespace ND
open PySem L2
section
variable {X : Cx} {g : G} {W : WX} {cur : Cur} {hid : List Addr} {c : List Addr} {S : Store} {H : Hp} {e : Expr} {m : EM} {pos : Pos}
def revLD (x : D) : M D := fun S => match dr S x with
  | .lst xs => .ok (.lst xs.reverse) S
  | _ => .bad
theorem d_revL {k : Nat} {p1 p2 p3 : Pos} (he : PE X e (tE (gx X cur hid) W m)) : PE X (.Subscript e (.Slice none none (some (.UnaryOp .USub (.Constant (.int 1) k p1) p2)) p3) pos) (tE (gx X cur hid) W (mUn revLD m)) :=
  PE.imp (pe_revL he) fun σ H Q h => tE_then h fun c S H1 v x r1 v1 o1 => by
    unfold revLD at o1
    have sv := dr_seen r1 v1
    split at o1
    · rename_i xs h1
      rw [h1] at sv
      obtain ⟨a, vs, rfl, k1, l1⟩ := sv.lst'
      refine ⟨a, vs, rfl, SqL.of k1, fun q free => ?_⟩
      have f1 := Fut.new (o := .lst vs.reverse) r1 free
      exact o1 _ c f1 _ (.lst (Fut.frz_new r1 free) (f1.vls l1).reverse)
    · exact o1.elim
open Classical in
noncomputable def sortedLD (ds : List D) : M D := fun S => match ds with
  | [x] => (match dr S x with
    | .lst xs => (match pys xs with
      | some zs => if okP (NDS.SortAble zs) = true then .ok (.lst (NDS.sortBy xs zs)) S else .bad
      | none => .bad)
    | _ => .bad)
  | _ => .bad
theorem dpAll_of {F : Hp} : ∀ {vs : List V} {xs : List D} {zs : List PyData}, Vls g F c vs xs → pys xs = some zs → DpAll g.K F vs zs
  | _, _, _, .nil, e => by cases e; exact .nil
  | _, _, _, .cons (d := d) (xs := xs) h t, e => by
    rw [pys] at e
    cases h1 : py d with
    | none => rw [h1] at e; cases e
    | some z =>
      cases h2 : pys xs with
      | none => rw [h1, h2] at e; cases e
      | some zs =>
        rw [h1, h2] at e
        cases e
        exact .cons (dp_of h h1).1 (dpAll_of t h2)
theorem vls_sort {F : Hp} {vs : List V} {xs : List D} {zs : List PyData} (h : Vls g F c vs xs) (hl : xs.length = zs.length) : Vls g F c (NDS.sortBy vs zs) (NDS.sortBy xs zs) := by
  have h1 : ∀ {vs : List V} {xs : List D} {zs : List PyData}, Vls g F c vs xs → xs.length = zs.length → PySem.W.EachIs (fun (a : V × PyData) (b : D × PyData) => Val g F c a.1 b.1 ∧ a.2 = b.2) (vs.zip zs) (xs.zip zs) := by
    intro vs xs zs h
    induction vs generalizing xs zs with
    | nil => intro _; cases h; exact .nil
    | cons v vs ih =>
      intro hl
      cases h with
      | cons a t =>
        cases zs with
        | nil => simp at hl
        | cons z zs => exact .cons ⟨a, rfl⟩ (ih t (by simpa using hl))
  have h2 := h1 h hl
  have h3 := PySem.W.sort_each h2 (r := PySem.W.sortLe (PyProof.Rows.listOrd PyProof.Rows.itemOrd) false fun p => PySem.W.keyToks p.2) (s := PySem.W.sortLe (PyProof.Rows.listOrd PyProof.Rows.itemOrd) false fun p => PySem.W.keyToks p.2) fun p hp q hq => by
    have e1 := (h2.zip p hp).2
    have e2 := (h2.zip q hq).2
    unfold PySem.W.sortLe
    dsimp only
    rw [e1, e2]
  have h4 : ∀ {as : List (V × PyData)} {bs : List (D × PyData)}, PySem.W.EachIs (fun (a : V × PyData) (b : D × PyData) => Val g F c a.1 b.1 ∧ a.2 = b.2) as bs → Vls g F c (as.map (·.1)) (bs.map (·.1)) := by
    intro as bs h
    induction h with
    | nil => exact .nil
    | cons h _ ih => exact .cons h.1 ih
  exact h4 h3
theorem pys_len : ∀ {xs : List D} {zs : List PyData}, pys xs = some zs → xs.length = zs.length
  | [], _, e => by cases e; rfl
  | x :: xs, _, e => by
    rw [pys] at e
    cases h1 : py x with
    | none => rw [h1] at e; cases e
    | some z =>
      cases h2 : pys xs with
      | none => rw [h1, h2] at e; cases e
      | some zs => rw [h1, h2] at e; cases e; rw [List.length_cons, List.length_cons, pys_len h2]
theorem cd_sortV : CbD g (rSortV g.K) sortedLD := by
  intro c S H vs ds Q E r hv o
  unfold sortedLD at o
  split at o
  · rename_i x
    obtain ⟨v, rfl, hv1⟩ := vls1 hv
    have sv := dr_seen r hv1
    split at o
    · rename_i xs hx
      rw [hx] at sv
      obtain ⟨a, ws, rfl, k1, l1⟩ := sv.lst'
      split at o
      · rename_i zs hz
        split at o
        · rename_i hc
          refine ⟨a, ws, zs, rfl, SqL.of k1, dpAll_of (l1.mono frz_ex (Pre.refl c)) hz, okP_of hc, fun q free => ?_⟩
          have f1 := Fut.new (o := .lst (NDS.sortBy ws zs)) r free
          exact o _ c f1 _ (.lst (Fut.frz_new r free) (vls_sort (f1.vls l1) (pys_len hz)))
        · exact o.elim
      · exact o.elim
    · exact o.elim
  · exact o.elim
theorem room68 {k : Nat} {A : Around} (r : RoomG k A) : A.units + 68 < cLine := by have := r.toRoom.un; omega
end
end ND
namespace NA
open PySem L2 ND
noncomputable def b_law_lot : SM := (sThen (sSet 2 (mMake "Lot" 2 m_Lot____init__ (mCons (mVar 0) mNil))) (sThen (sFor (mWalkL (mVar 1)) (.tp [(.nm 3), (.nm 4)]) (sSet 2 (mIf (mTru (mVar 3)) (mMethI "Lot" "barred" 2 m_Lot__barred (mVar 2) (mCons (mVar 4) mNil)) (mMethI "Lot" "fitted" 2 m_Lot__fitted (mVar 2) (mCons (mVar 4) mNil))))) (sRet (mVar 2))))
noncomputable def m_law_lot : List D → M D := mFn ["_law_names_here", "_law_deeds", "_law_lot_here", "_law_bars", "_law_pairs_here"] b_law_lot
noncomputable def b_law_mixed : SM := (sThen (sPar2 2 3 (mCons (mCall listCD (mCons (mVar 1) mNil)) (mCons (mLstC mNil) mNil))) (sThen (whileL (mAsT (mBin (eqvD true) (mVar 2) (mLst mNil))) (sExpr (mMeth "list" appendD (mVar 3) (mCons (mMeth "list" popD (mVar 2) (mCons (mCall (arity 2 m_law_take) (mCons (mVar 0) (mCons (mCall lenSD (mCons (mVar 2) mNil)) mNil))) mNil)) mNil))) 1000) (sRet (mFix (mVar 3)))))
noncomputable def m_law_mixed : List D → M D := mFn ["_law_bag_here", "_law_some", "_law_left", "_law_found"] b_law_mixed
noncomputable def b_law_parted : SM := (sThen (sPar2 3 4 (mCons (mMethI "Lot" "fitted" 2 m_Lot__fitted (mVar 0) (mCons (mVar 1) mNil)) (mCons (mMethI "Lot" "barred" 2 m_Lot__barred (mVar 0) (mCons (mVar 1) mNil)) mNil))) (sThen (sIf (mAsT (mBin (eqvD true) (mCall sortedLD (mCons (mBin addD (mMethI "Lot" "fillings" 1 m_Lot__fillings (mVar 3) mNil) (mMethI "Lot" "fillings" 1 m_Lot__fillings (mVar 4) mNil)) mNil)) (mMethI "Lot" "fillings" 1 m_Lot__fillings (mVar 0) mNil))) (sRet (mC (.bl false))) sSkip) (sThen (sSet 2 (mVar 0)) (sThen (sFor (mWalkT (mVar 1)) (.tp [(.nm 5), (.nm 6)]) (sSet 2 (mMethI "Lot" "barred" 2 m_Lot__barred (mVar 2) (mCons (mTup (mCons (mTup (mCons (mVar 5) (mCons (mUn notB (mVar 6)) mNil))) mNil)) mNil)))) (sThen (sIf (mTOr (mTNot (mAsT (mBin (eqOD "Lot" m_Lot____eq__) (mVar 2) (mVar 3)))) (mTruO "Lot" m_Lot____len__ (mMethI "Lot" "barred" 2 m_Lot__barred (mVar 3) (mCons (mVar 1) mNil)))) (sRet (mC (.bl false))) sSkip) (sRet (mBin (eqOD "Lot" m_Lot____eq__) (mMethI "Lot" "barred" 2 m_Lot__barred (mVar 4) (mCons (mVar 1) mNil)) (mVar 4))))))))
noncomputable def m_law_parted : List D → M D := mFn ["_law_lot_here", "_law_pairs_here", "_law_other", "_law_inside", "_law_outside", "_law_name", "_law_truth"] b_law_parted
end NA
set_option maxHeartbeats 1000000
namespace L2
open PySem
section
variable {X : Cx} {CX : CXT} {k : Nat} {f C : Addr} {fd : FuncData} {ps : List Str} {sp : Sp} {E : XK}
theorem sub_data (K : PySem.W.Frag) (C : Addr) : ∀ d : PyData, PySem.W.notFirst K C (PySem.W.dataType d) = true
  | .none => rfl
  | .bool _ => rfl
  | .int _ => rfl
  | .str _ => rfl
  | .list _ => rfl
  | .tuple _ => rfl
  | .dict _ => rfl
def rEqA (K : PySem.W.Frag) (C : Addr) (sp : Sp) (E : XK) : R2 := fun x y G Q => rEqO C sp E x y G Q ∨ ∃ a dx fs d, x = .ref a ∧ G a = some (.ins C dx fs) ∧ Dp K G y d ∧ sp [.ref a, y] G (fun v G' => ∃ t, v = .bl t ∧ Q (.bl t) G') E
theorem op_eqA (own : Own X.K C "__eq__" f) (Fn : FnG X.prog X.w X.K X.mg X.base CX k f fd ps sp) (room : RoomG k X.A) (bd : Binds X.K fd ps []) (pass : ∀ st, PassesAt CX X st E) : OpR X (compareOp .Eq) (rEqA X.K C sp E) := fun pins sh st G x y u v Q inv isX isY want => by
  rcases want with want | ⟨a, dx, fs, d, ex, atA, dp, want⟩
  · exact op_eqO own Fn room bd pass pins sh st G x y u v Q inv isX isY want
  · subst ex
    obtain rfl : u = .ref a := isX
    obtain ⟨_, OA, _⟩ := ins_get inv.hok atA
    obtain ⟨_, instA, _⟩ := OA.look
    obtain ⟨_, fr⟩ := inv.fr
    obtain ⟨as, rd⟩ := Dp.reads inv d y v dp isY
    refine PySem.W.cmp_K (op := .Eq) room.units0 fr inv.ok.mod.kin instA (PySem.W.looks_reads rd) (sub_data _ _ _) own.at_ (beq_iff_eq.mpr own.fn) (wpAny_mono (run_at Fn room rfl bd (pass st) inv (.cons (show RelV (V.ref a) (Value.ref a) from rfl) (.cons isY .nil)) want) (fun w s' got => ?_) fun _ _ h => h)
    obtain ⟨z, G', inv', rel, t, ez, q⟩ := got
    subst ez
    obtain rfl : w = .bool t := rel
    exact ⟨.bl t, G', inv', rfl, q⟩
def rTxtO (C : Addr) (sp : Sp) (E : XK) : List V → Hp → VK → Prop := fun xs G Q => ∃ a dx fs, xs = [.ref a] ∧ G a = some (.ins C dx fs) ∧ sp [.ref a] G (fun v G' => ∃ y : Str, v = .str y ∧ Q (.str y) G') E
theorem call_strO (own : Own X.K C "__str__" f) (Fn : FnG X.prog X.w X.K X.mg X.base CX k f fd ps sp) (room : RoomG (k + 2) X.A) (bd : Binds X.K fd ps []) (pass : ∀ st, PassesAt CX X st E) : CallR X (.type "str") (rTxtO C sp E) := fun pins sh st G xs us Q inv rel ⟨a, dx, fs, ex, at_, want⟩ => by
  subst ex
  rw [Vals.ref1 rel]
  obtain ⟨_, O, _⟩ := ins_get inv.hok at_
  obtain ⟨_, inst, _⟩ := O.look
  refine PySem.W.kso_call (room.in1 (k := k + 1)).in1.units0 inv.kIn inst own.at_ (beq_iff_eq.mpr own.fn) (wpAny_mono (run_at Fn (room.in1 (k := k + 1)).in1 rfl bd (pass st) inv (.cons (show RelV (V.ref a) (Value.ref a) from rfl) .nil) want) (fun w s' got => ?_) fun _ _ h => h)
  obtain ⟨z, G', inv', r2, y, ez, q⟩ := got
  subst ez
  obtain ⟨t, rfl⟩ := r2
  exact ⟨.str y, G', inv', ⟨t, rfl⟩, q⟩
theorem call_reprO (own : Own X.K C "__repr__" f) (Fn : FnG X.prog X.w X.K X.mg X.base CX k f fd ps sp) (room : RoomG (k + 1) X.A) (bd : Binds X.K fd ps []) (pass : ∀ st, PassesAt CX X st E) : CallR X (.builtin "repr") (rTxtO C sp E) := fun pins sh st G xs us Q inv rel ⟨a, dx, fs, ex, at_, want⟩ => by
  subst ex
  rw [Vals.ref1 rel]
  obtain ⟨_, O, _⟩ := ins_get inv.hok at_
  obtain ⟨_, inst, _⟩ := O.look
  obtain ⟨_, fr⟩ := inv.fr
  refine PySem.W.repr_K room.in1.units0 fr inv.ok.mod.kin inst own.at_ (beq_iff_eq.mpr own.fn) (wpAny_mono (run_at Fn room.in1 rfl bd (pass st) inv (.cons (show RelV (V.ref a) (Value.ref a) from rfl) .nil) want) (fun w s' got => ?_) fun _ _ h => h)
  obtain ⟨z, G', inv', r2, y, ez, q⟩ := got
  subst ez
  obtain ⟨t, rfl⟩ := r2
  exact ⟨.str y, G', inv', ⟨t, rfl⟩, q⟩
end
end L2
namespace ND
open PySem L2
section
variable {X : Cx} {g : G} {W : WX} {cur : Cur} {hid : List Addr} {c : List Addr} {S : Store} {H : Hp} {fm : List D → M D} {C : Str} {Ca : Addr} {K : PySem.W.Frag} {mg : Str → Option Value} {P : Program} {w0 : World} {e : Expr} {m : EM} {pos : Pos}
def eqAD (C : Str) (f : List D → M D) (x y : D) : M D := fun S => match dr S y with
  | .obj _ _ => eqOD C f x y S
  | _ => (match pyD S y with
    | some _ => (ownD C f x [y] >>= asB >>= fun b => pure (.bl b)) S
    | none => .bad)
theorem od_eqA (hm : mg C = some (.ref Ca)) : OpD (gq K mg P w0 cur hid) (rEqA K Ca (spD K mg P w0 2 fm) (fun _ _ _ => False)) (eqAD C fm) := by
  intro c S H v w x y Q E r hv hw o
  unfold eqAD at o
  split at o
  · exact .inl (od_eqO hm c S H v w x y Q E r hv hw o)
  · split at o
    · rename_i z hz
      rw [bind_assoc'] at o
      obtain ⟨a, dx, ws, rfl, atA, o2⟩ := ownD_out hm r hv (Out.bind o)
      refine .inr ⟨a, dx, ws, z, rfl, atA, (pyD_ok r hw hz).1, own_sp r hv (.cons hw .nil) rfl (o2.imp fun d c1 S1 H1 f1 o3 u hu => ?_)⟩
      obtain ⟨t, rfl, o4⟩ := asB_out hu o3
      exact ⟨t, rfl, at_now f1.rep o4 (.bl t)⟩
    · exact o.elim
def txtOf (d : D) : M D := match d with
  | .str y => pure (.str y)
  | _ => M.no
def txtOD (C : Str) (f : List D → M D) (ds : List D) : M D := match ds with
  | [x] => ownD C f x [] >>= txtOf
  | _ => M.no
theorem cd_txtO (hm : mg C = some (.ref Ca)) : CbD (gq K mg P w0 cur hid) (rTxtO Ca (spD K mg P w0 1 fm) (fun _ _ _ => False)) (txtOD C fm) := by
  intro c S H vs ds Q E r hvs o
  unfold txtOD at o
  split at o
  · obtain ⟨v, rfl, hv⟩ := vls1 hvs
    obtain ⟨a, dx, ws, rfl, at_, o2⟩ := ownD_out hm r hv (Out.bind o)
    refine ⟨a, dx, ws, rfl, at_, own_sp r hv .nil rfl (o2.imp fun d c1 S1 H1 f1 o3 w hw => ?_)⟩
    unfold txtOf at o3
    split at o3
    · cases hw with
      | str h => exact ⟨_, rfl, at_now f1.rep o3 (.str h)⟩
    · exact o3.elim
  · exact o.elim
def jsL : List EM → Str → EM
  | [], acc => fun _ => pure (.str acc)
  | m :: ms, acc => fun τ => m τ >>= fun d => match d with
    | .str y => M.chk (decide ((acc ++ y).length ≤ sizeLine)) (jsL ms (acc ++ y) τ)
    | _ => M.no
inductive DJ (X : Cx) (g : G) (W : WX) : List Expr → List EM → Prop
  | nil : DJ X g W [] []
  | cons {e : Expr} {m : EM} {es : List Expr} {ms : List EM} (h : PE X e (tE g W m)) (r : DJ X g W es ms) : DJ X g W (e :: es) (m :: ms)
theorem DJ.pj {es : List Expr} {ms : List EM} (h : DJ X g W es ms) : PJ X es (ms.map (tE g W)) := by
  induction h with
  | nil => exact .nil
  | cons h _ ih => exact .cons h ih
theorem js_ok : ∀ {ms : List EM} {acc : Str} {σ : St} {H : Hp} {Q : VK}, SOk acc → tE g W (jsL ms acc) σ H Q → tJs (ms.map (tE g W)) acc σ H fun out H1 => Q (.str out) H1
  | [], acc, σ, H, Q, ok, ⟨c, S, τ, r, s, o⟩ => o H c (Fut.refl r) _ (.str ok)
  | m :: ms, acc, σ, H, Q, ok, h => by
    refine tE_thenS (k := fun d τ => match d with
      | .str y => M.chk (decide ((acc ++ y).length ≤ sizeLine)) (jsL ms (acc ++ y) τ)
      | _ => M.no) h fun c S H1 τ v d r1 s1 v1 o1 => ?_
    cases v1 with
    | str oky =>
      obtain ⟨hl, o2⟩ := Out.chk o1
      have hl := of_decide_eq_true hl
      refine ⟨_, rfl, hl, js_ok (sOk_append ok oky ?_) ⟨c, S, τ, r1, s1, o2⟩⟩
      have e : ∀ x y : Str, (x ++ y).length = x.length + y.length := fun x y => Array.size_append ..
      rw [e] at hl
      exact hl
    | _ => exact o1.elim
theorem sOk_empty : SOk Str.empty := ⟨by decide +kernel, Nat.zero_le _⟩
theorem d_js {v1 v2 : Expr} {rest : List Expr} {ms : List EM} (h : DJ X (gx X cur hid) W (v1 :: v2 :: rest) ms) : PE X (.JoinedStr (v1 :: v2 :: rest) pos) (tE (gx X cur hid) W (jsL ms Str.empty)) :=
  PE.imp (pe_joined h.pj) fun σ H Q q => js_ok sOk_empty q
noncomputable def fmtD (d : D) : M D := match d with
  | .int i => M.chk (okP (i.natAbs.log2 < 1920 ∧ SOk (toString i))) (pure (.str (toString i)))
  | _ => M.no
noncomputable def mFmt (m : EM) : EM := fun τ => m τ >>= fmtD
theorem d_fmt (he : PE X e (tE (gx X cur hid) W m)) : PE X (.FormattedValue e (-1) none pos) (tE (gx X cur hid) W (mFmt m)) :=
  PE.imp (pe_fmt he) fun σ H Q h => tE_then h fun c S H1 v d r1 v1 o1 => by
    unfold fmtD at o1
    split at o1
    · cases v1
      obtain ⟨hc, o2⟩ := Out.chk o1
      obtain ⟨h1, h2⟩ := okP_of hc
      exact .inr ⟨_, rfl, h1, at_now r1 o2 (.str h2)⟩
    · exact o1.elim
end
end ND
namespace L2
open PySem PpSet
def BDO (P : Program) (w : World) (p : Addr) (a b : Str) : HO := .ext fun h => ∃ t1 t2, h.DictOf (boolK P w) p [(true, .str a t1), (false, .str b t2)]
section
variable {X : Cx} {a b : Str} {i : Expr} {te : TE} {k1 k2 k3 k4 : Nat} {p1 p2 p3 p4 dp pos : Pos}
def tPick (P : Program) (w : World) (a b : Str) (te : TE) : TE := fun σ H Q => ∀ p, H p = none → te σ (upd H p (BDO P w p a b)) fun x H1 => ∃ t, x = .bl t ∧ H1 p = some (BDO P w p a b) ∧ Q (.str (if t = true then a else b)) H1
theorem pe_pick (hi : PE X i te) (hs : NoSl i) : PE X (.Subscript (.Dict [some (.Constant (.bool true) k1 p1), some (.Constant (.bool false) k2 p2)] [.Constant (.str a) k3 p3, .Constant (.str b) k4 p4] dp) i pos) (tPick X.prog X.w a b te) where
  run := fun pins s σ H Q I h => by
    refine subD_of (T := "dict") F.slot_dict_getitem.lookup hs (wpAny_Dict_walk (knd := boolK X.prog X.w) rfl rfl (by simp) (by simp) ?_)
    refine pairTrees_cons_walk (PyProof.Rows.Constant_bool (Calls.Constant_str (pairTrees_cons_walk (PyProof.Rows.Constant_bool (Calls.Constant_str (pairTrees_nil_walk ?_))))))
    refine ⟨[(true, _), (false, _)], ⟨boolK_is _ _ _, rfl, boolK_is _ _ _, rfl, trivial⟩, Heap.DictOf.new _, fun h' dd sb => ?_⟩
    have free := I.hok.fresh (Nat.le_refl s.heap.objs.size)
    have kp : ∀ c o, s.heap.get? c = some o → h'.get? c = some o := fun c o e => (sb.2 c (Nat.ne_of_lt (Heap.lt_size e))).trans (Heap.get?_push_of_some _ e)
    have ok : ObjOk X.prog X.w (upd H s.heap.objs.size (BDO X.prog X.w s.heap.objs.size a b)) h' s.heap.objs.size (BDO X.prog X.w s.heap.objs.size a b) := by
      have ⟨o, _, _, ho, _⟩ := dd
      exact ⟨⟨_, _, dd⟩, ⟨o, ho⟩, fun h1 h2 ⟨t1, t2, p⟩ k => ⟨t1, t2, p.at k⟩⟩
    have I1 := I.laid (t' := s.toks + 1 + 1 + [(Value.bool true, Value.none), (Value.bool false, Value.none)].length) kp (Nat.le_refl _) ok
    refine thn (hi.run pins _ σ _ _ I1 (h _ free)) fun iv s2 ⟨x, H1, I2, r1, t, ex, hp, q⟩ => ?_
    subst ex
    obtain rfl : iv = .bool t := r1
    obtain ⟨t1, t2, d2⟩ := (show ∃ t1 t2, s2.heap.DictOf (boolK X.prog X.w) s.heap.objs.size [(true, .str a t1), (false, .str b t2)] from (I2.hok _ _ hp).1)
    refine ⟨d2.typeIs, ?_⟩
    cases t with
    | true => exact wpAny_getItem_of (boolK_is _ _ _) d2.mapOf (v := .str a t1) rfl ⟨.str a, H1, I2.tok _, ⟨t1, rfl⟩, q⟩
    | false => exact wpAny_getItem_of (boolK_is _ _ _) d2.mapOf (v := .str b t2) rfl ⟨.str b, H1, I2.tok _, ⟨t2, rfl⟩, q⟩
end
end L2
namespace ND
open PySem L2
section
variable {X : Cx} {W : WX} {cur : Cur} {hid : List Addr} {m : EM} {a b : Str} {i : Expr} {k1 k2 k3 k4 : Nat} {p1 p2 p3 p4 dp pos : Pos}
def pickD (a b : Str) (d : D) : M D := match d with
  | .bl t => pure (.str (if t = true then a else b))
  | _ => M.no
theorem d_pick (oka : SOk a) (okb : SOk b) (hi : PE X i (tE (gx X cur hid) W m)) (hs : NoSl i) : PE X (.Subscript (.Dict [some (.Constant (.bool true) k1 p1), some (.Constant (.bool false) k2 p2)] [.Constant (.str a) k3 p3, .Constant (.str b) k4 p4] dp) i pos) (tE (gx X cur hid) W (mUn (pickD a b) m)) :=
  PE.imp (pe_pick hi hs) fun σ H Q ⟨c, S, τ, r, s, o⟩ p free => by
    have f := Fut.new (o := BDO X.prog X.w p a b) r free
    have h0 := Fut.frz_new (g := gx X cur hid) (o := BDO X.prog X.w p a b) r free
    refine ⟨c, S, τ, f.rep, s.mono f.ex f.pre, (Out.bind (o.fut f)).imp fun d c1 S1 H1 f1 o1 v hv => ?_⟩
    unfold pickD at o1
    split at o1
    · rename_i t
      cases hv
      have ok : SOk (if t = true then a else b) := by cases t <;> assumption
      exact ⟨t, rfl, (frz_of (f1.ex _ _ h0)).1, o1 H1 c1 (Fut.refl f1.rep) _ (.str ok)⟩
    · exact o1.elim
end
end ND
namespace NA
open PySem L2 ND
noncomputable def b_written : SM := (sRet (mIf (mAsT (mBin (eqvD true) (mVar 0) (mTup mNil))) (mMeth "str" joinD (mC (.str "")) (mCons (mComp (mWalkT (mVar 0)) [1] (.nm 1) tYesD (mIf (mTru (mVar 1)) (mC (.str "y")) (mC (.str "n")))) mNil)) (mC (.str "."))))
noncomputable def m_written : List D → M D := mFn ["filling", "truth"] b_written
noncomputable def b_Lot____str__ : SM := (sThen (sIf (mAsT (mBin (eqvD false) (mUn (fldD ["Lot"] "mask") (mVar 0)) (mC (.int 0)))) (sRet (mC (.str "none"))) sSkip) (sRet (mMeth "str" joinD (mC (.str " ")) (mCons (mComp (mWalkL (mFix (mMethI "Lot" "fillings" 1 m_Lot__fillings (mVar 0) mNil))) [1] (.nm 1) tYesD (mCall (arity 1 m_written) (mCons (mVar 1) mNil))) mNil))))
noncomputable def m_Lot____str__ : List D → M D := mFn ["self", "filling"] b_Lot____str__
noncomputable def b_Lot____repr__ : SM := (sRet (jsL [(mC (.str "Lot(")), (mFmt (mCall (lenOD "Lot" m_Lot____len__) (mCons (mVar 0) mNil))), (mC (.str " of ")), (mFmt (mBin shlD (mC (.int 1)) (mCall lenSD (mCons (mUn (fldD ["Lot"] "names") (mVar 0)) mNil)))), (mC (.str ")"))] Str.empty))
noncomputable def m_Lot____repr__ : List D → M D := mFn ["self"] b_Lot____repr__
noncomputable def b_law_text : SM := (sThen (sIf (mAsT (mBin (eqvD false) (mVar 0) (mLst mNil))) (sRet (mC (.str "none"))) sSkip) (sThen (sSet 1 (mComp (mWalkL (mVar 0)) [2] (.nm 2) tYesD (mMeth "str" joinD (mC (.str "")) (mCons (mComp (mWalkT (mVar 2)) [4] (.nm 4) tYesD (mUn (pickD "y" "n") (mVar 4))) mNil)))) (sRet (mMeth "str" joinD (mC (.str " ")) (mCons (mComp (mWalkL (mVar 1)) [3] (.nm 3) tYesD (mIf (mAsT (mBin (eqvD true) (mVar 3) (mC (.str "")))) (mVar 3) (mC (.str ".")))) mNil)))))
noncomputable def m_law_text : List D → M D := mFn ["_law_left", "_law_some", "_law_filling", "_law_one", "_law_truth"] b_law_text
end NA
set_option maxHeartbeats 4000000
namespace K04
open PySem L2 ND NA
def top (i : Nat) : Stmt := PySem.Challenge.pw_newsahead_k04_lots_alike_and_written.main.body.getD i (.Pass ⟨0, 0, 0, 0⟩)
def inClass (s : Stmt) (j : Nat) : Stmt := match s with
  | .ClassDef _ _ _ b _ _ _ _ _ _ _ => b.getD j (.Pass ⟨0, 0, 0, 0⟩)
  | _ => .Pass ⟨0, 0, 0, 0⟩
structure Txt (K : PySem.W.Frag) (mg : Str → Option Value) : Type where
  a_is_name : Addr
  fd_is_name : FuncData
  F_is_name : FunD K "is_name" "is_name" (defArgs (top 7)) (defBody (top 7)) (defScope (top 7)) [] [] a_is_name fd_is_name
  B_is_name : Binds K fd_is_name ["thing"] []
  g_is_name : mg "is_name" = some (.ref a_is_name)
  a_are_names : Addr
  fd_are_names : FuncData
  F_are_names : FunD K "are_names" "are_names" (defArgs (top 8)) (defBody (top 8)) (defScope (top 8)) [] [] a_are_names fd_are_names
  B_are_names : Binds K fd_are_names ["thing"] []
  g_are_names : mg "are_names" = some (.ref a_are_names)
  a_mask_of : Addr
  fd_mask_of : FuncData
  F_mask_of : FunD K "mask_of" "mask_of" (defArgs (top 9)) (defBody (top 9)) (defScope (top 9)) [] [] a_mask_of fd_mask_of
  B_mask_of : Binds K fd_mask_of ["names", "pairs"] []
  g_mask_of : mg "mask_of" = some (.ref a_mask_of)
  a_filling_at : Addr
  fd_filling_at : FuncData
  F_filling_at : FunD K "filling_at" "filling_at" (defArgs (top 10)) (defBody (top 10)) (defScope (top 10)) [] [] a_filling_at fd_filling_at
  B_filling_at : Binds K fd_filling_at ["names", "place"] []
  g_filling_at : mg "filling_at" = some (.ref a_filling_at)
  a_written : Addr
  fd_written : FuncData
  F_written : FunD K "written" "written" (defArgs (top 11)) (defBody (top 11)) (defScope (top 11)) [] [] a_written fd_written
  B_written : Binds K fd_written ["filling"] []
  g_written : mg "written" = some (.ref a_written)
  a_Lot____init__ : Addr
  fd_Lot____init__ : FuncData
  F_Lot____init__ : FunD K "__init__" "Lot.__init__" (defArgs (inClass (top 12) 0)) (defBody (inClass (top 12) 0)) (defScope (inClass (top 12) 0)) [] [] a_Lot____init__ fd_Lot____init__
  B_Lot____init__ : Binds K fd_Lot____init__ ["self", "names"] []
  a_lot_of : Addr
  fd_lot_of : FuncData
  F_lot_of : FunD K "lot_of" "lot_of" (defArgs (top 13)) (defBody (top 13)) (defScope (top 13)) [] [] a_lot_of fd_lot_of
  B_lot_of : Binds K fd_lot_of ["names", "mask"] []
  g_lot_of : mg "lot_of" = some (.ref a_lot_of)
  a_Lot____eq__ : Addr
  fd_Lot____eq__ : FuncData
  F_Lot____eq__ : FunD K "__eq__" "Lot.__eq__" (defArgs (inClass (top 12) 1)) (defBody (inClass (top 12) 1)) (defScope (inClass (top 12) 1)) [] [] a_Lot____eq__ fd_Lot____eq__
  B_Lot____eq__ : Binds K fd_Lot____eq__ ["self", "other"] []
  a_Lot__fillings : Addr
  fd_Lot__fillings : FuncData
  F_Lot__fillings : FunD K "fillings" "Lot.fillings" (defArgs (inClass (top 12) 8)) (defBody (inClass (top 12) 8)) (defScope (inClass (top 12) 8)) [] [] a_Lot__fillings fd_Lot__fillings
  B_Lot__fillings : Binds K fd_Lot__fillings ["self"] []
  a_Lot____len__ : Addr
  fd_Lot____len__ : FuncData
  F_Lot____len__ : FunD K "__len__" "Lot.__len__" (defArgs (inClass (top 12) 2)) (defBody (inClass (top 12) 2)) (defScope (inClass (top 12) 2)) [] [] a_Lot____len__ fd_Lot____len__
  B_Lot____len__ : Binds K fd_Lot____len__ ["self"] []
  a_Lot____str__ : Addr
  fd_Lot____str__ : FuncData
  F_Lot____str__ : FunD K "__str__" "Lot.__str__" (defArgs (inClass (top 12) 3)) (defBody (inClass (top 12) 3)) (defScope (inClass (top 12) 3)) [] [] a_Lot____str__ fd_Lot____str__
  B_Lot____str__ : Binds K fd_Lot____str__ ["self"] []
  a_Lot____repr__ : Addr
  fd_Lot____repr__ : FuncData
  F_Lot____repr__ : FunD K "__repr__" "Lot.__repr__" (defArgs (inClass (top 12) 4)) (defBody (inClass (top 12) 4)) (defScope (inClass (top 12) 4)) [] [] a_Lot____repr__ fd_Lot____repr__
  B_Lot____repr__ : Binds K fd_Lot____repr__ ["self"] []
  a_Lot__barred : Addr
  fd_Lot__barred : FuncData
  F_Lot__barred : FunD K "barred" "Lot.barred" (defArgs (inClass (top 12) 5)) (defBody (inClass (top 12) 5)) (defScope (inClass (top 12) 5)) [] [] a_Lot__barred fd_Lot__barred
  B_Lot__barred : Binds K fd_Lot__barred ["self", "tie"] []
  a_Lot__fitted : Addr
  fd_Lot__fitted : FuncData
  F_Lot__fitted : FunD K "fitted" "Lot.fitted" (defArgs (inClass (top 12) 6)) (defBody (inClass (top 12) 6)) (defScope (inClass (top 12) 6)) [] [] a_Lot__fitted fd_Lot__fitted
  B_Lot__fitted : Binds K fd_Lot__fitted ["self", "pairs"] []
  a_law_bag : Addr
  fd_law_bag : FuncData
  F_law_bag : FunD K "_law_bag" "_law_bag" (defArgs (top 15)) (defBody (top 15)) (defScope (top 15)) [] [] a_law_bag fd_law_bag
  B_law_bag : Binds K fd_law_bag ["_law_script", "_law_at"] []
  g_law_bag : mg "_law_bag" = some (.ref a_law_bag)
  a_law_take : Addr
  fd_law_take : FuncData
  F_law_take : FunD K "_law_take" "_law_take" (defArgs (top 16)) (defBody (top 16)) (defScope (top 16)) [] [] a_law_take fd_law_take
  B_law_take : Binds K fd_law_take ["_law_bag_here", "_law_many"] []
  g_law_take : mg "_law_take" = some (.ref a_law_take)
  a_law_names : Addr
  fd_law_names : FuncData
  F_law_names : FunD K "_law_names" "_law_names" (defArgs (top 17)) (defBody (top 17)) (defScope (top 17)) [] [] a_law_names fd_law_names
  B_law_names : Binds K fd_law_names ["_law_bag_here", "_law_many"] []
  g_law_names : mg "_law_names" = some (.ref a_law_names)
  a_law_pairs : Addr
  fd_law_pairs : FuncData
  F_law_pairs : FunD K "_law_pairs" "_law_pairs" (defArgs (top 18)) (defBody (top 18)) (defScope (top 18)) [] [] a_law_pairs fd_law_pairs
  B_law_pairs : Binds K fd_law_pairs ["_law_bag_here", "_law_names_here", "_law_fewest", "_law_most"] []
  g_law_pairs : mg "_law_pairs" = some (.ref a_law_pairs)
  a_law_fillings : Addr
  fd_law_fillings : FuncData
  F_law_fillings : FunD K "_law_fillings" "_law_fillings" (defArgs (top 19)) (defBody (top 19)) (defScope (top 19)) [] [] a_law_fillings fd_law_fillings
  B_law_fillings : Binds K fd_law_fillings ["_law_many"] []
  g_law_fillings : mg "_law_fillings" = some (.ref a_law_fillings)
  a_law_fits : Addr
  fd_law_fits : FuncData
  F_law_fits : FunD K "_law_fits" "_law_fits" (defArgs (top 20)) (defBody (top 20)) (defScope (top 20)) [] [] a_law_fits fd_law_fits
  B_law_fits : Binds K fd_law_fits ["_law_names_here", "_law_filling", "_law_pairs_here"] []
  g_law_fits : mg "_law_fits" = some (.ref a_law_fits)
  a_law_any : Addr
  fd_law_any : FuncData
  F_law_any : FunD K "_law_any" "_law_any" (defArgs (top 21)) (defBody (top 21)) (defScope (top 21)) [] [] a_law_any fd_law_any
  B_law_any : Binds K fd_law_any ["_law_bag_here"] []
  g_law_any : mg "_law_any" = some (.ref a_law_any)
  a_law_lot : Addr
  fd_law_lot : FuncData
  F_law_lot : FunD K "_law_lot" "_law_lot" (defArgs (top 22)) (defBody (top 22)) (defScope (top 22)) [] [] a_law_lot fd_law_lot
  B_law_lot : Binds K fd_law_lot ["_law_names_here", "_law_ties"] []
  g_law_lot : mg "_law_lot" = some (.ref a_law_lot)
  a_law_text : Addr
  fd_law_text : FuncData
  F_law_text : FunD K "_law_text" "_law_text" (defArgs (top 23)) (defBody (top 23)) (defScope (top 23)) [] [] a_law_text fd_law_text
  B_law_text : Binds K fd_law_text ["_law_left"] []
  g_law_text : mg "_law_text" = some (.ref a_law_text)
  a_law : Addr
  fd_law : FuncData
  F_law : FunD K "law" "law" (defArgs (top 24)) (defBody (top 24)) (defScope (top 24)) [] [] a_law fd_law
  B_law : Binds K fd_law ["_law_script"] []
  g_law : mg "law" = some (.ref a_law)
  C_NoHouse : Addr
  f_NoHouse : Addr
  e_NoHouse : PySem.ErrX.ErrTxt K mg "NoHouse" "NoHouse.__init__" "part" C_NoHouse f_NoHouse
  C_Lot : Addr
  gC_Lot : mg "Lot" = some (.ref C_Lot)
  cls_Lot : Cls K C_Lot
  mk_Lot : Mk K C_Lot a_Lot____init__
  na_Lot___bool__ : NoAttr K C_Lot "__bool__"
  na_Lot_mask : NoAttr K C_Lot "mask"
  na_Lot_names : NoAttr K C_Lot "names"
  mt_Lot____eq__ : Meth K C_Lot "__eq__" a_Lot____eq__
  mt_Lot____len__ : Meth K C_Lot "__len__" a_Lot____len__
  mt_Lot____repr__ : Meth K C_Lot "__repr__" a_Lot____repr__
  mt_Lot____str__ : Meth K C_Lot "__str__" a_Lot____str__
  mt_Lot__barred : Meth K C_Lot "barred" a_Lot__barred
  mt_Lot__fillings : Meth K C_Lot "fillings" a_Lot__fillings
  mt_Lot__fitted : Meth K C_Lot "fitted" a_Lot__fitted
  ic_Lot : IcOk K C_Lot
  c_LETTERS : ∃ t, mg "LETTERS" = some (.str "abcdefghijklmnopqrstuvwxyz" t)
  c_MOST_NAMES : ∃ t, mg "MOST_NAMES" = some (.int 10 t)
  c_MOST_SIGNS : ∃ t, mg "MOST_SIGNS" = some (.int 8 t)
  n_abs : mg "abs" = none
  n_all : mg "all" = none
  n_dict : mg "dict" = none
  n_isinstance : mg "isinstance" = none
  n_len : mg "len" = none
  n_list : mg "list" = none
  n_max : mg "max" = none
  n_min : mg "min" = none
  n_range : mg "range" = none
  n_repr : mg "repr" = none
  n_set : mg "set" = none
  n_sorted : mg "sorted" = none
  n_str : mg "str" = none
  n_tuple : mg "tuple" = none
  n_zip : mg "zip" = none
section
variable {P : Program} {w : World} {K : PySem.W.Frag} {mg : Str → Option Value} {base : Heap}
theorem sc_is_name : FnScope ["thing", "sign"] ["thing"] (defScope (top 7)) := ⟨rfl, rfl, rfl, by decide +kernel, rfl, by decide +kernel, by decide +kernel⟩
theorem ok_is_name (T : Txt K mg) : FnD P w K mg base 1 T.a_is_name T.fd_is_name ["thing"] m_is_name := fn_ok T.F_is_name sc_is_name fun cdv A outer s H E hid hr tk =>
  (dss_one (ds_ret (d_and (d_callB call_isi cd_isi rfl T.n_isinstance bt_isinstance (d_acons (d_var (i := 0)) (d_acons (d_ty rfl T.n_str bt_str) d_anil))) (d_and (d_chain or_le or_le od_cmp od_cmp d_int (d_callB cr_lenA cd_lenA rfl T.n_len bt_len (d_acons (d_var (i := 0)) d_anil)) (d_globI rfl T.c_MOST_SIGNS)) (d_one (d_callB (cr_all rfl) cd_bls rfl T.n_all bt_all (d_acons (d_comp (own := [("sign", 1)]) rfl sc_is_name.nd (di_str (d_var (i := 0))) (blkOk_by (N := ["thing", "sign"]) (sc := (defScope (top 7))) (own := [("sign", 1)]) (by decide +kernel)) (fun _ _ _ _ _ => (dg_name (i := 1) sc_is_name.nd rfl (by first | exact .inl rfl | exact .inr rfl))) (fun _ _ _ _ _ _ => dts_nil) (fun _ _ _ _ _ _ => (d_cmp (or_in (room65 hr)) od_in (d_var (i := 1)) (d_globS rfl T.c_LETTERS (sOk_of (by decide +kernel))) (by rfl))) (by decide)) d_anil)))))))
theorem sc_are_names : FnScope ["thing", "one"] ["thing"] (defScope (top 8)) := ⟨rfl, rfl, rfl, by decide +kernel, rfl, by decide +kernel, by decide +kernel⟩
theorem ok_are_names (T : Txt K mg) : FnD P w K mg base 2 T.a_are_names T.fd_are_names ["thing"] m_are_names := fn_ok T.F_are_names sc_are_names fun cdv A outer s H E hid hr tk =>
  (dss_cons (ds_if (PW.pt (dw_or (dt_not (dt_val (d_callB call_isi cd_isi rfl T.n_isinstance bt_isinstance (d_acons (d_var (i := 0)) (d_acons (d_ty rfl T.n_tuple bt_tuple) d_anil))))) (dw_or (dt_cmp or_gt od_cmp (d_callB cr_lenA cd_lenA rfl T.n_len bt_len (d_acons (d_var (i := 0)) d_anil)) (d_globI rfl T.c_MOST_NAMES) (nomark _)) (dw_or1 (dt_not (dt_val (d_callB (cr_all rfl) cd_bls rfl T.n_all bt_all (d_acons (d_comp (own := [("one", 1)]) rfl sc_are_names.nd (di_tup (d_var (i := 0))) (blkOk_by (N := ["thing", "one"]) (sc := (defScope (top 8))) (own := [("one", 1)]) (by decide +kernel)) (fun _ _ _ _ _ => (dg_name (i := 1) sc_are_names.nd rfl (by first | exact .inl rfl | exact .inr rfl))) (fun _ _ _ _ _ _ => dts_nil) (fun _ _ _ _ _ _ => (d_call (ok_is_name T) (hr.mono (by decide)) rfl T.g_is_name T.F_is_name.kp T.B_is_name takesF (d_acons (d_var (i := 1)) d_anil))) (by decide)) d_anil)))))))) (dss_one (ds_ret d_bl)) dss_nil) (dss_one (ds_ret (d_cmp (op_eqD hr.units) od_eq (d_callB cr_lenA cd_lenA rfl T.n_len bt_len (d_acons (d_callTy (cr_setK rfl) cd_set rfl T.n_set bt_set (d_acons (d_var (i := 0)) d_anil)) d_anil)) (d_callB cr_lenA cd_lenA rfl T.n_len bt_len (d_acons (d_var (i := 0)) d_anil)) (nomark _)))))
theorem sc_mask_of : FnScope ["names", "pairs", "wanted", "mask", "size", "name"] ["names", "pairs"] (defScope (top 9)) := ⟨rfl, rfl, rfl, by decide +kernel, rfl, by decide +kernel, by decide +kernel⟩
theorem ok_mask_of (T : Txt K mg) : FnD P w K mg base 1 T.a_mask_of T.fd_mask_of ["names", "pairs"] m_mask_of := fn_ok T.F_mask_of sc_mask_of fun cdv A outer s H E hid hr tk =>
  (dss_cons (ds_set (i := 2) sc_mask_of.nd rfl (by first | exact .inl rfl | exact .inr rfl) (d_callTy (call_dictA rfl) cd_dictA rfl T.n_dict bt_dict (d_acons (d_var (i := 1)) d_anil))) (dss_cons (ds_asg2 (i := 3) (j := 4) sc_mask_of.nd rfl (by first | exact .inl rfl | exact .inr rfl) rfl (by first | exact .inl rfl | exact .inr rfl) d_int) (dss_cons (ds_for (passes_of rfl) rfl (di_tup (d_revT (d_var (i := 0)))) (dg_name (i := 5) sc_mask_of.nd rfl (by first | exact .inl rfl | exact .inr rfl)) (dss_cons (ds_if (dt_cmp (or_notin (room65 hr)) od_in (d_var (i := 5)) (d_var (i := 2)) (by rfl)) (dss_one (ds_aug (i := 3) sc_mask_of.nd rfl (by first | exact .inl rfl | exact .inr rfl) (d_bin op_shlW od_shl (d_var (i := 3)) (d_var (i := 4))) iop_or od_or)) (dss_one (ds_if (dt_tru (d_ix (room1 hr) (d_var (i := 2)) (d_var (i := 5)) (fun _ _ => rfl))) (dss_one (ds_aug (i := 3) sc_mask_of.nd rfl (by first | exact .inl rfl | exact .inr rfl) (d_var (i := 4)) iop_shlW od_shl)) dss_nil))) (dss_one (ds_aug (i := 4) sc_mask_of.nd rfl (by first | exact .inl rfl | exact .inr rfl) d_int iop_mul od_mulI)))) (dss_one (ds_ret (d_var (i := 3)))))))
theorem sc_filling_at : FnScope ["names", "place", "many", "at"] ["names", "place"] (defScope (top 10)) := ⟨rfl, rfl, rfl, by decide +kernel, rfl, by decide +kernel, by decide +kernel⟩
theorem ok_filling_at (T : Txt K mg) : FnD P w K mg base 1 T.a_filling_at T.fd_filling_at ["names", "place"] m_filling_at := fn_ok T.F_filling_at sc_filling_at fun cdv A outer s H E hid hr tk =>
  (dss_cons (ds_set (i := 2) sc_filling_at.nd rfl (by first | exact .inl rfl | exact .inr rfl) (d_callB cr_lenA cd_lenA rfl T.n_len bt_len (d_acons (d_var (i := 0)) d_anil))) (dss_one (ds_ret (d_callTy call_tupleF cd_tuple rfl T.n_tuple bt_tuple (d_acons (d_comp (own := [("at", 3)]) rfl sc_filling_at.nd (di_rng1 rfl T.n_range (d_acons (d_var (i := 2)) d_anil)) (blkOk_by (N := ["names", "place", "many", "at"]) (sc := (defScope (top 10))) (own := [("at", 3)]) (by decide +kernel)) (fun _ _ _ _ _ => (dg_name (i := 3) sc_filling_at.nd rfl (by first | exact .inl rfl | exact .inr rfl))) (fun _ _ _ _ _ _ => dts_nil) (fun _ _ _ _ _ _ => (d_cmp (op_eqD hr.units) od_eq (d_bin op_and od_and (d_bin op_shr od_shr (d_var (i := 1)) (d_bin op_sub od_sub (d_bin op_sub od_sub (d_var (i := 2)) d_int) (d_var (i := 3)))) d_int) d_int (nomark _))) (by decide)) d_anil)))))
theorem sc_written : FnScope ["filling", "truth"] ["filling"] (defScope (top 11)) := ⟨rfl, rfl, rfl, by decide +kernel, rfl, by decide +kernel, by decide +kernel⟩
theorem ok_written (T : Txt K mg) : FnD P w K mg base 1 T.a_written T.fd_written ["filling"] m_written := fn_ok T.F_written sc_written fun cdv A outer s H E hid hr tk =>
  (dss_one (ds_ret (d_ifx (dt_cmp (op_neD hr.units) od_ne (d_var (i := 0)) (d_tup d_anil) (nomark _)) (d_meth PySem.F.plainAttrs_str PySem.F.slot_str_join PySem.F.type_str_join mt_join md_join (.inl rfl) (d_str (sOk_of (by decide +kernel))) (d_acons (d_comp (own := [("truth", 1)]) rfl sc_written.nd (di_tup (d_var (i := 0))) (blkOk_by (N := ["filling", "truth"]) (sc := (defScope (top 11))) (own := [("truth", 1)]) (by decide +kernel)) (fun _ _ _ _ _ => (dg_name (i := 1) sc_written.nd rfl (by first | exact .inl rfl | exact .inr rfl))) (fun _ _ _ _ _ _ => dts_nil) (fun _ _ _ _ _ _ => (d_ifx (dt_tru (d_var (i := 1))) (d_str (sOk_of (by decide +kernel))) (d_str (sOk_of (by decide +kernel))))) (by decide)) d_anil)) (d_str (sOk_of (by decide +kernel))))))
theorem sc_Lot____init__ : FnScope ["self", "names"] ["self", "names"] (defScope (inClass (top 12) 0)) := ⟨rfl, rfl, rfl, by decide +kernel, rfl, by decide +kernel, by decide +kernel⟩
theorem ok_Lot____init__ (T : Txt K mg) : FnD P w K mg base 3 T.a_Lot____init__ T.fd_Lot____init__ ["self", "names"] m_Lot____init__ := fn_ok T.F_Lot____init__ sc_Lot____init__ fun cdv A outer s H E hid hr tk =>
  (dss_cons (ds_if (dt_not (dt_val (d_call (ok_are_names T) (hr.mono (by decide)) rfl T.g_are_names T.F_are_names.kp T.B_are_names tk (d_acons (d_var (i := 1)) d_anil)))) (dss_one (ds_raise rfl T.e_NoHouse hr tk (d_str (sOk_of (by decide +kernel))) rfl)) dss_nil) (dss_cons (ds_fld (fld1 T.gC_Lot T.cls_Lot T.na_Lot_names) (d_var (i := 0)) (d_var (i := 1))) (dss_one (ds_fld (fld1 T.gC_Lot T.cls_Lot T.na_Lot_mask) (d_var (i := 0)) (d_call (ok_mask_of T) (hr.mono (by decide)) rfl T.g_mask_of T.F_mask_of.kp T.B_mask_of tk (d_acons (d_var (i := 1)) (d_acons (d_tup d_anil) d_anil)))))))
theorem sc_lot_of : FnScope ["names", "mask", "lot"] ["names", "mask"] (defScope (top 13)) := ⟨rfl, rfl, rfl, by decide +kernel, rfl, by decide +kernel, by decide +kernel⟩
theorem ok_lot_of (T : Txt K mg) : FnD P w K mg base 5 T.a_lot_of T.fd_lot_of ["names", "mask"] m_lot_of := fn_ok T.F_lot_of sc_lot_of fun cdv A outer s H E hid hr tk =>
  (dss_cons (ds_set (i := 2) sc_lot_of.nd rfl (by first | exact .inl rfl | exact .inr rfl) (d_make T.mk_Lot (ok_Lot____init__ T) (hr.mono (by decide)) rfl T.gC_Lot T.B_Lot____init__ tk (d_acons (d_var (i := 0)) d_anil))) (dss_cons (ds_fld (fld1 T.gC_Lot T.cls_Lot T.na_Lot_mask) (d_var (i := 2)) (d_var (i := 1))) (dss_one (ds_ret (d_var (i := 2))))))
theorem sc_Lot____eq__ : FnScope ["self", "other"] ["self", "other"] (defScope (inClass (top 12) 1)) := ⟨rfl, rfl, rfl, by decide +kernel, rfl, by decide +kernel, by decide +kernel⟩
theorem ok_Lot____eq__ (T : Txt K mg) : FnD P w K mg base 1 T.a_Lot____eq__ T.fd_Lot____eq__ ["self", "other"] m_Lot____eq__ := fn_ok T.F_Lot____eq__ sc_Lot____eq__ fun cdv A outer s H E hid hr tk =>
  (dss_one (ds_ret (d_and (d_isiC T.gC_Lot T.ic_Lot T.cls_Lot (d_var (i := 1)) rfl T.n_isinstance) (d_and (d_cmp (op_eqD hr.units) od_eq (d_fld (fld1 T.gC_Lot T.cls_Lot T.na_Lot_names) (d_var (i := 0))) (d_fld (fld1 T.gC_Lot T.cls_Lot T.na_Lot_names) (d_var (i := 1))) (nomark _)) (d_one (d_cmp (op_eqD hr.units) od_eq (d_fld (fld1 T.gC_Lot T.cls_Lot T.na_Lot_mask) (d_var (i := 0))) (d_fld (fld1 T.gC_Lot T.cls_Lot T.na_Lot_mask) (d_var (i := 1))) (nomark _)))))))
theorem sc_Lot__fillings : FnScope ["self", "place"] ["self"] (defScope (inClass (top 12) 8)) := ⟨rfl, rfl, rfl, by decide +kernel, rfl, by decide +kernel, by decide +kernel⟩
theorem ok_Lot__fillings (T : Txt K mg) : FnD P w K mg base 2 T.a_Lot__fillings T.fd_Lot__fillings ["self"] m_Lot__fillings := fn_ok T.F_Lot__fillings sc_Lot__fillings fun cdv A outer s H E hid hr tk =>
  (dss_one (ds_ret (d_compC (own := [("place", 1)]) rfl sc_Lot__fillings.nd (di_rng1 rfl T.n_range (d_acons (d_bin op_shlW od_shl d_int (d_callB cr_lenA cd_lenA rfl T.n_len bt_len (d_acons (d_fld (fld1 T.gC_Lot T.cls_Lot T.na_Lot_names) (d_var (i := 0))) d_anil))) d_anil)) (blkOk_by (N := ["self", "place"]) (sc := (defScope (inClass (top 12) 8))) (own := [("place", 1)]) (by decide +kernel)) (fun _ _ _ _ _ => (dg_name (i := 1) sc_Lot__fillings.nd rfl (by first | exact .inl rfl | exact .inr rfl))) (fun _ _ _ _ _ _ => (dts_one (dt_tru (d_bin op_and od_and (d_bin op_shr od_shr (d_fld (fld1 T.gC_Lot T.cls_Lot T.na_Lot_mask) (d_var (i := 0))) (d_var (i := 1))) d_int)))) (fun _ _ _ _ _ _ => (d_call (ok_filling_at T) (hr.mono (by decide)) rfl T.g_filling_at T.F_filling_at.kp T.B_filling_at takesF (d_acons (d_fld (fld1 T.gC_Lot T.cls_Lot T.na_Lot_names) (d_var (i := 0))) (d_acons (d_var (i := 1)) d_anil)))) (by decide))))
theorem sc_Lot____len__ : FnScope ["self"] ["self"] (defScope (inClass (top 12) 2)) := ⟨rfl, rfl, rfl, by decide +kernel, rfl, by decide +kernel, by decide +kernel⟩
theorem ok_Lot____len__ (T : Txt K mg) : FnD P w K mg base 3 T.a_Lot____len__ T.fd_Lot____len__ ["self"] m_Lot____len__ := fn_ok T.F_Lot____len__ sc_Lot____len__ fun cdv A outer s H E hid hr tk =>
  (dss_one (ds_ret (d_callB cr_lenA cd_lenA rfl T.n_len bt_len (d_acons (d_methI0 T.cls_Lot T.mt_Lot__fillings (ok_Lot__fillings T) (hr.mono (by decide)) T.gC_Lot T.B_Lot__fillings tk (d_var (i := 0))) d_anil))))
theorem sc_Lot____str__ : FnScope ["self", "filling"] ["self"] (defScope (inClass (top 12) 3)) := ⟨rfl, rfl, rfl, by decide +kernel, rfl, by decide +kernel, by decide +kernel⟩
theorem ok_Lot____str__ (T : Txt K mg) : FnD P w K mg base 3 T.a_Lot____str__ T.fd_Lot____str__ ["self"] m_Lot____str__ := fn_ok T.F_Lot____str__ sc_Lot____str__ fun cdv A outer s H E hid hr tk =>
  (dss_cons (ds_if (dt_cmp (op_eqD hr.units) od_eq (d_fld (fld1 T.gC_Lot T.cls_Lot T.na_Lot_mask) (d_var (i := 0))) d_int (nomark _)) (dss_one (ds_ret (d_str (sOk_of (by decide +kernel))))) dss_nil) (dss_one (ds_ret (d_meth PySem.F.plainAttrs_str PySem.F.slot_str_join PySem.F.type_str_join mt_join md_join (.inl rfl) (d_str (sOk_of (by decide +kernel))) (d_acons (d_comp (own := [("filling", 1)]) rfl sc_Lot____str__.nd (di_lst (d_fix (d_methI0 T.cls_Lot T.mt_Lot__fillings (ok_Lot__fillings T) (hr.mono (by decide)) T.gC_Lot T.B_Lot__fillings tk (d_var (i := 0))))) (blkOk_by (N := ["self", "filling"]) (sc := (defScope (inClass (top 12) 3))) (own := [("filling", 1)]) (by decide +kernel)) (fun _ _ _ _ _ => (dg_name (i := 1) sc_Lot____str__.nd rfl (by first | exact .inl rfl | exact .inr rfl))) (fun _ _ _ _ _ _ => dts_nil) (fun _ _ _ _ _ _ => (d_call (ok_written T) (hr.mono (by decide)) rfl T.g_written T.F_written.kp T.B_written takesF (d_acons (d_var (i := 1)) d_anil))) (by decide)) d_anil)))))
theorem sc_Lot____repr__ : FnScope ["self"] ["self"] (defScope (inClass (top 12) 4)) := ⟨rfl, rfl, rfl, by decide +kernel, rfl, by decide +kernel, by decide +kernel⟩
theorem ok_Lot____repr__ (T : Txt K mg) : FnD P w K mg base 5 T.a_Lot____repr__ T.fd_Lot____repr__ ["self"] m_Lot____repr__ := fn_ok T.F_Lot____repr__ sc_Lot____repr__ fun cdv A outer s H E hid hr tk =>
  (dss_one (ds_ret (d_js (.cons (d_str (sOk_of (by decide +kernel))) (.cons (d_fmt (d_callB (call_lenO (ownOf T.mt_Lot____len__) (ok_Lot____len__ T) (hr.mono (by decide)) T.B_Lot____len__ passF) (cd_lenO T.gC_Lot) rfl T.n_len bt_len (d_acons (d_var (i := 0)) d_anil))) (.cons (d_str (sOk_of (by decide +kernel))) (.cons (d_fmt (d_bin op_shlW od_shl d_int (d_callB cr_lenA cd_lenA rfl T.n_len bt_len (d_acons (d_fld (fld1 T.gC_Lot T.cls_Lot T.na_Lot_names) (d_var (i := 0))) d_anil)))) (.cons (d_str (sOk_of (by decide +kernel))) .nil))))))))
theorem sc_Lot__barred : FnScope ["self", "tie"] ["self", "tie"] (defScope (inClass (top 12) 5)) := ⟨rfl, rfl, rfl, by decide +kernel, rfl, by decide +kernel, by decide +kernel⟩
theorem ok_Lot__barred (T : Txt K mg) : FnD P w K mg base 6 T.a_Lot__barred T.fd_Lot__barred ["self", "tie"] m_Lot__barred := fn_ok T.F_Lot__barred sc_Lot__barred fun cdv A outer s H E hid hr tk =>
  (dss_one (ds_ret (d_call (ok_lot_of T) (hr.mono (by decide)) rfl T.g_lot_of T.F_lot_of.kp T.B_lot_of tk (d_acons (d_fld (fld1 T.gC_Lot T.cls_Lot T.na_Lot_names) (d_var (i := 0))) (d_acons (d_bin op_and od_and (d_fld (fld1 T.gC_Lot T.cls_Lot T.na_Lot_mask) (d_var (i := 0))) (d_un un_inv ud_inv (d_call (ok_mask_of T) (hr.mono (by decide)) rfl T.g_mask_of T.F_mask_of.kp T.B_mask_of tk (d_acons (d_fld (fld1 T.gC_Lot T.cls_Lot T.na_Lot_names) (d_var (i := 0))) (d_acons (d_var (i := 1)) d_anil))))) d_anil)))))
theorem sc_Lot__fitted : FnScope ["self", "pairs"] ["self", "pairs"] (defScope (inClass (top 12) 6)) := ⟨rfl, rfl, rfl, by decide +kernel, rfl, by decide +kernel, by decide +kernel⟩
theorem ok_Lot__fitted (T : Txt K mg) : FnD P w K mg base 6 T.a_Lot__fitted T.fd_Lot__fitted ["self", "pairs"] m_Lot__fitted := fn_ok T.F_Lot__fitted sc_Lot__fitted fun cdv A outer s H E hid hr tk =>
  (dss_one (ds_ret (d_call (ok_lot_of T) (hr.mono (by decide)) rfl T.g_lot_of T.F_lot_of.kp T.B_lot_of tk (d_acons (d_fld (fld1 T.gC_Lot T.cls_Lot T.na_Lot_names) (d_var (i := 0))) (d_acons (d_bin op_and od_and (d_fld (fld1 T.gC_Lot T.cls_Lot T.na_Lot_mask) (d_var (i := 0))) (d_call (ok_mask_of T) (hr.mono (by decide)) rfl T.g_mask_of T.F_mask_of.kp T.B_mask_of tk (d_acons (d_fld (fld1 T.gC_Lot T.cls_Lot T.na_Lot_names) (d_var (i := 0))) (d_acons (d_var (i := 1)) d_anil)))) d_anil)))))
theorem sc_law_bag : FnScope ["_law_script", "_law_at", "_law_great", "_law_mixed", "_law_cell", "_law_primes"] ["_law_script", "_law_at"] (defScope (top 15)) := ⟨rfl, rfl, rfl, by decide +kernel, rfl, by decide +kernel, by decide +kernel⟩
theorem ok_law_bag (T : Txt K mg) : FnD P w K mg base 1 T.a_law_bag T.fd_law_bag ["_law_script", "_law_at"] m_law_bag := fn_ok T.F_law_bag sc_law_bag fun cdv A outer s H E hid hr tk =>
  (dss_cons (ds_asg (d_tup (d_acons d_int (d_acons (d_tup (d_acons d_int (d_acons d_int (d_acons d_int (d_acons d_int (d_acons d_int (d_acons d_int (d_acons d_int (d_acons d_int d_anil))))))))) d_anil))) (dg_tup rfl (dgs_cons (dg_name (i := 4) sc_law_bag.nd rfl (by first | exact .inl rfl | exact .inr rfl)) (dgs_cons (dg_name (i := 5) sc_law_bag.nd rfl (by first | exact .inl rfl | exact .inr rfl)) dgs_nil)))) (dss_cons (ds_if (dt_cmp or_lt od_cmp (d_var (i := 1)) (d_callB cr_lenA cd_lenA rfl T.n_len bt_len (d_acons (d_var (i := 0)) d_anil)) (nomark _)) (dss_one (ds_set (i := 4) sc_law_bag.nd rfl (by first | exact .inl rfl | exact .inr rfl) (d_ix (room1 hr) (d_var (i := 0)) (d_var (i := 1)) (fun _ _ => rfl)))) dss_nil) (dss_cons (ds_set (i := 2) sc_law_bag.nd rfl (by first | exact .inl rfl | exact .inr rfl) (d_ifx (dt_cmp or_ge od_cmp (d_callB call_abs cd_abs rfl T.n_abs bt_abs (d_acons (d_var (i := 4)) d_anil)) (d_bin op_pow od_pow d_int d_int) (nomark _)) (d_callB call_abs cd_abs rfl T.n_abs bt_abs (d_acons (d_var (i := 4)) d_anil)) d_int)) (dss_cons (ds_set (i := 3) sc_law_bag.nd rfl (by first | exact .inl rfl | exact .inr rfl) (d_bin op_mod od_mod (d_bin op_pow od_pow (d_bin or_add od_add (d_bin or_add od_add (d_bin op_mod od_mod (d_var (i := 4)) d_int) (d_bin or_mul od_mul d_int (d_var (i := 1)))) d_int) d_int) (d_ix (room1 hr) (d_var (i := 5)) (d_bin op_mod od_mod (d_var (i := 1)) d_int) (fun _ _ => rfl)))) (dss_one (ds_ret (d_lstC (d_acons (d_var (i := 2)) (d_acons (d_bin op_mod od_mod (d_bin op_pow od_pow (d_bin or_add od_add (d_bin or_add od_add (d_bin or_mul od_mul (d_var (i := 3)) d_int) (d_bin or_mul od_mul d_int (d_var (i := 1)))) d_int) d_int) d_int) d_anil)))))))))
theorem sc_law_take : FnScope ["_law_bag_here", "_law_many", "_law_digit"] ["_law_bag_here", "_law_many"] (defScope (top 16)) := ⟨rfl, rfl, rfl, by decide +kernel, rfl, by decide +kernel, by decide +kernel⟩
theorem ok_law_take (T : Txt K mg) : FnD P w K mg base 1 T.a_law_take T.fd_law_take ["_law_bag_here", "_law_many"] m_law_take := fn_ok T.F_law_take sc_law_take fun cdv A outer s H E hid hr tk =>
  (dss_cons (ds_if (dt_cmp or_gt od_cmp (d_ix (room1 hr) (d_var (i := 0)) d_int (fun _ _ => rfl)) d_int (nomark _)) (dss_cons (ds_set (i := 2) sc_law_take.nd rfl (by first | exact .inl rfl | exact .inr rfl) (d_bin op_mod od_mod (d_ix (room1 hr) (d_var (i := 0)) d_int (fun _ _ => rfl)) (d_var (i := 1)))) (dss_cons (ds_put (ps_asg (d_bin op_fdiv od_fdiv (d_ix (room1 hr) (d_var (i := 0)) d_int (fun _ _ => rfl)) (d_var (i := 1))) (pg_sub (d_var (i := 0)) d_int set_list (by intro _; rfl)) (by rfl) (by rfl) (by rfl))) (dss_one (ds_ret (d_var (i := 2)))))) dss_nil) (dss_cons (ds_put (ps_asg (d_bin op_mod od_mod (d_bin or_add od_add (d_bin or_mul od_mul (d_ix (room1 hr) (d_var (i := 0)) d_int (fun _ _ => rfl)) d_int) d_int) d_int) (pg_sub (d_var (i := 0)) d_int set_list (by intro _; rfl)) (by rfl) (by rfl) (by rfl))) (dss_one (ds_ret (d_bin op_mod od_mod (d_bin op_mod od_mod (d_bin op_pow od_pow (d_bin op_fdiv od_fdiv (d_ix (room1 hr) (d_var (i := 0)) d_int (fun _ _ => rfl)) d_int) d_int) d_int) (d_var (i := 1)))))))
theorem sc_law_names : FnScope ["_law_bag_here", "_law_many", "_law_letters", "_law_stem", "_law_found", "_law_k", "_law_spot", "_law_first", "_law_pace", "_law_other"] ["_law_bag_here", "_law_many"] (defScope (top 17)) := ⟨rfl, rfl, rfl, by decide +kernel, rfl, by decide +kernel, by decide +kernel⟩
theorem ok_law_names (T : Txt K mg) : FnD P w K mg base 2 T.a_law_names T.fd_law_names ["_law_bag_here", "_law_many"] m_law_names := fn_ok T.F_law_names sc_law_names fun cdv A outer s H E hid hr tk =>
  (dss_cons (ds_set (i := 2) sc_law_names.nd rfl (by first | exact .inl rfl | exact .inr rfl) (d_str (sOk_of (by decide +kernel)))) (dss_cons (ds_set (i := 3) sc_law_names.nd rfl (by first | exact .inl rfl | exact .inr rfl) (d_meth PySem.F.plainAttrs_str PySem.F.slot_str_join PySem.F.type_str_join mt_join md_join (.inl rfl) (d_str (sOk_of (by decide +kernel))) (d_acons (d_comp (own := [("_law_k", 5)]) rfl sc_law_names.nd (di_rng1 rfl T.n_range (d_acons (d_ix (room1 hr) (d_lst (d_acons d_int (d_acons d_int (d_acons d_int (d_acons d_int (d_acons d_int d_anil)))))) (d_call (ok_law_take T) (hr.mono (by decide)) rfl T.g_law_take T.F_law_take.kp T.B_law_take tk (d_acons (d_var (i := 0)) (d_acons d_int d_anil))) (fun _ _ => rfl)) d_anil)) (blkOk_by (N := ["_law_bag_here", "_law_many", "_law_letters", "_law_stem", "_law_found", "_law_k", "_law_spot", "_law_first", "_law_pace", "_law_other"]) (sc := (defScope (top 17))) (own := [("_law_k", 5)]) (by decide +kernel)) (fun _ _ _ _ _ => (dg_name (i := 5) sc_law_names.nd rfl (by first | exact .inl rfl | exact .inr rfl))) (fun _ _ _ _ _ _ => dts_nil) (fun _ _ _ _ _ _ => (d_ix (room1 hr) (d_var (i := 2)) (d_call (ok_law_take T) (hr.mono (by decide)) rfl T.g_law_take T.F_law_take.kp T.B_law_take takesF (d_acons (d_var (i := 0)) (d_acons d_int d_anil))) (fun _ _ => rfl))) (by decide)) d_anil))) (dss_cons (ds_par3 (i := 6) (j := 7) (l := 8) (fun ta ha => ps_par3 rfl sc_law_names.nd rfl rfl rfl (by decide) (by decide) (by decide) rfl rfl rfl ha (by rfl)) (d_acons (d_call (ok_law_take T) (hr.mono (by decide)) rfl T.g_law_take T.F_law_take.kp T.B_law_take tk (d_acons (d_var (i := 0)) (d_acons (d_bin or_add od_add (d_callB cr_lenA cd_lenA rfl T.n_len bt_len (d_acons (d_var (i := 3)) d_anil)) d_int) d_anil))) (d_acons (d_call (ok_law_take T) (hr.mono (by decide)) rfl T.g_law_take T.F_law_take.kp T.B_law_take tk (d_acons (d_var (i := 0)) (d_acons d_int d_anil))) (d_acons (d_ix (room1 hr) (d_lst (d_acons d_int (d_acons d_int (d_acons d_int (d_acons d_int d_anil))))) (d_call (ok_law_take T) (hr.mono (by decide)) rfl T.g_law_take T.F_law_take.kp T.B_law_take tk (d_acons (d_var (i := 0)) (d_acons d_int d_anil))) (fun _ _ => rfl)) d_anil)))) (dss_cons (ds_set (i := 4) sc_law_names.nd rfl (by first | exact .inl rfl | exact .inr rfl) (d_lstC d_anil)) (dss_cons (ds_for (passes_of rfl) rfl (di_rng1 rfl T.n_range (d_acons (d_var (i := 1)) d_anil)) (dg_name (i := 5) sc_law_names.nd rfl (by first | exact .inl rfl | exact .inr rfl)) (dss_cons (ds_set (i := 9) sc_law_names.nd rfl (by first | exact .inl rfl | exact .inr rfl) (d_ix (room1 hr) (d_var (i := 2)) (d_bin op_mod od_mod (d_bin or_add od_add (d_var (i := 7)) (d_bin or_mul od_mul (d_var (i := 8)) (d_var (i := 5)))) d_int) (fun _ _ => rfl))) (dss_one (ds_expr (d_meth PySem.F.plainAttrs_list PySem.F.slot_list_append PySem.F.type_list_append mt_append md_append (.inr (.inl rfl)) (d_var (i := 4)) (d_acons (d_bin or_add od_add (d_bin or_add od_add (d_sl (d_var (i := 3)) d_po0 (d_po (d_var (i := 6)))) (d_var (i := 9))) (d_sl (d_var (i := 3)) (d_po (d_var (i := 6))) d_po0)) d_anil)))))) (dss_one (ds_ret (d_callTy call_tupleF cd_tuple rfl T.n_tuple bt_tuple (d_acons (d_var (i := 4)) d_anil)))))))))
theorem sc_law_pairs : FnScope ["_law_bag_here", "_law_names_here", "_law_fewest", "_law_most", "_law_places", "_law_place", "_law_turn"] ["_law_bag_here", "_law_names_here", "_law_fewest", "_law_most"] (defScope (top 18)) := ⟨rfl, rfl, rfl, by decide +kernel, rfl, by decide +kernel, by decide +kernel⟩
theorem ok_law_pairs (T : Txt K mg) : FnD P w K mg base 2 T.a_law_pairs T.fd_law_pairs ["_law_bag_here", "_law_names_here", "_law_fewest", "_law_most"] m_law_pairs := fn_ok T.F_law_pairs sc_law_pairs fun cdv A outer s H E hid hr tk =>
  (dss_cons (ds_set (i := 4) sc_law_pairs.nd rfl (by first | exact .inl rfl | exact .inr rfl) (d_sortset rfl rfl T.n_sorted rfl T.n_set (d_comp (own := [("_law_turn", 6)]) rfl sc_law_pairs.nd (di_rng1 rfl T.n_range (d_acons (d_bin or_add od_add (d_var (i := 2)) (d_call (ok_law_take T) (hr.mono (by decide)) rfl T.g_law_take T.F_law_take.kp T.B_law_take tk (d_acons (d_var (i := 0)) (d_acons (d_bin or_add od_add (d_bin op_sub od_sub (d_var (i := 3)) (d_var (i := 2))) d_int) d_anil)))) d_anil)) (blkOk_by (N := ["_law_bag_here", "_law_names_here", "_law_fewest", "_law_most", "_law_places", "_law_place", "_law_turn"]) (sc := (defScope (top 18))) (own := [("_law_turn", 6)]) (by decide +kernel)) (fun _ _ _ _ _ => (dg_name (i := 6) sc_law_pairs.nd rfl (by first | exact .inl rfl | exact .inr rfl))) (fun _ _ _ _ _ _ => dts_nil) (fun _ _ _ _ _ _ => (d_call (ok_law_take T) (hr.mono (by decide)) rfl T.g_law_take T.F_law_take.kp T.B_law_take takesF (d_acons (d_var (i := 0)) (d_acons (d_callB cr_lenA cd_lenA rfl T.n_len bt_len (d_acons (d_var (i := 1)) d_anil)) d_anil)))) (by decide)))) (dss_one (ds_ret (d_callTy call_tupleF cd_tuple rfl T.n_tuple bt_tuple (d_acons (d_comp (own := [("_law_place", 5)]) rfl sc_law_pairs.nd (di_lst (d_var (i := 4))) (blkOk_by (N := ["_law_bag_here", "_law_names_here", "_law_fewest", "_law_most", "_law_places", "_law_place", "_law_turn"]) (sc := (defScope (top 18))) (own := [("_law_place", 5)]) (by decide +kernel)) (fun _ _ _ _ _ => (dg_name (i := 5) sc_law_pairs.nd rfl (by first | exact .inl rfl | exact .inr rfl))) (fun _ _ _ _ _ _ => dts_nil) (fun _ _ _ _ _ _ => (d_tup (d_acons (d_ix (room1 hr) (d_var (i := 1)) (d_var (i := 5)) (fun _ _ => rfl)) (d_acons (d_cmp (op_eqD hr.units) od_eq (d_call (ok_law_take T) (hr.mono (by decide)) rfl T.g_law_take T.F_law_take.kp T.B_law_take takesF (d_acons (d_var (i := 0)) (d_acons d_int d_anil))) d_int (nomark _)) d_anil)))) (by decide)) d_anil)))))
theorem sc_law_fillings : FnScope ["_law_many", "_law_found", "_law_turn", "_law_longer", "_law_filling"] ["_law_many"] (defScope (top 19)) := ⟨rfl, rfl, rfl, by decide +kernel, rfl, by decide +kernel, by decide +kernel⟩
theorem ok_law_fillings (T : Txt K mg) : FnD P w K mg base 1 T.a_law_fillings T.fd_law_fillings ["_law_many"] m_law_fillings := fn_ok T.F_law_fillings sc_law_fillings fun cdv A outer s H E hid hr tk =>
  (dss_cons (ds_set (i := 1) sc_law_fillings.nd rfl (by first | exact .inl rfl | exact .inr rfl) (d_lst (d_acons (d_tup d_anil) d_anil))) (dss_cons (ds_for (passes_of rfl) rfl (di_rng1 rfl T.n_range (d_acons (d_var (i := 0)) d_anil)) (dg_name (i := 2) sc_law_fillings.nd rfl (by first | exact .inl rfl | exact .inr rfl)) (dss_cons (ds_set (i := 3) sc_law_fillings.nd rfl (by first | exact .inl rfl | exact .inr rfl) (d_lst d_anil)) (dss_cons (ds_for (passes_of rfl) rfl (di_lst (d_var (i := 1))) (dg_name (i := 4) sc_law_fillings.nd rfl (by first | exact .inl rfl | exact .inr rfl)) (dss_one (ds_set (i := 3) sc_law_fillings.nd rfl (by first | exact .inl rfl | exact .inr rfl) (d_bin or_add od_add (d_var (i := 3)) (d_lst (d_acons (d_bin or_add od_add (d_var (i := 4)) (d_tup (d_acons d_bl d_anil))) (d_acons (d_bin or_add od_add (d_var (i := 4)) (d_tup (d_acons d_bl d_anil))) d_anil))))))) (dss_one (ds_set (i := 1) sc_law_fillings.nd rfl (by first | exact .inl rfl | exact .inr rfl) (d_var (i := 3))))))) (dss_one (ds_ret (d_var (i := 1))))))
theorem sc_law_fits : FnScope ["_law_names_here", "_law_filling", "_law_pairs_here", "_law_there", "_law_name", "_law_truth"] ["_law_names_here", "_law_filling", "_law_pairs_here"] (defScope (top 20)) := ⟨rfl, rfl, rfl, by decide +kernel, rfl, by decide +kernel, by decide +kernel⟩
theorem mn_law_fits : m_law_fits = mFn ["_law_names_here", "_law_filling", "_law_pairs_here", "_law_there", "_law_name", "_law_truth"] b_law_fits := rfl
theorem ok_law_fits (T : Txt K mg) : FnD P w K mg base 1 T.a_law_fits T.fd_law_fits ["_law_names_here", "_law_filling", "_law_pairs_here"] m_law_fits := mn_law_fits ▸ fn_ok T.F_law_fits sc_law_fits fun cdv A outer s H E hid hr tk =>
  (dss_cons (ds_set (i := 3) sc_law_fits.nd rfl (by first | exact .inl rfl | exact .inr rfl) (d_callTy (call_dictA rfl) cd_dictA rfl T.n_dict bt_dict (d_acons (d_comp (own := [("_law_name", 4), ("_law_truth", 5)]) rfl sc_law_fits.nd (di_zip rfl T.n_zip (d_acons (d_var (i := 0)) (d_acons (d_var (i := 1)) d_anil))) (blkOk_by (N := ["_law_names_here", "_law_filling", "_law_pairs_here", "_law_there", "_law_name", "_law_truth"]) (sc := (defScope (top 20))) (own := [("_law_name", 4), ("_law_truth", 5)]) (by decide +kernel)) (fun _ _ _ _ _ => (dg_tup rfl (dgs_cons (dg_name (i := 4) sc_law_fits.nd rfl (by first | exact .inl rfl | exact .inr rfl)) (dgs_cons (dg_name (i := 5) sc_law_fits.nd rfl (by first | exact .inl rfl | exact .inr rfl)) dgs_nil)))) (fun _ _ _ _ _ _ => dts_nil) (fun _ _ _ _ _ _ => (d_tup (d_acons (d_var (i := 4)) (d_acons (d_var (i := 5)) d_anil)))) (by decide)) d_anil))) (dss_one (ds_ret (d_callB (cr_all rfl) cd_bls rfl T.n_all bt_all (d_acons (d_comp (own := [("_law_name", 4), ("_law_truth", 5)]) rfl sc_law_fits.nd (di_tup (d_var (i := 2))) (blkOk_by (N := ["_law_names_here", "_law_filling", "_law_pairs_here", "_law_there", "_law_name", "_law_truth"]) (sc := (defScope (top 20))) (own := [("_law_name", 4), ("_law_truth", 5)]) (by decide +kernel)) (fun _ _ _ _ _ => (dg_tup rfl (dgs_cons (dg_name (i := 4) sc_law_fits.nd rfl (by first | exact .inl rfl | exact .inr rfl)) (dgs_cons (dg_name (i := 5) sc_law_fits.nd rfl (by first | exact .inl rfl | exact .inr rfl)) dgs_nil)))) (fun _ _ _ _ _ _ => dts_nil) (fun _ _ _ _ _ _ => (d_cmp (op_eqD hr.units) od_eq (d_ix (room1 hr) (d_var (i := 3)) (d_var (i := 4)) (fun _ _ => rfl)) (d_var (i := 5)) (nomark _))) (by decide)) d_anil)))))
theorem sc_law_any : FnScope ["_law_bag_here", "_law_some"] ["_law_bag_here"] (defScope (top 21)) := ⟨rfl, rfl, rfl, by decide +kernel, rfl, by decide +kernel, by decide +kernel⟩
theorem ok_law_any (T : Txt K mg) : FnD P w K mg base 2 T.a_law_any T.fd_law_any ["_law_bag_here"] m_law_any := fn_ok T.F_law_any sc_law_any fun cdv A outer s H E hid hr tk =>
  (dss_cons (ds_set (i := 1) sc_law_any.nd rfl (by first | exact .inl rfl | exact .inr rfl) (d_lst (d_acons d_non (d_acons d_bl (d_acons d_bl (d_acons d_int (d_acons d_int (d_acons (d_un un_neg ud_neg d_int) (d_acons (d_bin op_pow od_pow d_int d_int) (d_acons (d_str (sOk_of (by decide +kernel))) (d_acons (d_str (sOk_of (by decide +kernel))) (d_acons (d_str (sOk_of (by decide +kernel))) (d_acons (d_str (sOk_of (by decide +kernel))) (d_acons (d_str (sOk_of (by decide +kernel))) (d_acons (d_lst d_anil) (d_acons (d_lst (d_acons (d_str (sOk_of (by decide +kernel))) d_anil)) (d_acons (d_tup (d_acons d_int d_anil)) (d_acons (d_tup (d_acons d_non d_anil)) (d_acons (d_tup (d_acons (d_tup d_anil) d_anil)) d_anil))))))))))))))))))) (dss_one (ds_ret (d_ix (room1 hr) (d_bin or_add od_add (d_var (i := 1)) (d_lst (d_acons (d_str (sOk_of (by decide +kernel))) (d_acons (d_tup (d_acons (d_str (sOk_of (by decide +kernel))) (d_acons d_int d_anil))) (d_acons (d_lst (d_acons (d_tup (d_acons (d_str (sOk_of (by decide +kernel))) (d_acons d_bl d_anil))) d_anil)) (d_acons (d_tup (d_acons d_bl (d_acons d_int d_anil))) d_anil)))))) (d_call (ok_law_take T) (hr.mono (by decide)) rfl T.g_law_take T.F_law_take.kp T.B_law_take tk (d_acons (d_var (i := 0)) (d_acons d_int d_anil))) (fun _ _ => rfl)))))
theorem sc_law_lot : FnScope ["_law_names_here", "_law_ties", "_law_pairs_here", "_law_lot_here", "_law_left", "_law_filling"] ["_law_names_here", "_law_ties"] (defScope (top 22)) := ⟨rfl, rfl, rfl, by decide +kernel, rfl, by decide +kernel, by decide +kernel⟩
noncomputable def b_law_lot : SM := (sThen (sPar2 3 4 (mCons (mMake "Lot" 2 m_Lot____init__ (mCons (mVar 0) mNil)) (mCons (mCall (arity 1 m_law_fillings) (mCons (mCall lenSD (mCons (mVar 0) mNil)) mNil)) mNil))) (sThen (sFor (mWalkL (mVar 1)) (.nm 2) (sThen (sSet 3 (mMethI "Lot" "barred" 2 m_Lot__barred (mVar 3) (mCons (mVar 2) mNil))) (sSet 4 (mComp (mWalkL (mVar 4)) [5] (.nm 5) (mTNot (mAsT (mCall (arity 3 m_law_fits) (mCons (mVar 0) (mCons (mVar 5) (mCons (mVar 2) mNil)))))) (mVar 5))))) (sRet (mTup (mCons (mVar 3) (mCons (mVar 4) mNil))))))
noncomputable def m_law_lot : List D → M D := mFn ["_law_names_here", "_law_ties", "_law_pairs_here", "_law_lot_here", "_law_left", "_law_filling"] b_law_lot
theorem ok_law_lot (T : Txt K mg) : FnD P w K mg base 7 T.a_law_lot T.fd_law_lot ["_law_names_here", "_law_ties"] m_law_lot := fn_ok T.F_law_lot sc_law_lot fun cdv A outer s H E hid hr tk =>
  (dss_cons (ds_par2 (ps_par (i := 3) (j := 4) rfl sc_law_lot.nd rfl rfl (by decide) rfl rfl (d_acons (d_make T.mk_Lot (ok_Lot____init__ T) (hr.mono (by decide)) rfl T.gC_Lot T.B_Lot____init__ tk (d_acons (d_var (i := 0)) d_anil)) (d_acons (d_call (ok_law_fillings T) (hr.mono (by decide)) rfl T.g_law_fillings T.F_law_fillings.kp T.B_law_fillings tk (d_acons (d_callB cr_lenA cd_lenA rfl T.n_len bt_len (d_acons (d_var (i := 0)) d_anil)) d_anil)) d_anil)) (by rfl))) (dss_cons (ds_for (passes_of rfl) rfl (di_lst (d_var (i := 1))) (dg_name (i := 2) sc_law_lot.nd rfl (by first | exact .inl rfl | exact .inr rfl)) (dss_cons (ds_set (i := 3) sc_law_lot.nd rfl (by first | exact .inl rfl | exact .inr rfl) (d_methI T.cls_Lot T.mt_Lot__barred (ok_Lot__barred T) (hr.mono (by decide)) T.gC_Lot T.B_Lot__barred tk (d_var (i := 3)) (d_acons (d_var (i := 2)) d_anil))) (dss_one (ds_setLc (i := 4) (own := [("_law_filling", 5)]) rfl sc_law_lot.nd rfl rfl (sw_true rfl rfl rfl (by decide +kernel)) (di_lst (d_var (i := 4))) (blkOk_by (N := ["_law_names_here", "_law_ties", "_law_pairs_here", "_law_lot_here", "_law_left", "_law_filling"]) (sc := (defScope (top 22))) (own := [("_law_filling", 5)]) (by decide +kernel)) (fun _ _ _ _ _ => (dg_name (i := 5) sc_law_lot.nd rfl (by first | exact .inl rfl | exact .inr rfl))) (fun _ _ _ _ _ _ => (dts_one (dt_not (dt_val (d_call (ok_law_fits T) (hr.mono (by decide)) rfl T.g_law_fits T.F_law_fits.kp T.B_law_fits takesF (d_acons (d_var (i := 0)) (d_acons (d_var (i := 5)) (d_acons (d_var (i := 2)) d_anil)))))))) (fun _ _ _ _ _ _ => (d_var (i := 5))) (by decide))))) (dss_one (ds_ret (d_tup (d_acons (d_var (i := 3)) (d_acons (d_var (i := 4)) d_anil)))))))
theorem sc_law_text : FnScope ["_law_left", "_law_some", "_law_filling", "_law_one", "_law_truth"] ["_law_left"] (defScope (top 23)) := ⟨rfl, rfl, rfl, by decide +kernel, rfl, by decide +kernel, by decide +kernel⟩
theorem ok_law_text (T : Txt K mg) : FnD P w K mg base 1 T.a_law_text T.fd_law_text ["_law_left"] m_law_text := fn_ok T.F_law_text sc_law_text fun cdv A outer s H E hid hr tk =>
  (dss_cons (ds_if (dt_cmp (op_eqD hr.units) od_eq (d_var (i := 0)) (d_lst d_anil) (nomark _)) (dss_one (ds_ret (d_str (sOk_of (by decide +kernel))))) dss_nil) (dss_cons (ds_setLc (i := 1) (own := [("_law_filling", 2)]) rfl sc_law_text.nd rfl rfl (sw_true rfl rfl rfl (by decide +kernel)) (di_lst (d_var (i := 0))) (blkOk_by (N := ["_law_left", "_law_some", "_law_filling", "_law_one", "_law_truth"]) (sc := (defScope (top 23))) (own := [("_law_filling", 2)]) (by decide +kernel)) (fun _ _ _ _ _ => (dg_name (i := 2) sc_law_text.nd rfl (by first | exact .inl rfl | exact .inr rfl))) (fun _ _ _ _ _ _ => dts_nil) (fun _ _ _ _ _ _ => (d_meth PySem.F.plainAttrs_str PySem.F.slot_str_join PySem.F.type_str_join mt_join md_join (.inl rfl) (d_str (sOk_of (by decide +kernel))) (d_acons (d_comp (own := [("_law_truth", 4)]) rfl sc_law_text.nd (di_tup (d_var (i := 2))) (blkOk_by (N := ["_law_left", "_law_some", "_law_filling", "_law_one", "_law_truth"]) (sc := _) (own := [("_law_truth", 4)]) (by rfl)) (fun _ _ _ _ _ => (dg_name (i := 4) sc_law_text.nd rfl (by first | exact .inl rfl | exact .inr rfl))) (fun _ _ _ _ _ _ => dts_nil) (fun _ _ _ _ _ _ => (d_pick (sOk_of (by decide +kernel)) (sOk_of (by decide +kernel)) (d_var (i := 4)) (fun _ _ => rfl))) (by decide)) d_anil))) (by decide)) (dss_one (ds_ret (d_meth PySem.F.plainAttrs_str PySem.F.slot_str_join PySem.F.type_str_join mt_join md_join (.inl rfl) (d_str (sOk_of (by decide +kernel))) (d_acons (d_comp (own := [("_law_one", 3)]) rfl sc_law_text.nd (di_lst (d_var (i := 1))) (blkOk_by (N := ["_law_left", "_law_some", "_law_filling", "_law_one", "_law_truth"]) (sc := (defScope (top 23))) (own := [("_law_one", 3)]) (by decide +kernel)) (fun _ _ _ _ _ => (dg_name (i := 3) sc_law_text.nd rfl (by first | exact .inl rfl | exact .inr rfl))) (fun _ _ _ _ _ _ => dts_nil) (fun _ _ _ _ _ _ => (d_ifx (dt_cmp (op_neD hr.units) od_ne (d_var (i := 3)) (d_str (sOk_of (by decide +kernel))) (nomark _)) (d_var (i := 3)) (d_str (sOk_of (by decide +kernel))))) (by decide)) d_anil))))))
theorem sc_law : FnScope ["_law_script", "_law_at", "_law_bag_here", "_law_names_here", "_law_ties", "_law_more", "_law_others", "_law_more_names", "_law_others_named", "_law_many", "_law_lot_here", "_law_some", "_law_turn", "_law_one", "_law_left", "_law_other", "_law_there"] ["_law_script"] (defScope (top 24)) := ⟨rfl, rfl, rfl, by decide +kernel, rfl, by decide +kernel, by decide +kernel⟩
noncomputable def b_law : SM := (sThen (sFor (mRng1 (mCons (mCall (twoD fun i j => if j > i then j else i) (mCons (mC (.int 1)) (mCons (mCall (twoD fun i j => if j < i then j else i) (mCons (mC (.int 6)) (mCons (mCall lenSD (mCons (mVar 0) mNil)) mNil))) mNil))) mNil)) (.nm 1) (sThen (sSet 2 (mCall (arity 2 m_law_bag) (mCons (mVar 0) (mCons (mVar 1) mNil)))) (sThen (sSet 3 (mCall (arity 2 m_law_names) (mCons (mVar 2) (mCons (mCall (arity 2 m_law_take) (mCons (mVar 2) (mCons (mC (.int 6)) mNil))) mNil)))) (sThen (sSet 4 (mComp (mRng1 (mCons (mCall (arity 2 m_law_take) (mCons (mVar 2) (mCons (mC (.int 5)) mNil))) mNil)) [12] (.nm 12) (mAsT (mBin (eqvD true) (mVar 3) (mTup mNil))) (mCall (arity 4 m_law_pairs) (mCons (mVar 2) (mCons (mVar 3) (mCons (mC (.int 1)) (mCons (mC (.int 4)) mNil))))))) (sThen (sSet 5 (mComp (mRng1 (mCons (mCall (arity 2 m_law_take) (mCons (mVar 2) (mCons (mC (.int 5)) mNil))) mNil)) [12] (.nm 12) (mAsT (mBin (eqvD true) (mVar 3) (mTup mNil))) (mCall (arity 4 m_law_pairs) (mCons (mVar 2) (mCons (mVar 3) (mCons (mC (.int 1)) (mCons (mC (.int 4)) mNil))))))) (sThen (sSet 6 (mBin ixD (mLst (mCons (mBin addD (mUn revLD (mVar 4)) (mSl (mVar 4) mNoPart (mPart (mC (.int 1))))) (mCons (mVar 5) (mCons (mBin addD (mVar 4) (mSl (mVar 5) mNoPart (mPart (mC (.int 1))))) (mCons (mSl (mVar 4) (mPart (mC (.int 1))) mNoPart) mNil))))) (mCall (arity 2 m_law_take) (mCons (mVar 2) (mCons (mC (.int 4)) mNil))))) (sThen (sSet 7 (mCall tupleD (mCons (mComp (mWalkL (mLst (mCons (mC (.str "zzzzzzzz")) mNil))) [13] (.nm 13) (mAsT (mBin (inD true) (mVar 13) (mVar 3))) (mVar 13)) mNil))) (sThen (sSet 8 (mBin ixD (mLst (mCons (mVar 3) (mCons (mVar 3) (mCons (mVar 3) (mCons (mUn revTD (mVar 3)) (mCons (mBin addD (mVar 3) (mVar 7)) mNil)))))) (mCall (arity 2 m_law_take) (mCons (mVar 2) (mCons (mC (.int 5)) mNil))))) (sThen (sSet 9 (mCall lenSD (mCons (mCall (arity 1 m_law_fillings) (mCons (mCall lenSD (mCons (mVar 3) mNil)) mNil)) mNil))) (sThen (sAsg (.tp [(.tp [(.nm 13), (.nm 14)]), (.tp [(.nm 15), (.nm 16)])]) (mTup (mCons (mCall (arity 2 m_law_lot) (mCons (mVar 3) (mCons (mVar 4) mNil))) (mCons (mCall (arity 2 m_law_lot) (mCons (mVar 3) (mCons (mVar 6) mNil))) mNil)))) (sThen (sIf (mTOr (mAsT (mBin (eqvD true) (mBin (eqOD "Lot" m_Lot____eq__) (mVar 13) (mVar 15)) (mBin (eqvD false) (mVar 14) (mVar 16)))) (mAsT (mBin (eqvD true) (mBin (eqOD "Lot" m_Lot____eq__) (mVar 15) (mVar 13)) (mBin (eqvD false) (mVar 14) (mVar 16))))) (sRet (mC (.bl false))) sSkip) (sThen (sFor (mWalkL (mLst (mCons (mTup (mCons (mVar 13) (mCons (mVar 14) mNil))) (mCons (mTup (mCons (mVar 15) (mCons (mVar 16) mNil))) mNil)))) (.tp [(.nm 10), (.nm 11)]) (sIf (mTOr (mAsT (mBin (eqvD true) (mCall (txtOD "Lot" m_Lot____str__) (mCons (mVar 10) mNil)) (mCall (arity 1 m_law_text) (mCons (mVar 11) mNil)))) (mAsT (mBin (eqvD true) (mCall (txtOD "Lot" m_Lot____repr__) (mCons (mVar 10) mNil)) (jsL [(mC (.str "Lot(")), (mFmt (mCall lenSD (mCons (mVar 11) mNil))), (mC (.str " of ")), (mFmt (mVar 9)), (mC (.str ")"))] Str.empty)))) (sRet (mC (.bl false))) sSkip)) (sThen (sIf (mAsT (mBin (eqvD true) (mBin (eqOD "Lot" m_Lot____eq__) (mMake "Lot" 2 m_Lot____init__ (mCons (mVar 8) mNil)) (mMake "Lot" 2 m_Lot____init__ (mCons (mVar 3) mNil))) (mBin (eqvD false) (mVar 8) (mVar 3)))) (sRet (mC (.bl false))) sSkip) (sThen (sIf (mTOr (mAsT (mBin (eqAD "Lot" m_Lot____eq__) (mVar 13) (mCall (arity 1 m_law_any) (mCons (mVar 2) mNil)))) (mTOr (mAsT (mBin (eqAD "Lot" m_Lot____eq__) (mVar 13) (mVar 14))) (mAsT (mBin (eqAD "Lot" m_Lot____eq__) (mVar 13) (mCall (txtOD "Lot" m_Lot____str__) (mCons (mVar 13) mNil)))))) (sRet (mC (.bl false))) sSkip) (sIf (mTNot (mAsT (mBin (eqAD "Lot" m_Lot____eq__) (mVar 13) (mBin ixD (mCall (arity 2 m_law_lot) (mCons (mCall tupleD (mCons (mCall listD (mCons (mVar 3) mNil)) mNil)) (mCons (mVar 4) mNil))) (mC (.int 0)))))) (sRet (mC (.bl false))) sSkip))))))))))))))) (sRet (mAnd (mBin (eqvD false) (mCall (txtOD "Lot" m_Lot____str__) (mCons (mMake "Lot" 2 m_Lot____init__ (mCons (mTup mNil) mNil)) mNil)) (mC (.str "."))) (mAnd (mBin (eqvD false) (mCall (txtOD "Lot" m_Lot____repr__) (mCons (mMake "Lot" 2 m_Lot____init__ (mCons (mTup mNil) mNil)) mNil)) (mC (.str "Lot(1 of 1)"))) (mBin (eqvD false) (mCall (txtOD "Lot" m_Lot____str__) (mCons (mMethI "Lot" "fitted" 2 m_Lot__fitted (mMake "Lot" 2 m_Lot____init__ (mCons (mTup (mCons (mC (.str "a")) mNil)) mNil)) (mCons (mTup mNil) mNil)) mNil)) (mC (.str "n y")))))))
noncomputable def m_law : List D → M D := mFn ["_law_script", "_law_at", "_law_bag_here", "_law_names_here", "_law_ties", "_law_more", "_law_others", "_law_more_names", "_law_others_named", "_law_many", "_law_lot_here", "_law_some", "_law_turn", "_law_one", "_law_left", "_law_other", "_law_there"] b_law
theorem ok_law (T : Txt K mg) : FnD P w K mg base 8 T.a_law T.fd_law ["_law_script"] m_law := fn_ok T.F_law sc_law fun cdv A outer s H E hid hr tk =>
  (dss_cons (ds_for (passes_of rfl) rfl (di_rng1 rfl T.n_range (d_acons (d_callB (call_max2 rfl) cd_two rfl T.n_max bt_max (d_acons d_int (d_acons (d_callB (call_min2 rfl) cd_two rfl T.n_min bt_min (d_acons d_int (d_acons (d_callB cr_lenA cd_lenA rfl T.n_len bt_len (d_acons (d_var (i := 0)) d_anil)) d_anil))) d_anil))) d_anil)) (dg_name (i := 1) sc_law.nd rfl (by first | exact .inl rfl | exact .inr rfl)) (dss_cons (ds_set (i := 2) sc_law.nd rfl (by first | exact .inl rfl | exact .inr rfl) (d_call (ok_law_bag T) (hr.mono (by decide)) rfl T.g_law_bag T.F_law_bag.kp T.B_law_bag tk (d_acons (d_var (i := 0)) (d_acons (d_var (i := 1)) d_anil)))) (dss_cons (ds_set (i := 3) sc_law.nd rfl (by first | exact .inl rfl | exact .inr rfl) (d_call (ok_law_names T) (hr.mono (by decide)) rfl T.g_law_names T.F_law_names.kp T.B_law_names tk (d_acons (d_var (i := 2)) (d_acons (d_call (ok_law_take T) (hr.mono (by decide)) rfl T.g_law_take T.F_law_take.kp T.B_law_take tk (d_acons (d_var (i := 2)) (d_acons d_int d_anil))) d_anil)))) (dss_cons (ds_setLc (i := 4) (own := [("_law_turn", 12)]) rfl sc_law.nd rfl rfl (sw_true rfl rfl rfl (by decide +kernel)) (di_rng1 rfl T.n_range (d_acons (d_call (ok_law_take T) (hr.mono (by decide)) rfl T.g_law_take T.F_law_take.kp T.B_law_take tk (d_acons (d_var (i := 2)) (d_acons d_int d_anil))) d_anil)) (blkOk_by (N := ["_law_script", "_law_at", "_law_bag_here", "_law_names_here", "_law_ties", "_law_more", "_law_others", "_law_more_names", "_law_others_named", "_law_many", "_law_lot_here", "_law_some", "_law_turn", "_law_one", "_law_left", "_law_other", "_law_there"]) (sc := (defScope (top 24))) (own := [("_law_turn", 12)]) (by decide +kernel)) (fun _ _ _ _ _ => (dg_name (i := 12) sc_law.nd rfl (by first | exact .inl rfl | exact .inr rfl))) (fun _ _ _ _ _ _ => (dts_one (dt_cmp (op_neD hr.units) od_ne (d_var (i := 3)) (d_tup d_anil) (nomark _)))) (fun _ _ _ _ _ _ => (d_call (ok_law_pairs T) (hr.mono (by decide)) rfl T.g_law_pairs T.F_law_pairs.kp T.B_law_pairs takesF (d_acons (d_var (i := 2)) (d_acons (d_var (i := 3)) (d_acons d_int (d_acons d_int d_anil)))))) (by decide)) (dss_cons (ds_setLc (i := 5) (own := [("_law_turn", 12)]) rfl sc_law.nd rfl rfl (sw_true rfl rfl rfl (by decide +kernel)) (di_rng1 rfl T.n_range (d_acons (d_call (ok_law_take T) (hr.mono (by decide)) rfl T.g_law_take T.F_law_take.kp T.B_law_take tk (d_acons (d_var (i := 2)) (d_acons d_int d_anil))) d_anil)) (blkOk_by (N := ["_law_script", "_law_at", "_law_bag_here", "_law_names_here", "_law_ties", "_law_more", "_law_others", "_law_more_names", "_law_others_named", "_law_many", "_law_lot_here", "_law_some", "_law_turn", "_law_one", "_law_left", "_law_other", "_law_there"]) (sc := (defScope (top 24))) (own := [("_law_turn", 12)]) (by decide +kernel)) (fun _ _ _ _ _ => (dg_name (i := 12) sc_law.nd rfl (by first | exact .inl rfl | exact .inr rfl))) (fun _ _ _ _ _ _ => (dts_one (dt_cmp (op_neD hr.units) od_ne (d_var (i := 3)) (d_tup d_anil) (nomark _)))) (fun _ _ _ _ _ _ => (d_call (ok_law_pairs T) (hr.mono (by decide)) rfl T.g_law_pairs T.F_law_pairs.kp T.B_law_pairs takesF (d_acons (d_var (i := 2)) (d_acons (d_var (i := 3)) (d_acons d_int (d_acons d_int d_anil)))))) (by decide)) (dss_cons (ds_set (i := 6) sc_law.nd rfl (by first | exact .inl rfl | exact .inr rfl) (d_ix (room1 hr) (d_lst (d_acons (d_bin or_add od_add (d_revL (d_var (i := 4))) (d_sl (d_var (i := 4)) d_po0 (d_po d_int))) (d_acons (d_var (i := 5)) (d_acons (d_bin or_add od_add (d_var (i := 4)) (d_sl (d_var (i := 5)) d_po0 (d_po d_int))) (d_acons (d_sl (d_var (i := 4)) (d_po d_int) d_po0) d_anil))))) (d_call (ok_law_take T) (hr.mono (by decide)) rfl T.g_law_take T.F_law_take.kp T.B_law_take tk (d_acons (d_var (i := 2)) (d_acons d_int d_anil))) (fun _ _ => rfl))) (dss_cons (ds_set (i := 7) sc_law.nd rfl (by first | exact .inl rfl | exact .inr rfl) (d_callTy call_tupleF cd_tuple rfl T.n_tuple bt_tuple (d_acons (d_comp (own := [("_law_one", 13)]) rfl sc_law.nd (di_lst (d_lst (d_acons (d_str (sOk_of (by decide +kernel))) d_anil))) (blkOk_by (N := ["_law_script", "_law_at", "_law_bag_here", "_law_names_here", "_law_ties", "_law_more", "_law_others", "_law_more_names", "_law_others_named", "_law_many", "_law_lot_here", "_law_some", "_law_turn", "_law_one", "_law_left", "_law_other", "_law_there"]) (sc := (defScope (top 24))) (own := [("_law_one", 13)]) (by decide +kernel)) (fun _ _ _ _ _ => (dg_name (i := 13) sc_law.nd rfl (by first | exact .inl rfl | exact .inr rfl))) (fun _ _ _ _ _ _ => (dts_one (dt_cmp (or_notin (room65 hr)) od_in (d_var (i := 13)) (d_var (i := 3)) (by rfl)))) (fun _ _ _ _ _ _ => (d_var (i := 13))) (by decide)) d_anil))) (dss_cons (ds_set (i := 8) sc_law.nd rfl (by first | exact .inl rfl | exact .inr rfl) (d_ix (room1 hr) (d_lst (d_acons (d_var (i := 3)) (d_acons (d_var (i := 3)) (d_acons (d_var (i := 3)) (d_acons (d_revT (d_var (i := 3))) (d_acons (d_bin or_add od_add (d_var (i := 3)) (d_var (i := 7))) d_anil)))))) (d_call (ok_law_take T) (hr.mono (by decide)) rfl T.g_law_take T.F_law_take.kp T.B_law_take tk (d_acons (d_var (i := 2)) (d_acons d_int d_anil))) (fun _ _ => rfl))) (dss_cons (ds_set (i := 9) sc_law.nd rfl (by first | exact .inl rfl | exact .inr rfl) (d_callB cr_lenA cd_lenA rfl T.n_len bt_len (d_acons (d_call (ok_law_fillings T) (hr.mono (by decide)) rfl T.g_law_fillings T.F_law_fillings.kp T.B_law_fillings tk (d_acons (d_callB cr_lenA cd_lenA rfl T.n_len bt_len (d_acons (d_var (i := 3)) d_anil)) d_anil)) d_anil))) (dss_cons (ds_asg (d_tup (d_acons (d_call (ok_law_lot T) (hr.mono (by decide)) rfl T.g_law_lot T.F_law_lot.kp T.B_law_lot tk (d_acons (d_var (i := 3)) (d_acons (d_var (i := 4)) d_anil))) (d_acons (d_call (ok_law_lot T) (hr.mono (by decide)) rfl T.g_law_lot T.F_law_lot.kp T.B_law_lot tk (d_acons (d_var (i := 3)) (d_acons (d_var (i := 6)) d_anil))) d_anil))) (dg_tup rfl (dgs_cons (dg_tup rfl (dgs_cons (dg_name (i := 13) sc_law.nd rfl (by first | exact .inl rfl | exact .inr rfl)) (dgs_cons (dg_name (i := 14) sc_law.nd rfl (by first | exact .inl rfl | exact .inr rfl)) dgs_nil))) (dgs_cons (dg_tup rfl (dgs_cons (dg_name (i := 15) sc_law.nd rfl (by first | exact .inl rfl | exact .inr rfl)) (dgs_cons (dg_name (i := 16) sc_law.nd rfl (by first | exact .inl rfl | exact .inr rfl)) dgs_nil))) dgs_nil)))) (dss_cons (ds_if (PW.pt (dw_or (dt_cmp (op_neD hr.units) od_ne (d_cmp (op_eqO (ownOf T.mt_Lot____eq__) (ok_Lot____eq__ T) (hr.mono (by decide)) T.B_Lot____eq__ passF) (od_eqO T.gC_Lot) (d_var (i := 13)) (d_var (i := 15)) (nomark _)) (d_cmp (op_eqD hr.units) od_eq (d_var (i := 14)) (d_var (i := 16)) (nomark _)) (nomark _)) (dw_or1 (dt_cmp (op_neD hr.units) od_ne (d_cmp (op_eqO (ownOf T.mt_Lot____eq__) (ok_Lot____eq__ T) (hr.mono (by decide)) T.B_Lot____eq__ passF) (od_eqO T.gC_Lot) (d_var (i := 15)) (d_var (i := 13)) (nomark _)) (d_cmp (op_eqD hr.units) od_eq (d_var (i := 14)) (d_var (i := 16)) (nomark _)) (nomark _))))) (dss_one (ds_ret d_bl)) dss_nil) (dss_cons (ds_for (passes_of rfl) rfl (di_lst (d_lst (d_acons (d_tup (d_acons (d_var (i := 13)) (d_acons (d_var (i := 14)) d_anil))) (d_acons (d_tup (d_acons (d_var (i := 15)) (d_acons (d_var (i := 16)) d_anil))) d_anil)))) (dg_tup rfl (dgs_cons (dg_name (i := 10) sc_law.nd rfl (by first | exact .inl rfl | exact .inr rfl)) (dgs_cons (dg_name (i := 11) sc_law.nd rfl (by first | exact .inl rfl | exact .inr rfl)) dgs_nil))) (dss_one (ds_if (PW.pt (dw_or (dt_cmp (op_neD hr.units) od_ne (d_callTy (call_strO (ownOf T.mt_Lot____str__) (ok_Lot____str__ T) (hr.mono (by decide)) T.B_Lot____str__ passF) (cd_txtO T.gC_Lot) rfl T.n_str bt_str (d_acons (d_var (i := 10)) d_anil)) (d_call (ok_law_text T) (hr.mono (by decide)) rfl T.g_law_text T.F_law_text.kp T.B_law_text tk (d_acons (d_var (i := 11)) d_anil)) (nomark _)) (dw_or1 (dt_cmp (op_neD hr.units) od_ne (d_callB (call_reprO (ownOf T.mt_Lot____repr__) (ok_Lot____repr__ T) (hr.mono (by decide)) T.B_Lot____repr__ passF) (cd_txtO T.gC_Lot) rfl T.n_repr bt_repr (d_acons (d_var (i := 10)) d_anil)) (d_js (.cons (d_str (sOk_of (by decide +kernel))) (.cons (d_fmt (d_callB cr_lenA cd_lenA rfl T.n_len bt_len (d_acons (d_var (i := 11)) d_anil))) (.cons (d_str (sOk_of (by decide +kernel))) (.cons (d_fmt (d_var (i := 9))) (.cons (d_str (sOk_of (by decide +kernel))) .nil)))))) (nomark _))))) (dss_one (ds_ret d_bl)) dss_nil))) (dss_cons (ds_if (dt_cmp (op_neD hr.units) od_ne (d_cmp (op_eqO (ownOf T.mt_Lot____eq__) (ok_Lot____eq__ T) (hr.mono (by decide)) T.B_Lot____eq__ passF) (od_eqO T.gC_Lot) (d_make T.mk_Lot (ok_Lot____init__ T) (hr.mono (by decide)) rfl T.gC_Lot T.B_Lot____init__ tk (d_acons (d_var (i := 8)) d_anil)) (d_make T.mk_Lot (ok_Lot____init__ T) (hr.mono (by decide)) rfl T.gC_Lot T.B_Lot____init__ tk (d_acons (d_var (i := 3)) d_anil)) (nomark _)) (d_cmp (op_eqD hr.units) od_eq (d_var (i := 8)) (d_var (i := 3)) (nomark _)) (nomark _)) (dss_one (ds_ret d_bl)) dss_nil) (dss_cons (ds_if (PW.pt (dw_or (dt_cmp (op_eqA (ownOf T.mt_Lot____eq__) (ok_Lot____eq__ T) (hr.mono (by decide)) T.B_Lot____eq__ passF) (od_eqA T.gC_Lot) (d_var (i := 13)) (d_call (ok_law_any T) (hr.mono (by decide)) rfl T.g_law_any T.F_law_any.kp T.B_law_any tk (d_acons (d_var (i := 2)) d_anil)) (nomark _)) (dw_or (dt_cmp (op_eqA (ownOf T.mt_Lot____eq__) (ok_Lot____eq__ T) (hr.mono (by decide)) T.B_Lot____eq__ passF) (od_eqA T.gC_Lot) (d_var (i := 13)) (d_var (i := 14)) (nomark _)) (dw_or1 (dt_cmp (op_eqA (ownOf T.mt_Lot____eq__) (ok_Lot____eq__ T) (hr.mono (by decide)) T.B_Lot____eq__ passF) (od_eqA T.gC_Lot) (d_var (i := 13)) (d_callTy (call_strO (ownOf T.mt_Lot____str__) (ok_Lot____str__ T) (hr.mono (by decide)) T.B_Lot____str__ passF) (cd_txtO T.gC_Lot) rfl T.n_str bt_str (d_acons (d_var (i := 13)) d_anil)) (nomark _)))))) (dss_one (ds_ret d_bl)) dss_nil) (dss_one (ds_if (dt_not (dt_cmp (op_eqA (ownOf T.mt_Lot____eq__) (ok_Lot____eq__ T) (hr.mono (by decide)) T.B_Lot____eq__ passF) (od_eqA T.gC_Lot) (d_var (i := 13)) (d_ix (room1 hr) (d_call (ok_law_lot T) (hr.mono (by decide)) rfl T.g_law_lot T.F_law_lot.kp T.B_law_lot tk (d_acons (d_callTy call_tupleF cd_tuple rfl T.n_tuple bt_tuple (d_acons (d_callTy call_list_of cd_list rfl T.n_list bt_list (d_acons (d_var (i := 3)) d_anil)) d_anil)) (d_acons (d_var (i := 4)) d_anil))) d_int (fun _ _ => rfl)) (nomark _))) (dss_one (ds_ret d_bl)) dss_nil)))))))))))))))) (dss_one (ds_ret (d_and (d_cmp (op_eqD hr.units) od_eq (d_callTy (call_strO (ownOf T.mt_Lot____str__) (ok_Lot____str__ T) (hr.mono (by decide)) T.B_Lot____str__ passF) (cd_txtO T.gC_Lot) rfl T.n_str bt_str (d_acons (d_make T.mk_Lot (ok_Lot____init__ T) (hr.mono (by decide)) rfl T.gC_Lot T.B_Lot____init__ tk (d_acons (d_tup d_anil) d_anil)) d_anil)) (d_str (sOk_of (by decide +kernel))) (nomark _)) (d_and (d_cmp (op_eqD hr.units) od_eq (d_callB (call_reprO (ownOf T.mt_Lot____repr__) (ok_Lot____repr__ T) (hr.mono (by decide)) T.B_Lot____repr__ passF) (cd_txtO T.gC_Lot) rfl T.n_repr bt_repr (d_acons (d_make T.mk_Lot (ok_Lot____init__ T) (hr.mono (by decide)) rfl T.gC_Lot T.B_Lot____init__ tk (d_acons (d_tup d_anil) d_anil)) d_anil)) (d_str (sOk_of (by decide +kernel))) (nomark _)) (d_one (d_cmp (op_eqD hr.units) od_eq (d_callTy (call_strO (ownOf T.mt_Lot____str__) (ok_Lot____str__ T) (hr.mono (by decide)) T.B_Lot____str__ passF) (cd_txtO T.gC_Lot) rfl T.n_str bt_str (d_acons (d_methI T.cls_Lot T.mt_Lot__fitted (ok_Lot__fitted T) (hr.mono (by decide)) T.gC_Lot T.B_Lot__fitted tk (d_make T.mk_Lot (ok_Lot____init__ T) (hr.mono (by decide)) rfl T.gC_Lot T.B_Lot____init__ tk (d_acons (d_tup (d_acons (d_str (sOk_of (by decide +kernel))) d_anil)) d_anil)) (d_acons (d_tup d_anil) d_anil)) d_anil)) (d_str (sOk_of (by decide +kernel))) (nomark _))))))))
end
end K04
set_option maxHeartbeats 1000000
namespace ND
open PySem L2
abbrev XP := Str → List (Str × D) → Store → Prop
def Ev {α : Type} (m : M α) (S : Store) (E : XP) (P : α → Store → Prop) : Prop := match m S with
  | .ok a S' => P a S'
  | .err C fs S' => E C fs S'
  | .bad => False
def EvR (r : SRes) (E : Str → List (Str × D) → DSt → Store → Prop) (P : Flow → Store → Prop) : Prop := match r with
  | .ok f S' => P f S'
  | .err C fs τ S' => E C fs τ S'
  | .bad => False
section
variable {α β : Type} {S : Store} {E : XP} {P : α → Store → Prop} {τ : DSt} {Q : D → Store → Prop} {ER : Str → List (Str × D) → DSt → Store → Prop} {PR : Flow → Store → Prop}
theorem Ev.mono {m : M α} {P' : α → Store → Prop} {E' : XP} (h : Ev m S E P) (k : ∀ a S', P a S' → P' a S') (k' : ∀ C fs S', E C fs S' → E' C fs S') : Ev m S E' P' := by
  unfold Ev at *
  split <;> simp_all
theorem EvR.mono {r : SRes} {P' : Flow → Store → Prop} {E' : Str → List (Str × D) → DSt → Store → Prop} (h : EvR r ER PR) (k : ∀ a S', PR a S' → P' a S') (k' : ∀ C fs τ S', ER C fs τ S' → E' C fs τ S') : EvR r E' P' := by
  unfold EvR at *
  split <;> simp_all
@[simp] theorem ev_pure (a : α) : Ev (pure a) S E P = P a S := rfl
@[simp] theorem ev_ok (a : α) (S' : Store) : Ev (fun _ => Res.ok a S') S E P = P a S' := rfl
@[simp] theorem ev_no : Ev (M.no : M α) S E P = False := rfl
theorem ev_bind (m : M β) (f : β → M α) : Ev (m >>= f) S E P = Ev m S E fun a S' => Ev (f a) S' E P := by
  unfold Ev
  rw [bind_def]
  cases m S <;> rfl
@[simp] theorem ev_chk (b : Bool) (m : M α) : Ev (M.chk b m) S E P = (b = true ∧ Ev m S E P) := by
  unfold Ev M.chk
  cases b <;> simp
@[simp] theorem ev_ite (b : Prop) [Decidable b] (m n : M α) : Ev (if b then m else n) S E P = if b then Ev m S E P else Ev n S E P := by
  split <;> rfl
def varP (o : Option (Option D)) (S : Store) (Q : D → Store → Prop) : Prop := match o with
  | some (some d) => Q d S
  | _ => False
@[simp] theorem varP_some {d : D} : varP (some (some d)) S Q = Q d S := rfl
@[simp] theorem ev_var {i : Nat} : Ev (mVar i τ) S E Q = varP τ[i]? S Q := by
  unfold Ev mVar varP
  cases τ[i]? with
  | none => rfl
  | some o => cases o <;> rfl
@[simp] theorem ev_c (d : D) : Ev (mC d τ) S E Q = Q d S := rfl
@[simp] theorem ev_bin (op : D → D → M D) (a b : EM) : Ev (mBin op a b τ) S E Q = Ev (a τ) S E fun x S1 => Ev (b τ) S1 E fun y S2 => Ev (op x y) S2 E Q := by
  unfold mBin; rw [ev_bind]; simp only [ev_bind]
@[simp] theorem ev_un (op : D → M D) (a : EM) : Ev (mUn op a τ) S E Q = Ev (a τ) S E fun x S1 => Ev (op x) S1 E Q := by
  unfold mUn; rw [ev_bind]
@[simp] theorem ev_asB (b : Bool) {PB : Bool → Store → Prop} : Ev (asB (.bl b)) S E PB = PB b S := rfl
@[simp] theorem ev_asT (a : EM) {PB : Bool → Store → Prop} : Ev (mAsT a τ) S E PB = Ev (a τ) S E fun x S1 => Ev (asB x) S1 E PB := by unfold mAsT; rw [ev_bind]
@[simp] theorem ev_tand (m n : TM) {PB : Bool → Store → Prop} : Ev (mTAnd m n τ) S E PB = Ev (m τ) S E fun b S1 => if b = true then Ev (n τ) S1 E PB else PB false S1 := by
  unfold mTAnd; rw [ev_bind]; simp only [ev_ite, ev_pure]
@[simp] theorem ev_tor (m n : TM) {PB : Bool → Store → Prop} : Ev (mTOr m n τ) S E PB = Ev (m τ) S E fun b S1 => if b = true then PB true S1 else Ev (n τ) S1 E PB := by
  unfold mTOr; rw [ev_bind]; simp only [ev_ite, ev_pure]
@[simp] theorem ev_tnot (m : TM) {PB : Bool → Store → Prop} : Ev (mTNot m τ) S E PB = Ev (m τ) S E fun b S1 => PB (!b) S1 := by
  unfold mTNot; rw [ev_bind]; simp only [ev_pure]
@[simp] theorem ev_and (m n : EM) : Ev (mAnd m n τ) S E Q = Ev (m τ) S E fun x S1 => Ev (asB x) S1 E fun b S2 => if b = true then Ev (n τ) S2 E Q else Q (.bl false) S2 := by
  unfold mAnd; simp only [ev_bind, ev_ite, ev_pure]
@[simp] theorem ev_or (m n : EM) : Ev (mOr m n τ) S E Q = Ev (m τ) S E fun x S1 => Ev (asB x) S1 E fun b S2 => if b = true then Q (.bl true) S2 else Ev (n τ) S2 E Q := by
  unfold mOr; simp only [ev_bind, ev_ite, ev_pure]
@[simp] theorem ev_notB (b : Bool) : Ev (notB (.bl b)) S E Q = Q (.bl (!b)) S := rfl
@[simp] theorem ev_ifx (t : TM) (a b : EM) : Ev (mIf t a b τ) S E Q = Ev (t τ) S E fun x S1 => if x = true then Ev (a τ) S1 E Q else Ev (b τ) S1 E Q := by
  unfold mIf; simp only [ev_bind, ev_ite]
@[simp] theorem ev_nil {PL : List D → Store → Prop} : Ev (mNil τ) S E PL = PL [] S := rfl
@[simp] theorem ev_cons (m : EM) (ms : AM) {PL : List D → Store → Prop} : Ev (mCons m ms τ) S E PL = Ev (m τ) S E fun x S1 => Ev (ms τ) S1 E fun xs S2 => PL (x :: xs) S2 := by
  unfold mCons; simp only [ev_bind, ev_pure]
@[simp] theorem ev_tup (ms : AM) : Ev (mTup ms τ) S E Q = Ev (ms τ) S E fun xs S1 => xs.length ≤ sizeLine ∧ Q (.tup xs) S1 := by
  unfold mTup; simp only [ev_bind, ev_chk, ev_pure, decide_eq_true_eq]
@[simp] theorem ev_lst (ms : AM) : Ev (mLst ms τ) S E Q = Ev (ms τ) S E fun xs S1 => xs.length ≤ sizeLine ∧ Q (.lst xs) S1 := by
  unfold mLst; simp only [ev_bind, ev_chk, ev_pure, decide_eq_true_eq]
@[simp] theorem ev_newCell (x : Cell) : Ev (newCell x) S E Q = Q (.cel S.length) (S ++ [x]) := rfl
@[simp] theorem ev_lstC (ms : AM) : Ev (mLstC ms τ) S E Q = Ev (ms τ) S E fun xs S1 => xs.length ≤ sizeLine ∧ Q (.cel S1.length) (S1 ++ [.lst xs]) := by
  unfold mLstC; simp only [ev_bind, ev_chk, ev_newCell, decide_eq_true_eq]
@[simp] theorem ev_noPart {PO : Option Int → Store → Prop} : Ev (mNoPart τ) S E PO = PO none S := rfl
@[simp] theorem ev_asI (i : Int) {PI : Int → Store → Prop} : Ev (asI (.int i)) S E PI = PI i S := rfl
@[simp] theorem ev_part (m : EM) {PO : Option Int → Store → Prop} : Ev (mPart m τ) S E PO = Ev (m τ) S E fun x S1 => Ev (asI x) S1 E fun i S2 => PO (some i) S2 := by
  unfold mPart; simp only [ev_bind, ev_pure]
@[simp] theorem ev_sl (m : EM) (lo hi : OM) : Ev (mSl m lo hi τ) S E Q = Ev (m τ) S E fun x S1 => Ev (lo τ) S1 E fun l S2 => Ev (hi τ) S2 E fun h S3 => Ev (slD x l h) S3 E Q := by
  unfold mSl; simp only [ev_bind]
@[simp] theorem ev_call (f : List D → M D) (ms : AM) : Ev (mCall f ms τ) S E Q = Ev (ms τ) S E fun xs S1 => Ev (f xs) S1 E Q := by
  unfold mCall; simp only [ev_bind]
@[simp] theorem ev_arity (n : Nat) (f : List D → M D) (ds : List D) : Ev (arity n f ds) S E Q = (ds.length = n ∧ Ev (f ds) S E Q) := by
  unfold arity; simp only [ev_chk, decide_eq_true_eq]
@[simp] theorem ev_chain (f k : D → D → M D) (a b c : EM) : Ev (mChain f k a b c τ) S E Q = Ev (a τ) S E fun x S1 => Ev (b τ) S1 E fun y S2 => Ev (f x y) S2 E fun z S3 => Ev (asB z) S3 E fun t S4 => if t = true then Ev (c τ) S4 E fun w S5 => Ev (k y w) S5 E Q else Q (.bl false) S4 := by
  unfold mChain; simp only [ev_bind, ev_ite, ev_pure]
@[simp] theorem ev_isK {T : String} {x : D} {PU : Unit → Store → Prop} : Ev (isK T x) S E PU = (tyNm (dr S x) = some T ∧ PU () S) := by
  unfold Ev isK
  by_cases h : tyNm (dr S x) = some T
  · rw [if_pos h]; simp [h]
  · rw [if_neg h]; simp [h]
@[simp] theorem ev_meth (T : String) (f : D → List D → M D) (o : EM) (ms : AM) : Ev (mMeth T f o ms τ) S E Q = Ev (o τ) S E fun x S1 => (tyNm (dr S1 x) = some T ∧ Ev (ms τ) S1 E fun xs S2 => Ev (f x xs) S2 E Q) := by
  unfold mMeth; simp only [ev_bind, ev_isK]
@[simp] theorem ev_fix (m : EM) : Ev (mFix m τ) S E Q = Ev (m τ) S E fun x S1 => Ev (fixD x) S1 E Q := by unfold mFix; rw [ev_bind]
@[simp] theorem ev_wL (m : EM) {PL : List D → Store → Prop} : Ev (mWalkL m τ) S E PL = Ev (m τ) S E fun x S1 => Ev (walkLD x) S1 E PL := by unfold mWalkL; rw [ev_bind]
@[simp] theorem ev_wT (m : EM) {PL : List D → Store → Prop} : Ev (mWalkT m τ) S E PL = Ev (m τ) S E fun x S1 => Ev (walkTD x) S1 E PL := by unfold mWalkT; rw [ev_bind]
@[simp] theorem ev_wS (m : EM) {PL : List D → Store → Prop} : Ev (mWalkS m τ) S E PL = Ev (m τ) S E fun x S1 => Ev (walkSD x) S1 E PL := by unfold mWalkS; rw [ev_bind]
@[simp] theorem ev_rng1 (ms : AM) {PL : List D → Store → Prop} : Ev (mRng1 ms τ) S E PL = Ev (ms τ) S E fun x S1 => Ev (rng1D x) S1 E PL := by unfold mRng1; rw [ev_bind]
@[simp] theorem ev_rng2 (ms : AM) {PL : List D → Store → Prop} : Ev (mRng2 ms τ) S E PL = Ev (ms τ) S E fun x S1 => Ev (rng2D x) S1 E PL := by unfold mRng2; rw [ev_bind]
@[simp] theorem ev_rng1D {n : Int} {PL : List D → Store → Prop} : Ev (rng1D [.int n]) S E PL = ((-(2 ^ 62) ≤ n ∧ n < 2 ^ 62) ∧ PL (intsD 0 n.toNat) S) := by
  unfold rng1D; simp only [ev_chk, ev_pure, okP_iff]
@[simp] theorem ev_mk (C : Str) (n : Nat) (f : List D → M D) (ms : AM) : Ev (mMake C n f ms τ) S E Q = Ev (ms τ) S E fun ds S1 => Ev (makeD C n f ds) S1 E Q := by unfold mMake; rw [ev_bind]
section
variable {i j : Int}
@[simp] theorem ev_addI : Ev (addD (.int i) (.int j)) S E Q = Q (.int (i + j)) S := rfl
@[simp] theorem ev_subI : Ev (subD (.int i) (.int j)) S E Q = Q (.int (i - j)) S := by unfold subD intD; simp
@[simp] theorem ev_mulII : Ev (mulID (.int i) (.int j)) S E Q = (mulC i j = true ∧ Q (.int (i * j)) S) := by unfold mulID intD; simp
@[simp] theorem ev_mulI : Ev (mulD (.int i) (.int j)) S E Q = (mulC i j = true ∧ Q (.int (i * j)) S) := by unfold mulD; simp
@[simp] theorem ev_fdiv : Ev (fdivD (.int i) (.int j)) S E Q = ((0 < j ∧ j < 1073741824) ∧ Q (.int (i / j)) S) := by unfold fdivD intD; simp
@[simp] theorem ev_mod : Ev (modD (.int i) (.int j)) S E Q = (0 < j ∧ Q (.int (i % j)) S) := by unfold modD intD; simp
@[simp] theorem ev_pow : Ev (powD (.int i) (.int j)) S E Q = ((0 ≤ j ∧ j ≤ 1000000 ∧ i.natAbs < 2 ^ 64) ∧ Q (.int (i ^ j.toNat)) S) := by unfold powD intD powC; simp
@[simp] theorem ev_shr : Ev (shrD (.int i) (.int j)) S E Q = (0 ≤ j ∧ Q (.int (i / 2 ^ j.toNat)) S) := by unfold shrD intD; simp
@[simp] theorem ev_shl : Ev (shlD (.int i) (.int j)) S E Q = (shlC i j = true ∧ Q (.int (i * 2 ^ j.toNat)) S) := by unfold shlD intD; simp
@[simp] theorem ev_andI : Ev (andD (.int i) (.int j)) S E Q = Q (.int (Builtin.bitAnd i j)) S := by unfold andD intD; simp
@[simp] theorem ev_orI : Ev (orD (.int i) (.int j)) S E Q = Q (.int (Builtin.bitOr i j)) S := by unfold orD intD; simp
@[simp] theorem ev_neg : Ev (negD (.int i)) S E Q = Q (.int (-i)) S := rfl
@[simp] theorem ev_ltI : Ev (ltD (.int i) (.int j)) S E Q = Q (.bl (decide (i < j))) S := rfl
@[simp] theorem ev_leI : Ev (leD (.int i) (.int j)) S E Q = Q (.bl (decide (i ≤ j))) S := rfl
@[simp] theorem ev_gtI : Ev (gtD (.int i) (.int j)) S E Q = Q (.bl (decide (j < i))) S := rfl
@[simp] theorem ev_geI : Ev (geD (.int i) (.int j)) S E Q = Q (.bl (decide (j ≤ i))) S := rfl
@[simp] theorem ev_ltS {x y : Str} : Ev (ltD (.str x) (.str y)) S E Q = Q (.bl (decide (x.cps.toList < y.cps.toList))) S := rfl
@[simp] theorem ev_leS {x y : Str} : Ev (leD (.str x) (.str y)) S E Q = Q (.bl (!decide (y.cps.toList < x.cps.toList))) S := rfl
@[simp] theorem ev_abs : Ev (absD [.int i]) S E Q = Q (.int (if i < 0 then -i else i)) S := rfl
@[simp] theorem ev_two {f : Int → Int → Int} : Ev (twoD f [.int i, .int j]) S E Q = Q (.int (f i j)) S := rfl
end
@[simp] theorem ev_addS {x y : Str} : Ev (addD (.str x) (.str y)) S E Q = (x.length + y.length ≤ sizeLine ∧ Q (.str (x ++ y)) S) := by
  unfold Ev addD; simp only [dr]
  by_cases h : x.length + y.length ≤ sizeLine
  · rw [if_pos h]; simp [h]
  · rw [if_neg h]; simp [h]
@[simp] theorem ev_addL {x y : List D} : Ev (addD (.lst x) (.lst y)) S E Q = (x.length + y.length ≤ sizeLine ∧ Q (.lst (x ++ y)) S) := by
  unfold Ev addD; simp only [dr]
  by_cases h : x.length + y.length ≤ sizeLine
  · rw [if_pos h]; simp [h]
  · rw [if_neg h]; simp [h]
@[simp] theorem ev_addT {x y : List D} : Ev (addD (.tup x) (.tup y)) S E Q = (x.length + y.length ≤ sizeLine ∧ Q (.tup (x ++ y)) S) := by
  unfold Ev addD; simp only [dr]
  by_cases h : x.length + y.length ≤ sizeLine
  · rw [if_pos h]; simp [h]
  · rw [if_neg h]; simp [h]
@[simp] theorem ev_ixL {xs : List D} {i : Int} : Ev (ixD (.lst xs) (.int i)) S E Q = ∃ d, atI xs i = some d ∧ Q d S := by
  unfold Ev ixD; simp only [dr]; cases atI xs i <;> simp
@[simp] theorem ev_ixR {xs : List D} {i : Int} : Ev (ixD (.rol xs) (.int i)) S E Q = ∃ d, atI xs i = some d ∧ Q d S := by
  unfold Ev ixD; simp only [dr]; cases atI xs i <;> simp
@[simp] theorem ev_ixT {xs : List D} {i : Int} : Ev (ixD (.tup xs) (.int i)) S E Q = ∃ d, atI xs i = some d ∧ Q d S := by
  unfold Ev ixD; simp only [dr]; cases atI xs i <;> simp
@[simp] theorem ev_ixS {z : Str} {i : Int} : Ev (ixD (.str z) (.int i)) S E Q = ∃ d, atI z.cps.toList i = some d ∧ Q (.str ⟨#[d]⟩) S := by
  unfold Ev ixD; simp only [dr]; cases atI z.cps.toList i <;> simp
theorem ev_ixC {n : Nat} {xs : List D} {i : Int} (h : S[n]? = some (.lst xs)) : Ev (ixD (.cel n) (.int i)) S E Q = ∃ d, atI xs i = some d ∧ Q d S := by
  unfold Ev ixD; simp only [dr, h]; cases atI xs i <;> simp
@[simp] theorem ev_slS {z : Str} {lo hi : Option Int} : Ev (slD (.str z) lo hi) S E Q = Q (.str ⟨(cut z.cps.toList lo hi).toArray⟩) S := rfl
@[simp] theorem ev_slT {xs : List D} {lo hi : Option Int} : Ev (slD (.tup xs) lo hi) S E Q = Q (.tup (cut xs lo hi)) S := rfl
@[simp] theorem ev_slL {xs : List D} {lo hi : Option Int} : Ev (slD (.lst xs) lo hi) S E Q = Q (.lst (cut xs lo hi)) S := rfl
@[simp] theorem ev_walkL {xs : List D} {PL : List D → Store → Prop} : Ev (walkLD (.lst xs)) S E PL = PL xs S := rfl
@[simp] theorem ev_walkT {xs : List D} {PL : List D → Store → Prop} : Ev (walkTD (.tup xs)) S E PL = PL xs S := rfl
@[simp] theorem ev_walkR {xs : List D} {PL : List D → Store → Prop} : Ev (walkLD (.rol xs)) S E PL = PL xs S := rfl
@[simp] theorem ev_walkS {z : Str} {PL : List D → Store → Prop} : Ev (walkSD (.str z)) S E PL = PL (chS z) S := rfl
@[simp] theorem ev_lenT {xs : List D} : Ev (lenSD [.tup xs]) S E Q = Q (.int xs.length) S := rfl
@[simp] theorem ev_lenL {xs : List D} : Ev (lenSD [.lst xs]) S E Q = Q (.int xs.length) S := rfl
@[simp] theorem ev_lenR {xs : List D} : Ev (lenSD [.rol xs]) S E Q = Q (.int xs.length) S := rfl
@[simp] theorem ev_lenStr {z : Str} : Ev (lenSD [.str z]) S E Q = Q (.int z.length) S := rfl
@[simp] theorem ev_listT {xs : List D} : Ev (listD [.tup xs]) S E Q = Q (.lst xs) S := rfl
@[simp] theorem ev_listL {xs : List D} : Ev (listD [.lst xs]) S E Q = Q (.lst xs) S := rfl
@[simp] theorem ev_tupleL {xs : List D} : Ev (tupleD [.lst xs]) S E Q = Q (.tup xs) S := rfl
theorem ev_tupleC {n : Nat} {xs : List D} (h : S[n]? = some (.lst xs)) : Ev (tupleD [.cel n]) S E Q = Q (.tup xs) S := by
  unfold Ev tupleD; simp only [dr, h]
@[simp] theorem ev_setC {n : Nat} {i : Int} {z : D} {PU : Unit → Store → Prop} : Ev (setD (.cel n) (.int i) z) S E PU = ∃ xs j, S[n]? = some (.lst xs) ∧ ixN xs.length i = some j ∧ PU () (S.set n (.lst (xs.set j z))) := by
  unfold Ev setD
  cases e : S[n]? with
  | none => simp only [e]; simp
  | some c =>
    cases c with
    | lst xs => cases e2 : ixN xs.length i <;> (simp only [e, e2]; simp [e2])
    | _ => simp only [e]; simp
@[simp] theorem ev_appC {n : Nat} {z : D} : Ev (appendD (.cel n) [z]) S E Q = ∃ xs, S[n]? = some (.lst xs) ∧ xs.length < sizeLine ∧ Q .non (S.set n (.lst (xs ++ [z]))) := by
  unfold Ev appendD
  cases e : S[n]? with
  | none => simp only [e]; simp
  | some c =>
    cases c with
    | lst xs =>
      by_cases h : xs.length < sizeLine
      · simp only [e, if_pos h]; simp [h]
      · simp only [e, if_neg h]; simp [h]
    | _ => simp only [e]; simp
def ixO (n : Nat) (i : Int) (S : Store) (E : XP) (Q : D → Store → Prop) : Prop := Ev (ixD (.cel n) (.int i)) S E Q
def ixP (n : Nat) (i : Int) (S : Store) (E : XP) (Q : D → Store → Prop) : Option Cell → Prop
  | some (.lst xs) => ∃ d, atI xs i = some d ∧ Q d S
  | _ => ixO n i S E Q
@[simp] theorem ixP_lst {n : Nat} {i : Int} {xs : List D} : ixP n i S E Q (some (.lst xs)) = ∃ d, atI xs i = some d ∧ Q d S := rfl
@[simp] theorem ev_ixCel {n : Nat} {i : Int} : Ev (ixD (.cel n) (.int i)) S E Q = ixP n i S E Q S[n]? := by
  cases e : S[n]? with
  | none => rfl
  | some c =>
    cases c with
    | lst xs => rw [ev_ixC e]; rfl
    | _ => rfl
theorem atI_at {α : Type} {xs : List α} {i : Int} {n : Nat} {x : α} (hi : i = n) (h : xs[n]? = some x) : atI xs i = some x := by
  subst hi
  have hl := (List.getElem?_eq_some_iff.mp h).1
  unfold atI ixN
  rw [if_pos (by omega), if_pos (by omega)]
  simpa using h
theorem atI_ex {α : Type} {xs : List α} {i : Int} (h0 : 0 ≤ i) (h : i < xs.length) : ∃ x, atI xs i = some x ∧ x ∈ xs := by
  obtain ⟨n, rfl⟩ := Int.eq_ofNat_of_zero_le h0
  have hl : n < xs.length := by omega
  exact ⟨xs[n], atI_at rfl (List.getElem?_eq_getElem hl), List.getElem_mem hl⟩
@[simp] theorem atI0 {α : Type} {x : α} {r : List α} : atI (x :: r) 0 = some x := atI_at (n := 0) rfl rfl
@[simp] theorem atI1 {α : Type} {x y : α} {r : List α} : atI (x :: y :: r) 1 = some y := atI_at (n := 1) rfl rfl
@[simp] theorem ixN0 {n : Nat} : ixN (n + 1) 0 = some 0 := by unfold ixN; rw [if_pos (by omega), if_pos (by omega)]; rfl
@[simp] theorem ixN1 {n : Nat} : ixN (n + 1 + 1) 1 = some 1 := by unfold ixN; rw [if_pos (by omega), if_pos (by omega)]; rfl
@[simp] theorem evr_of {m : M α} {k : α → Store → SRes} : EvR (sOf m τ k S) ER PR = Ev m S (fun C fs S' => ER C fs τ S') fun a S' => EvR (k a S') ER PR := by
  unfold EvR Ev sOf
  cases m S <;> rfl
@[simp] theorem evr_ok {f : Flow} {S' : Store} : EvR (.ok f S') ER PR = PR f S' := rfl
@[simp] theorem evr_err {C : Str} {fs : List (Str × D)} : EvR (.err C fs τ S) ER PR = ER C fs τ S := rfl
@[simp] theorem evr_skip : EvR (sSkip τ S) ER PR = PR (.nx τ) S := rfl
def thenP (n : SM) (ER : Str → List (Str × D) → DSt → Store → Prop) (PR : Flow → Store → Prop) : Flow → Store → Prop := fun f S => match f with
  | .nx τ => EvR (n τ S) ER PR
  | f => PR f S
@[simp] theorem thenP_nx {n : SM} : thenP n ER PR (.nx τ) S = EvR (n τ S) ER PR := rfl
@[simp] theorem thenP_rt {n : SM} {d : D} : thenP n ER PR (.rt d) S = PR (.rt d) S := rfl
@[simp] theorem thenP_ct {n : SM} : thenP n ER PR (.ct τ) S = PR (.ct τ) S := rfl
@[simp] theorem thenP_bk {n : SM} : thenP n ER PR (.bk τ) S = PR (.bk τ) S := rfl
@[simp] theorem evr_then {m n : SM} : EvR (sThen m n τ S) ER PR = EvR (m τ S) ER (thenP n ER PR) := by
  unfold EvR sThen thenP
  cases m τ S with
  | ok f S' => cases f <;> rfl
  | err C fs τ S' => rfl
  | bad => rfl
@[simp] theorem evr_ite {b : Prop} [Decidable b] {r r' : SRes} : EvR (if b then r else r') ER PR = if b then EvR r ER PR else EvR r' ER PR := by split <;> rfl
@[simp] theorem evr_iteS {b : Prop} [Decidable b] {r r' : Store → SRes} : EvR ((if b then r else r') S) ER PR = if b then EvR (r S) ER PR else EvR (r' S) ER PR := by split <;> rfl
@[simp] theorem evr_ret {m : EM} : EvR (sRet m τ S) ER PR = Ev (m τ) S (fun C fs S' => ER C fs τ S') fun d S' => PR (.rt d) S' := by unfold sRet; simp
@[simp] theorem evr_set {i : Nat} {m : EM} : EvR (sSet i m τ S) ER PR = Ev (m τ) S (fun C fs S' => ER C fs τ S') fun d S' => PR (.nx (τ.set i (some d))) S' := by unfold sSet; simp
@[simp] theorem evr_expr {m : EM} : EvR (sExpr m τ S) ER PR = Ev (m τ) S (fun C fs S' => ER C fs τ S') fun d S' => PR (.nx τ) S' := by unfold sExpr; simp
@[simp] theorem evr_if {t : TM} {m n : SM} : EvR (sIf t m n τ S) ER PR = Ev (t τ) S (fun C fs S' => ER C fs τ S') fun b S' => if b = true then EvR (m τ S') ER PR else EvR (n τ S') ER PR := by unfold sIf; simp
def par2P (i j : Nat) (τ : DSt) (PR : Flow → Store → Prop) (ds : List D) (S : Store) : Prop := match ds with
  | [a, b] => PR (.nx ((τ.set i (some a)).set j (some b))) S
  | _ => False
def par3P (i j l : Nat) (τ : DSt) (PR : Flow → Store → Prop) (ds : List D) (S : Store) : Prop := match ds with
  | [a, b, c] => PR (.nx (((τ.set i (some a)).set j (some b)).set l (some c))) S
  | _ => False
@[simp] theorem par2P_ok {i j : Nat} {a b : D} : par2P i j τ PR [a, b] S = PR (.nx ((τ.set i (some a)).set j (some b))) S := rfl
@[simp] theorem par3P_ok {i j l : Nat} {a b c : D} : par3P i j l τ PR [a, b, c] S = PR (.nx (((τ.set i (some a)).set j (some b)).set l (some c))) S := rfl
@[simp] theorem evr_par2 {i j : Nat} {ms : AM} : EvR (sPar2 i j ms τ S) ER PR = Ev (ms τ) S (fun C fs S' => ER C fs τ S') fun ds S' => par2P i j τ PR ds S' := by
  unfold sPar2; rw [evr_of]
  congr 1; funext ds S'
  unfold par2P
  split
  · rfl
  · first | rfl | (split <;> simp_all [EvR])
@[simp] theorem evr_par3 {i j l : Nat} {ms : AM} : EvR (sPar3 i j l ms τ S) ER PR = Ev (ms τ) S (fun C fs S' => ER C fs τ S') fun ds S' => par3P i j l τ PR ds S' := by
  unfold sPar3; rw [evr_of]
  congr 1; funext ds S'
  unfold par3P
  split
  · rfl
  · first | rfl | (split <;> simp_all [EvR])
@[simp] theorem evr_put {o i v : EM} : EvR (sPut o i v τ S) ER PR = Ev (v τ) S (fun C fs S' => ER C fs τ S') fun z S1 => Ev (o τ) S1 (fun C fs S' => ER C fs τ S') fun x S2 => Ev (i τ) S2 (fun C fs S' => ER C fs τ S') fun y S3 => Ev (setD x y z) S3 (fun C fs S' => ER C fs τ S') fun _ S4 => PR (.nx τ) S4 := by
  unfold sPut; simp only [evr_of, ev_bind, evr_ok]
def asgP (o : Option DSt) (S : Store) (PR : Flow → Store → Prop) : Prop := match o with
  | some τ => PR (.nx τ) S
  | none => False
@[simp] theorem asgP_some : asgP (some τ) S PR = PR (.nx τ) S := rfl
@[simp] theorem evr_asg {t : Tg} {m : EM} : EvR (sAsg t m τ S) ER PR = Ev (m τ) S (fun C fs S' => ER C fs τ S') fun d S' => asgP (t.bind d τ) S' PR := by
  unfold sAsg; rw [evr_of]
  congr 1; funext d S'
  unfold asgP
  cases t.bind d τ <;> rfl
@[simp] theorem bind_nm {i : Nat} {d : D} : Tg.bind (.nm i) d τ = some (τ.set i (some d)) := by rw [Tg.bind]
@[simp] theorem bind_tp {ts : List Tg} {ds : List D} : Tg.bind (.tp ts) (.tup ds) τ = Tg.binds ts ds τ := by rw [Tg.bind]
@[simp] theorem binds_nil : Tg.binds [] [] τ = some τ := by rw [Tg.binds]
@[simp] theorem binds_cons {i : Nat} {ts : List Tg} {d : D} {ds : List D} : Tg.binds (.nm i :: ts) (d :: ds) τ = Tg.binds ts ds (τ.set i (some d)) := by rw [Tg.binds]; simp
@[simp] theorem evr_for {it : IM} {t : Tg} {b : SM} : EvR (sFor it t b τ S) ER PR = Ev (it τ) S (fun C fs S' => ER C fs τ S') fun xs S' => EvR (forL t b xs τ S') ER PR := by unfold sFor; simp
@[simp] theorem evr_raise {nm fl : Str} {m : EM} : EvR (sRaise nm fl m τ S) ER PR = Ev (m τ) S (fun C fs S' => ER C fs τ S') fun d S' => ER nm [(fl, d)] τ S' := by unfold sRaise; simp
theorem evr_loop {t : Tg} {b : SM} (Inv : Nat → DSt → Store → Prop) : ∀ {xs : List D} {k : Nat} {τ : DSt} {S : Store}, Inv k τ S →
    (∀ i x τ S, xs[i]? = some x → Inv (k + i) τ S → ∃ τ1, t.bind x τ = some τ1 ∧ EvR (b τ1 S) ER fun f S' => match f with
      | .nx τ' => Inv (k + i + 1) τ' S'
      | .ct τ' => Inv (k + i + 1) τ' S'
      | .bk τ' => PR (.nx τ') S'
      | .rt d => PR (.rt d) S') → (∀ τ S, Inv (k + xs.length) τ S → PR (.nx τ) S) → EvR (forL t b xs τ S) ER PR
  | [], k, τ, S, h0, _, fin => fin τ S h0
  | x :: r, k, τ, S, h0, step, fin => by
    obtain ⟨τ1, e1, h1⟩ := step 0 x τ S rfl h0
    unfold forL
    rw [e1]
    have go : ∀ τ2 S2, Inv (k + 1) τ2 S2 → EvR (forL t b r τ2 S2) ER PR := fun τ2 S2 h2 => evr_loop Inv h2 (fun i x τ S hx hi => by
      have z := step (i + 1) x τ S hx (by rw [show k + (i + 1) = k + 1 + i by omega]; exact hi)
      rw [show k + (i + 1) = k + 1 + i by omega] at z
      exact z) (fun τ S h => fin τ S (by rw [List.length_cons, show k + (r.length + 1) = k + 1 + r.length by omega]; exact h))
    dsimp only
    cases e2 : b τ1 S with
    | ok f S2 =>
      rw [e2] at h1
      cases f with
      | nx τ2 => exact go τ2 S2 h1
      | ct τ2 => exact go τ2 S2 h1
      | bk τ2 => exact h1
      | rt d => exact h1
    | err C fs τ2 S2 => rw [e2] at h1; exact h1
    | bad => rw [e2] at h1; exact h1
theorem ev_compL {t : Tg} {tt : TM} {te : EM} {τ : DSt} {E : XP} {PL : List D → Store → Prop} (Inv : Nat → List D → Store → Prop) : ∀ {xs : List D} {k : Nat} {acc : List D} {S : Store}, Inv k acc S →
    (∀ i x acc S, xs[i]? = some x → Inv (k + i) acc S → ∃ τ1, t.bind x τ = some τ1 ∧ Ev (tt τ1) S E fun c S1 => if c = true then Ev (te τ1) S1 E fun y S2 => acc.length < sizeLine ∧ Inv (k + i + 1) (acc ++ [y]) S2 else Inv (k + i + 1) acc S1) →
    (∀ acc S, Inv (k + xs.length) acc S → PL acc S) → Ev (compL t tt te τ xs acc) S E PL
  | [], k, acc, S, h0, _, fin => fin acc S h0
  | x :: r, k, acc, S, h0, step, fin => by
    obtain ⟨τ1, e1, h1⟩ := step 0 x acc S rfl h0
    unfold compL
    rw [e1]
    simp only [ev_bind]
    have go : ∀ acc2 S2, Inv (k + 1) acc2 S2 → Ev (compL t tt te τ r acc2) S2 E PL := fun acc2 S2 h2 => ev_compL Inv h2 (fun i x τ S hx hi => by
      have z := step (i + 1) x τ S hx (by rw [show k + (i + 1) = k + 1 + i by omega]; exact hi)
      rw [show k + (i + 1) = k + 1 + i by omega] at z
      exact z) (fun τ S h => fin τ S (by rw [List.length_cons, show k + (r.length + 1) = k + 1 + r.length by omega]; exact h))
    refine h1.mono (fun c S1 hc => ?_) (fun _ _ _ z => z)
    cases c with
    | false => exact go _ _ hc
    | true =>
      simp only [if_true, ev_bind, ev_chk, decide_eq_true_eq] at hc ⊢
      exact hc.mono (fun y S2 hy => ⟨hy.1, go _ _ hy.2⟩) (fun _ _ _ z => z)
theorem ev_noErr {m : M α} (h : Ev m S (fun _ _ _ => False) P) : Ev (noErr m) S E P := by
  unfold Ev noErr at *
  cases e : m S with
  | ok a S' => rw [e] at h; exact h
  | err C fs S' => rw [e] at h; exact h.elim
  | bad => rw [e] at h; exact h
@[simp] theorem ev_comp {it : IM} {vs : List Nat} {t : Tg} {tt : TM} {te : EM} : Ev (mComp it vs t tt te τ) S E Q = Ev (it τ) S E fun xs S1 => Ev (noErr (compL t tt te (wipeD τ vs) xs [])) S1 E fun ys S2 => Q (.lst ys) S2 := by
  unfold mComp; simp only [ev_bind, ev_pure]
@[simp] theorem ev_yes {PB : Bool → Store → Prop} : Ev (tYesD τ) S E PB = PB true S := rfl
def retP (Q : D → Store → Prop) : Flow → Store → Prop := fun f S => match f with
  | .nx _ => Q .non S
  | .rt d => Q d S
  | _ => False
@[simp] theorem retP_nx : retP Q (.nx τ) S = Q .non S := rfl
@[simp] theorem retP_rt {d : D} : retP Q (.rt d) S = Q d S := rfl
theorem ev_fn {N : List Str} {mb : SM} {ds : List D} : Ev (mFn N mb ds) S E Q = EvR (mb (startD N ds) S) (fun C fs _ S' => E C fs S') (retP Q) := by
  unfold Ev EvR mFn retP
  cases mb (startD N ds) S with
  | ok f S' => cases f <;> rfl
  | err C fs τ S' => rfl
  | bad => rfl
theorem ev_compF {t : Tg} {te : EM} {τ : DSt} {E : XP} {PL : List D → Store → Prop} {xs : List D} (f : D → D) (hl : xs.length ≤ sizeLine) (h : ∀ x ∈ xs, ∃ τ1, t.bind x τ = some τ1 ∧ ∀ (Q : D → Store → Prop), Q (f x) S → Ev (te τ1) S (fun _ _ _ => False) Q) (q : PL (xs.map f) S) :
    Ev (noErr (compL t tYesD te τ xs [])) S E PL := by
  refine ev_noErr (ev_compL (fun k acc S' => acc = (xs.take k).map f ∧ S' = S) (k := 0) ⟨rfl, rfl⟩ (fun i x acc S' hx hi => ?_) (fun acc S' hi => ?_))
  · obtain ⟨rfl, rfl⟩ := hi
    have hlt := (List.getElem?_eq_some_iff.mp hx).1
    obtain ⟨τ1, e1, h1⟩ := h x (List.mem_of_getElem? hx)
    refine ⟨τ1, e1, ?_⟩
    simp only [ev_yes, if_true]
    refine h1 _ ⟨?_, ?_, rfl⟩
    · rw [List.length_map, List.length_take]; omega
    · rw [show 0 + i + 1 = (0 + i) + 1 by omega, List.take_succ, Nat.zero_add, hx, List.map_append]; rfl
  · obtain ⟨rfl, rfl⟩ := hi
    rw [Nat.zero_add, List.take_length]
    exact q
@[simp] theorem str_len {a : List Nat} : (⟨a.toArray⟩ : Str).length = a.length := by show a.toArray.size = _; simp
@[simp] theorem str_app {a b : List Nat} : (⟨a.toArray⟩ : Str) ++ (⟨b.toArray⟩ : Str) = ⟨(a ++ b).toArray⟩ := by
  show (⟨a.toArray ++ b.toArray⟩ : Str) = _
  simp
theorem str_lit (x : Str) : x = ⟨x.cps.toList.toArray⟩ := by cases x; simp
theorem str_ln (x : Str) : x.length = x.cps.toList.length := by show x.cps.size = _; simp
theorem cut_hi {α : Type} {xs : List α} {j : Int} (h0 : 0 ≤ j) (h1 : j ≤ xs.length) : cut xs none (some j) = xs.take j.toNat := by
  unfold cut HT.sIx
  dsimp only
  rw [if_neg (by omega), Nat.min_eq_left (by omega)]
  simp
theorem cut_lo {α : Type} {xs : List α} {j : Int} (h0 : 0 ≤ j) (h1 : j ≤ xs.length) : cut xs (some j) none = xs.drop j.toNat := by
  unfold cut HT.sIx
  dsimp only
  rw [if_neg (by omega), Nat.min_eq_left (by omega), List.take_of_length_le (by simp)]
theorem cut_mem {α : Type} {xs : List α} {lo hi : Option Int} {x : α} (h : x ∈ cut xs lo hi) : x ∈ xs := by
  unfold cut at h
  exact List.mem_of_mem_drop (List.mem_of_mem_take h)
theorem cut_len {α : Type} {xs : List α} {lo hi : Option Int} : (cut xs lo hi).length ≤ xs.length := by
  unfold cut
  rw [List.length_take, List.length_drop]
  omega
theorem intsD_at {lo : Int} {n i : Nat} {x : D} (h : (intsD lo n)[i]? = some x) : x = .int (lo + i) ∧ i < n := by
  unfold intsD at h
  rw [List.getElem?_map] at h
  cases e : (List.range n)[i]? with
  | none => rw [e] at h; cases h
  | some j =>
    rw [e] at h
    obtain ⟨h1, h2⟩ := List.getElem?_eq_some_iff.mp e
    rw [List.getElem_range] at h2
    subst h2
    cases h
    exact ⟨rfl, by simpa using h1⟩
@[simp] theorem intsD_len {lo : Int} {n : Nat} : (intsD lo n).length = n := by unfold intsD; simp
theorem strs1 : ∀ cs : List Nat, strsOf (cs.map fun c => D.str ⟨#[c]⟩) = some (cs.map fun c => ⟨#[c]⟩)
  | [] => rfl
  | c :: cs => by
    have ih := strs1 cs
    simp only [List.map_cons, strsOf, ih, Option.map_some]
theorem joinL1 : ∀ cs : List Nat, TL.joinL [] (cs.map fun c => [c]) = cs
  | [] => rfl
  | [c] => rfl
  | c :: d :: cs => by
    have ih := joinL1 (d :: cs)
    show [c] ++ ([] ++ TL.joinL [] ((d :: cs).map fun c => [c])) = _
    rw [ih]; rfl
theorem join_ev {cs : List Nat} {S : Store} {E : XP} {Q : D → Store → Prop} (hl : cs.length ≤ 100) (q : Q (.str ⟨cs.toArray⟩) S) : Ev (joinD (.str "") [.lst (cs.map fun c => D.str ⟨#[c]⟩)]) S E Q := by
  have e : Txt.join ("" : Str) (cs.map fun c => ⟨#[c]⟩) = ⟨cs.toArray⟩ := by
    have h : (Txt.join ("" : Str) (cs.map fun c => (⟨#[c]⟩ : Str))).cps.toList = cs := by
      rw [TL.join_eq]
      refine (TL.tl_join _ _).trans ?_
      rw [List.map_map]
      exact joinL1 cs
    have h2 := congrArg List.toArray h
    rw [Array.toArray_toList] at h2
    exact congrArg Str.mk h2
  have hs : ((cs.map fun c => (⟨#[c]⟩ : Str)).map (·.length)).sum + (cs.map fun c => (⟨#[c]⟩ : Str)).length * (("" : Str)).length ≤ 16777216 := by
    have h1 : ((cs.map fun c => (⟨#[c]⟩ : Str)).map (·.length)).sum = cs.length := by
      clear hl e q
      induction cs with
      | nil => rfl
      | cons c cs ih => simp only [List.map_cons, List.sum_cons, ih, List.length_cons]; show 1 + _ = _; omega
    rw [h1]
    show cs.length + _ * 0 ≤ _
    omega
  unfold Ev joinD
  simp only [dr, strs1]
  rw [if_pos hs, e]
  exact q
@[simp] theorem kit_NoneType_bool : kitT "NoneType" "bool" = some false := by decide
@[simp] theorem kit_NoneType_int : kitT "NoneType" "int" = some false := by decide
@[simp] theorem kit_NoneType_str : kitT "NoneType" "str" = some false := by decide
@[simp] theorem kit_NoneType_list : kitT "NoneType" "list" = some false := by decide
@[simp] theorem kit_NoneType_tuple : kitT "NoneType" "tuple" = some false := by decide
@[simp] theorem kit_NoneType_dict : kitT "NoneType" "dict" = some false := by decide
@[simp] theorem kit_bool_bool : kitT "bool" "bool" = some true := by decide
@[simp] theorem kit_bool_int : kitT "bool" "int" = some true := by decide
@[simp] theorem kit_bool_str : kitT "bool" "str" = some false := by decide
@[simp] theorem kit_bool_list : kitT "bool" "list" = some false := by decide
@[simp] theorem kit_bool_tuple : kitT "bool" "tuple" = some false := by decide
@[simp] theorem kit_bool_dict : kitT "bool" "dict" = some false := by decide
@[simp] theorem kit_int_bool : kitT "int" "bool" = some false := by decide
@[simp] theorem kit_int_int : kitT "int" "int" = some true := by decide
@[simp] theorem kit_int_str : kitT "int" "str" = some false := by decide
@[simp] theorem kit_int_list : kitT "int" "list" = some false := by decide
@[simp] theorem kit_int_tuple : kitT "int" "tuple" = some false := by decide
@[simp] theorem kit_int_dict : kitT "int" "dict" = some false := by decide
@[simp] theorem kit_str_bool : kitT "str" "bool" = some false := by decide
@[simp] theorem kit_str_int : kitT "str" "int" = some false := by decide
@[simp] theorem kit_str_str : kitT "str" "str" = some true := by decide
@[simp] theorem kit_str_list : kitT "str" "list" = some false := by decide
@[simp] theorem kit_str_tuple : kitT "str" "tuple" = some false := by decide
@[simp] theorem kit_str_dict : kitT "str" "dict" = some false := by decide
@[simp] theorem kit_list_bool : kitT "list" "bool" = some false := by decide
@[simp] theorem kit_list_int : kitT "list" "int" = some false := by decide
@[simp] theorem kit_list_str : kitT "list" "str" = some false := by decide
@[simp] theorem kit_list_list : kitT "list" "list" = some true := by decide
@[simp] theorem kit_list_tuple : kitT "list" "tuple" = some false := by decide
@[simp] theorem kit_list_dict : kitT "list" "dict" = some false := by decide
@[simp] theorem kit_tuple_bool : kitT "tuple" "bool" = some false := by decide
@[simp] theorem kit_tuple_int : kitT "tuple" "int" = some false := by decide
@[simp] theorem kit_tuple_str : kitT "tuple" "str" = some false := by decide
@[simp] theorem kit_tuple_list : kitT "tuple" "list" = some false := by decide
@[simp] theorem kit_tuple_tuple : kitT "tuple" "tuple" = some true := by decide
@[simp] theorem kit_tuple_dict : kitT "tuple" "dict" = some false := by decide
@[simp] theorem kit_dict_bool : kitT "dict" "bool" = some false := by decide
@[simp] theorem kit_dict_int : kitT "dict" "int" = some false := by decide
@[simp] theorem kit_dict_str : kitT "dict" "str" = some false := by decide
@[simp] theorem kit_dict_list : kitT "dict" "list" = some false := by decide
@[simp] theorem kit_dict_tuple : kitT "dict" "tuple" = some false := by decide
@[simp] theorem kit_dict_dict : kitT "dict" "dict" = some true := by decide
@[simp] theorem ev_isi {x : D} {n : String} : Ev (isiD [x, .ty n]) S E Q = ∃ t, tyNm (dr S x) = some t ∧ ∃ b, kitT t n = some b ∧ Q (.bl b) S := by
  unfold Ev isiD
  cases h : tyNm (dr S x) with
  | none => simp [h]
  | some t =>
    simp only [h]
    cases h2 : kitT t n with
    | none => simp [h2]
    | some b => cases b <;> simp [h2]
theorem blsOf_map : ∀ bs : List Bool, blsOf (bs.map D.bl) = some bs
  | [] => rfl
  | b :: bs => by simp only [List.map_cons, blsOf, blsOf_map bs, Option.map_some]
theorem ev_bls {f : List Bool → Bool} {bs : List Bool} : Ev (overBls f [.lst (bs.map D.bl)]) S E Q = Q (.bl (f bs)) S := by
  unfold Ev overBls
  simp only [dr, blsOf_map]
theorem ev_all {bs : List Bool} : Ev (allD [.lst (bs.map D.bl)]) S E Q = Q (.bl (bs.all id)) S := ev_bls
theorem ev_any {bs : List Bool} : Ev (anyD [.lst (bs.map D.bl)]) S E Q = Q (.bl (bs.any id)) S := ev_bls
theorem ev_make {C : Str} {n : Nat} {f : List D → M D} {ds : List D} : Ev (makeD C n f ds) S E Q = (ds.length + 1 = n ∧ Ev (f (.cel S.length :: ds)) (S ++ [.ins C []]) E fun r S' => r = .non ∧ Q (.cel S.length) S') := by
  unfold Ev makeD
  by_cases h : ds.length + 1 = n
  · rw [if_pos h]
    cases e : f (.cel S.length :: ds) (S ++ [.ins C []]) with
    | ok d S' => cases d <;> simp [h, e]
    | err C2 fs S' => simp [h, e]
    | bad => simp [h, e]
  · rw [if_neg h]; simp [h]
@[simp] theorem ev_setF {Cs : List Str} {f : Str} {n : Nat} {y : D} {PU : Unit → Store → Prop} : Ev (setFD Cs f (.cel n) y) S E PU = ∃ C fs, S[n]? = some (.ins C fs) ∧ (C ∈ Cs ∧ fs.length < 1000) ∧ PU () (S.set n (.ins C (putFD f y fs))) := by
  unfold Ev setFD
  cases e : S[n]? with
  | none => simp only [e]; simp
  | some c =>
    cases c with
    | ins C fs =>
      by_cases h : C ∈ Cs ∧ fs.length < 1000
      · simp only [e, if_pos h]
        exact propext ⟨fun q => ⟨C, fs, rfl, h, q⟩, fun ⟨C', fs', e', h', q⟩ => by cases e'; exact q⟩
      · simp only [e, if_neg h]
        exact propext ⟨fun q => q.elim, fun ⟨C', fs', e', h', q⟩ => by cases e'; exact absurd h' h⟩
    | _ => simp only [e]; simp
@[simp] theorem evr_fld {Cs : List Str} {f : Str} {o v : EM} : EvR (sFldD Cs f o v τ S) ER PR = Ev (v τ) S (fun C fs S' => ER C fs τ S') fun y S1 => Ev (o τ) S1 (fun C fs S' => ER C fs τ S') fun x S2 => Ev (setFD Cs f x y) S2 (fun C fs S' => ER C fs τ S') fun _ S3 => PR (.nx τ) S3 := by
  unfold sFldD; simp only [evr_of, ev_bind, evr_ok]
@[simp] theorem evr_aug {i : Nat} {f : D → D → M D} {m : EM} : EvR (sAug i f m τ S) ER PR = varP τ[i]? S fun x S0 => Ev (m τ) S0 (fun C fs S' => ER C fs τ S') fun y S1 => Ev (f x y) S1 (fun C fs S' => ER C fs τ S') fun d S2 => PR (.nx (τ.set i (some d))) S2 := by
  unfold sAug; simp only [evr_of, ev_bind, evr_ok, ev_var]
@[simp] theorem evr_asg2 {i j : Nat} {m : EM} : EvR (sAsg2 i j m τ S) ER PR = Ev (m τ) S (fun C fs S' => ER C fs τ S') fun d S2 => PR (.nx ((τ.set i (some d)).set j (some d))) S2 := by
  unfold sAsg2; simp only [evr_of, evr_ok]
def tryP (hit : Str → Option Bool) (i : Nat) (ms : Str → List (Str × D) → Nat → SM) (ER : Str → List (Str × D) → DSt → Store → Prop) (PR : Flow → Store → Prop) : Str → List (Str × D) → DSt → Store → Prop := fun C fs τ S => match hit C with
  | some true => EvR (clr i (ms C fs S.length (τ.set i (some (.cel S.length))) (S ++ [.dead]))) ER PR
  | some false => ER C fs τ S
  | none => False
theorem tryP_hit {hit : Str → Option Bool} {i : Nat} {ms : Str → List (Str × D) → Nat → SM} {C : Str} {fs : List (Str × D)} (h : hit C = some true) : tryP hit i ms ER PR C fs τ S = EvR (clr i (ms C fs S.length (τ.set i (some (.cel S.length))) (S ++ [.dead]))) ER PR := by
  unfold tryP; rw [h]
@[simp] theorem evr_try {mb : SM} {hit : Str → Option Bool} {i : Nat} {ms : Str → List (Str × D) → Nat → SM} : EvR (sTry mb hit i ms τ S) ER PR = EvR (mb τ S) (tryP hit i ms ER PR) PR := by
  unfold sTry
  cases e : mb τ S with
  | ok f S' => cases f <;> rfl
  | bad => rfl
  | err C fs τ' S' =>
    show EvR (match hit C with
      | some true => clr i (ms C fs S'.length (τ'.set i (some (.cel S'.length))) (S' ++ [.dead]))
      | some false => .err C fs τ' S'
      | none => .bad) ER PR = tryP hit i ms ER PR C fs τ' S'
    unfold tryP
    cases hit C with
    | none => rfl
    | some b => cases b <;> rfl
def clrF (i : Nat) : Flow → Flow
  | .nx τ => .nx (τ.set i none)
  | .bk τ => .bk (τ.set i none)
  | .ct τ => .ct (τ.set i none)
  | .rt d => .rt d
@[simp] theorem clrF_rt {i : Nat} {d : D} : clrF i (.rt d) = .rt d := rfl
@[simp] theorem clrF_nx {i : Nat} : clrF i (.nx τ) = .nx (τ.set i none) := rfl
@[simp] theorem evr_clr {i : Nat} {r : SRes} : EvR (clr i r) ER PR = EvR r (fun _ _ _ _ => False) fun f S' => PR (clrF i f) S' := by
  cases r with
  | ok f S' => cases f <;> rfl
  | err C fs τ S' => rfl
  | bad => rfl
@[simp] theorem ev_exf {nm C : Str} {k : Nat} {f fl : Str} {d : D} {m : EM} : Ev (mExf nm C [(f, d)] k fl m τ) S E Q = Ev (m τ) S E fun x S1 => (x = .cel k ∧ f = fl ∧ C = nm) ∧ Q d S1 := by
  unfold mExf
  rw [ev_bind]
  congr 1; funext x S1
  unfold Ev exfD
  cases x with
  | cel j =>
    by_cases h : j = k ∧ f = fl ∧ C = nm
    · simp only [if_pos h]; obtain ⟨rfl, rfl, rfl⟩ := h; simp
    · simp only [if_neg h]
      exact propext ⟨fun q => q.elim, fun ⟨z, _⟩ => absurd ⟨by injection z.1, z.2⟩ h⟩
  | _ => simp
@[simp] theorem ev_exi {nm C : Str} {k : Nat} {f : Str} {d : D} {b : Bool} {m : EM} : Ev (mExi nm C [(f, d)] k b m τ) S E Q = Ev (m τ) S E fun x S1 => (x = .cel k ∧ C = nm) ∧ Q (.bl b) S1 := by
  unfold mExi
  rw [ev_bind]
  congr 1; funext x S1
  unfold Ev exiD
  cases x with
  | cel j =>
    by_cases h : j = k ∧ C = nm
    · simp only [if_pos h]; obtain ⟨rfl, rfl⟩ := h; simp
    · simp only [if_neg h]
      exact propext ⟨fun q => q.elim, fun ⟨z, _⟩ => absurd ⟨by injection z.1, z.2⟩ h⟩
  | _ => simp
theorem ev_setT {xs : List D} {ks : List Key} (h : keysOf xs = some ks) (hl : ks.length ≤ 1000) : Ev (setOD [.tup xs]) S E Q = Q (.set (NDS.dedK ks)) S := by
  unfold Ev setOD
  simp only [dr, h]
  rw [if_pos (show ks.length + 1 < scanBound from Nat.lt_of_le_of_lt (Nat.succ_le_succ hl) (by decide))]
theorem ev_eq {neg : Bool} {x y : D} {a b : PyData} (hx : pyD S x = some a) (hy : pyD S y = some b) : Ev (eqvD neg x y) S E Q = Q (.bl (if neg then !PyData.eqv a b else PyData.eqv a b)) S := by
  unfold Ev eqvD
  simp only [hx, hy]
@[simp] theorem ev_eqI {neg : Bool} {i j : Int} : Ev (eqvD neg (.int i) (.int j)) S E Q = Q (.bl (if neg then !(i == j) else i == j)) S := by rw [ev_eq (a := .int i) (b := .int j) rfl rfl]; rfl
@[simp] theorem ev_eqS {neg : Bool} {i j : Str} : Ev (eqvD neg (.str i) (.str j)) S E Q = Q (.bl (if neg then !(i == j) else i == j)) S := by rw [ev_eq (a := .str i) (b := .str j) rfl rfl]; rfl
@[simp] theorem ev_eqB {neg : Bool} {i j : Bool} : Ev (eqvD neg (.bl i) (.bl j)) S E Q = Q (.bl (if neg then !(i == j) else i == j)) S := by rw [ev_eq (a := .bool i) (b := .bool j) rfl rfl]; rfl
@[simp] theorem ev_isB {neg : Bool} {i j : Bool} : Ev (isD neg (.bl i) (.bl j)) S E Q = Q (.bl (if neg then !decide (i = j) else decide (i = j))) S := rfl
theorem ev_lenSet {ks : List Key} (h : ks.length ≤ 1000) : Ev (lenSD [.set ks]) S E Q = Q (.int ks.length) S := by
  unfold Ev lenSD
  simp only [dr]
  rw [if_pos (by omega)]
end
end ND
namespace NM
def fillAt : Nat → Nat → List Bool
  | 0, _ => []
  | n + 1, k => k.testBit n :: fillAt n k
def placeOf (f : List Bool) : Nat := f.foldl (fun p b => 2 * p + b.toNat) 0
def fills : Nat → List (List Bool)
  | 0 => [[]]
  | n + 1 => (fills n).flatMap fun f => [f ++ [false], f ++ [true]]
theorem fillAt_length (n k : Nat) : (fillAt n k).length = n := by
  induction n with
  | zero => rfl
  | succ n ih => simp [fillAt, ih]
theorem testBit_double (k m : Nat) (b : Bool) : (2 * k + b.toNat).testBit (m + 1) = k.testBit m := by
  rw [Nat.testBit_succ]
  congr 1
  cases b <;> simp <;> omega
theorem testBit_double0 (k : Nat) (b : Bool) : (2 * k + b.toNat).testBit 0 = b := by
  rw [Nat.testBit_zero]
  cases b <;> simp <;> omega
theorem fillAt_double (n k : Nat) (b : Bool) : fillAt (n + 1) (2 * k + b.toNat) = fillAt n k ++ [b] := by
  induction n with
  | zero => rw [fillAt, fillAt, fillAt, testBit_double0]; rfl
  | succ n ih =>
    rw [fillAt, ih, testBit_double, fillAt]
    rfl
theorem range_double (n : Nat) : List.range (2 * n) = (List.range n).flatMap fun k => [2 * k, 2 * k + 1] := by
  induction n with
  | zero => rfl
  | succ n ih =>
    rw [show 2 * (n + 1) = 2 * n + 1 + 1 by omega, List.range_succ, List.range_succ, ih, List.range_succ, List.flatMap_append]
    simp
theorem fills_eq (n : Nat) : fills n = (List.range (2 ^ n)).map (fillAt n) := by
  induction n with
  | zero => rfl
  | succ n ih =>
    rw [fills, ih, Nat.pow_succ, Nat.mul_comm, range_double, List.map_flatMap, List.flatMap_map]
    congr 1
    funext k
    have e0 := fillAt_double n k false
    have e1 := fillAt_double n k true
    simp at e0 e1
    simp [e0, e1]
theorem fills_length (n : Nat) : (fills n).length = 2 ^ n := by rw [fills_eq]; simp
theorem mem_fills {n : Nat} {f : List Bool} (h : f ∈ fills n) : f.length = n := by
  rw [fills_eq] at h
  obtain ⟨k, _, rfl⟩ := List.mem_map.mp h
  exact fillAt_length n k
theorem snoc_ind {P : List Bool → Prop} (h0 : P []) (h1 : ∀ f b, P f → P (f ++ [b])) (f : List Bool) : P f := by
  have key : ∀ l : List Bool, P l.reverse := by
    intro l
    induction l with
    | nil => exact h0
    | cons b l ih => rw [List.reverse_cons]; exact h1 _ _ ih
  have := key f.reverse
  rwa [List.reverse_reverse] at this
theorem place_snoc (f : List Bool) (b : Bool) : placeOf (f ++ [b]) = 2 * placeOf f + b.toNat := by simp [placeOf]
theorem place_lt (f : List Bool) : placeOf f < 2 ^ f.length := by
  refine snoc_ind (P := fun f => placeOf f < 2 ^ f.length) (by simp [placeOf]) (fun f b ih => ?_) f
  show placeOf (f ++ [b]) < 2 ^ (f ++ [b]).length
  rw [place_snoc, List.length_append, List.length_singleton, Nat.pow_succ]
  cases b <;> simp <;> omega
theorem fill_place (f : List Bool) : fillAt f.length (placeOf f) = f := by
  refine snoc_ind (P := fun f => fillAt f.length (placeOf f) = f) rfl (fun f b ih => ?_) f
  show fillAt (f ++ [b]).length (placeOf (f ++ [b])) = f ++ [b]
  rw [place_snoc, List.length_append, List.length_singleton, fillAt_double, ih]
theorem place_fill {n k : Nat} (h : k < 2 ^ n) : placeOf (fillAt n k) = k := by
  induction n generalizing k with
  | zero => simp at h; subst h; rfl
  | succ n ih =>
    have e : k = 2 * (k / 2) + (decide (k % 2 = 1)).toNat := by
      by_cases q : k % 2 = 1
      · simp [q]; omega
      · simp [q]; omega
    rw [e, fillAt_double, place_snoc, ih (by rw [Nat.pow_succ] at h; omega)]
abbrev Want := List (Option Bool)
def okW : Option Bool → Bool → Bool
  | none, _ => true
  | some b, x => x == b
def fitsW : List Bool → Want → Bool
  | x :: f, o :: w => okW o x && fitsW f w
  | _, _ => true
def maskN : Want → Nat
  | [] => 1
  | o :: w => (match o with
    | none => maskN w ||| maskN w <<< 2 ^ w.length
    | some true => maskN w <<< 2 ^ w.length
    | some false => maskN w)
theorem fitsW_high (n k : Nat) (w : Want) (h : w.length = n) : fitsW (fillAt n (k + 2 ^ n)) w = fitsW (fillAt n k) w := by
  have low : ∀ m j, m ≤ n → fillAt m (j + 2 ^ n) = fillAt m j := by
    intro m j hm
    induction m with
    | zero => rfl
    | succ m ih =>
      rw [fillAt, fillAt, ih (by omega)]
      congr 1
      rw [Nat.add_comm, Nat.testBit_two_pow_add_gt (by omega)]
  rw [low n k (Nat.le_refl _)]
theorem mask_bit (w : Want) (k : Nat) : (maskN w).testBit k = (decide (k < 2 ^ w.length) && fitsW (fillAt w.length k) w) := by
  induction w generalizing k with
  | nil =>
    show (1 : Nat).testBit k = _
    cases k with
    | zero => rfl
    | succ k => simp [Nat.testBit_succ]
  | cons o w ih =>
    have p : (2 : Nat) ^ (o :: w).length = 2 ^ w.length + 2 ^ w.length := by rw [List.length_cons, Nat.pow_succ]; omega
    have head : fitsW (fillAt (o :: w).length k) (o :: w) = (okW o (k.testBit w.length) && fitsW (fillAt w.length k) w) := rfl
    have sh : (maskN w <<< 2 ^ w.length).testBit k = (decide (2 ^ w.length ≤ k) && (decide (k - 2 ^ w.length < 2 ^ w.length) && fitsW (fillAt w.length (k - 2 ^ w.length)) w)) := by
      rw [Nat.testBit_shiftLeft, ih]
    rw [head, p]
    by_cases h1 : k < 2 ^ w.length
    · have b0 : k.testBit w.length = false := Nat.testBit_lt_two_pow h1
      have n1 : ¬ 2 ^ w.length ≤ k := by omega
      have h2 : k < 2 ^ w.length + 2 ^ w.length := by omega
      cases o with
      | none => simp only [maskN, okW, Nat.testBit_or, sh, ih, h1, n1, h2]; simp
      | some b => cases b <;> simp only [maskN, okW, sh, ih, h1, n1, h2, b0] <;> simp
    · have n1 : 2 ^ w.length ≤ k := by omega
      by_cases h2 : k < 2 ^ w.length + 2 ^ w.length
      · have h3 : k - 2 ^ w.length < 2 ^ w.length := by omega
        have ek : k = (k - 2 ^ w.length) + 2 ^ w.length := by omega
        have b1 : k.testBit w.length = true := by
          rw [ek, Nat.add_comm, Nat.testBit_two_pow_add_eq, Nat.testBit_lt_two_pow h3]; rfl
        have ef : fitsW (fillAt w.length k) w = fitsW (fillAt w.length (k - 2 ^ w.length)) w := by
          conv => lhs; rw [ek]
          exact fitsW_high _ _ _ rfl
        cases o with
        | none => simp only [maskN, okW, Nat.testBit_or, sh, ih, h1, n1, h2, h3, ef]; simp
        | some b => cases b <;> simp only [maskN, okW, sh, ih, h1, n1, h2, h3, ef, b1] <;> simp
      · have h3 : ¬ k - 2 ^ w.length < 2 ^ w.length := by omega
        cases o with
        | none => simp only [maskN, okW, Nat.testBit_or, sh, ih, h1, n1, h2, h3]; simp
        | some b => cases b <;> simp only [maskN, okW, sh, ih, h1, n1, h2, h3] <;> simp
theorem mask_lt (w : Want) : maskN w < 2 ^ 2 ^ w.length := by
  refine Nat.lt_pow_two_of_testBit _ fun i hi => ?_
  rw [mask_bit, decide_eq_false (by omega)]
  rfl
def lot (n m : Nat) : List (List Bool) := ((List.range (2 ^ n)).filter fun k => m.testBit k).map (fillAt n)
theorem lot_all (n : Nat) : lot n (maskN (List.replicate n none)) = fills n := by
  rw [fills_eq, lot, List.filter_eq_self.mpr]
  intro k hk
  rw [mask_bit, List.length_replicate, decide_eq_true (List.mem_range.mp hk), Bool.true_and]
  have : ∀ m (f : List Bool), fitsW f (List.replicate m none) = true := by
    intro m
    induction m with
    | zero => intro f; cases f <;> rfl
    | succ m ih =>
      intro f
      cases f with
      | nil => rfl
      | cons x f => rw [List.replicate_succ]; simp [fitsW, okW, ih f]
  exact this _ _
theorem lot_mem {n m : Nat} {f : List Bool} (h : f.length = n) : f ∈ lot n m ↔ m.testBit (placeOf f) = true := by
  subst h
  rw [lot, List.mem_map]
  constructor
  · rintro ⟨k, hk, e⟩
    obtain ⟨k1, k2⟩ := List.mem_filter.mp hk
    rw [← e, place_fill (List.mem_range.mp k1)]
    exact k2
  · intro h
    exact ⟨placeOf f, List.mem_filter.mpr ⟨List.mem_range.mpr (place_lt f), h⟩, fill_place f⟩
theorem lot_filter {n m m' : Nat} {p : List Bool → Bool} (h : ∀ k, k < 2 ^ n → m'.testBit k = (m.testBit k && p (fillAt n k))) : lot n m' = (lot n m).filter p := by
  rw [lot, lot, List.filter_map, List.filter_filter]
  congr 1
  apply List.filter_congr
  intro k hk
  rw [h k (List.mem_range.mp hk)]
  simp [Bool.and_comm]
theorem lot_len (n m : Nat) : (lot n m).length ≤ 2 ^ n := by
  rw [lot, List.length_map]
  exact Nat.le_trans (List.length_filter_le _ _) (by simp)
theorem lot_fill {n m : Nat} {f : List Bool} (h : f ∈ lot n m) : f.length = n := by
  obtain ⟨k, _, rfl⟩ := List.mem_map.mp h
  exact fillAt_length n k
theorem sub_and (a b : Nat) : a - (a &&& b) = a ^^^ (a &&& b) := by
  have h : (a ^^^ (a &&& b)) + (a &&& b) = a := by
    have e : (a ^^^ (a &&& b)) &&& (a &&& b) = 0 := by
      apply Nat.eq_of_testBit_eq
      intro i
      simp only [Nat.testBit_and, Nat.testBit_xor, Nat.zero_testBit]
      cases a.testBit i <;> cases b.testBit i <;> rfl
    have f : (a ^^^ (a &&& b)) ||| (a &&& b) = a := by
      apply Nat.eq_of_testBit_eq
      intro i
      simp only [Nat.testBit_and, Nat.testBit_xor, Nat.testBit_or]
      cases a.testBit i <;> cases b.testBit i <;> rfl
    have key := PyProof.Rows.nat_or_add_and (a ^^^ (a &&& b)) (a &&& b)
    rw [e, f] at key
    omega
  omega
theorem testBit_sub_and (a b i : Nat) : (a - (a &&& b)).testBit i = (a.testBit i && !b.testBit i) := by
  rw [sub_and, Nat.testBit_xor, Nat.testBit_and]
  cases a.testBit i <;> cases b.testBit i <;> rfl
end NM
set_option maxHeartbeats 4000000
namespace NA
open PySem L2 ND
theorem take_ev {n : Nat} {S : Store} {g x k : Int} {E : XP} {Q : D → Store → Prop} (h : S[n]? = some (.lst [.int g, .int x])) (hg : 0 ≤ g) (hx : 0 ≤ x) (hx2 : x < 2147483647) (hk : 0 < k) (hk2 : k < 1073741824)
    (q : ∀ r g' x', 0 ≤ r → r < k → 0 ≤ g' → 0 ≤ x' → x' < 2147483647 → Q (.int r) (S.set n (.lst [.int g', .int x']))) : Ev (m_law_take [.cel n, .int k]) S E Q := by
  unfold m_law_take
  rw [ev_fn]
  unfold b_law_take
  simp [startD, h, List.getElem?_set_self']
  split
  · rename_i hp
    exact ⟨hk, ⟨hk, hk2⟩, q _ _ _ (Int.emod_nonneg _ (by omega)) (Int.emod_lt_of_pos _ hk) (Int.ediv_nonneg hg (by omega)) hx hx2⟩
  · have h1 : 0 ≤ (x * 48271 + 11) % 2147483647 := Int.emod_nonneg _ (by decide)
    have h2 : (x * 48271 + 11) % 2147483647 < 2147483647 := Int.emod_lt_of_pos _ (by decide)
    refine ⟨by unfold mulC; simp, ?_, hk, q _ _ _ (Int.emod_nonneg _ (by omega)) (Int.emod_lt_of_pos _ hk) hg h1 h2⟩
    have h3 : 0 ≤ (x * 48271 + 11) % 2147483647 / 8 := Int.ediv_nonneg h1 (by decide)
    omega
def Bag (S : Store) (n : Nat) : Prop := ∃ g x, S[n]? = some (.lst [.int g, .int x]) ∧ 0 ≤ g ∧ 0 ≤ x ∧ x < 2147483647
def Onl (n : Nat) (S S' : Store) : Prop := S'.length = S.length ∧ ∀ m, m ≠ n → S'[m]? = S[m]?
theorem Onl.refl {n : Nat} {S : Store} : Onl n S S := ⟨rfl, fun _ _ => rfl⟩
theorem Onl.trans {n : Nat} {S S1 S2 : Store} (a : Onl n S S1) (b : Onl n S1 S2) : Onl n S S2 := ⟨b.1.trans a.1, fun m h => (b.2 m h).trans (a.2 m h)⟩
theorem takeB {n : Nat} {S : Store} {k : Int} {E : XP} {Q : D → Store → Prop} (h : Bag S n) (hk : 0 < k) (hk2 : k < 1073741824)
    (q : ∀ r S', Bag S' n → Onl n S S' → 0 ≤ r → r < k → Q (.int r) S') : Ev (m_law_take [.cel n, .int k]) S E Q := by
  obtain ⟨g, x, h1, h2, h3, h4⟩ := h
  have hn := (List.getElem?_eq_some_iff.mp h1).1
  refine take_ev h1 h2 h3 h4 hk hk2 fun r g' x' r0 r1 a b c => q r _ ⟨g', x', by rw [List.getElem?_set_self hn], a, b, c⟩ ⟨by simp, fun m hm => List.getElem?_set_ne (Ne.symm hm)⟩ r0 r1
theorem bag_ev {S : Store} {ns : List Int} {a : Int} {E : XP} {Q : D → Store → Prop} (h0 : 0 ≤ a) (h6 : a < 6) (q : ∀ g x, 0 ≤ g → 0 ≤ x → x < 2147483647 → Q (.cel S.length) (S ++ [.lst [.int g, .int x]])) :
    Ev (m_law_bag [.rol (ns.map D.int), .int a]) S E Q := by
  unfold m_law_bag
  rw [ev_fn]
  unfold b_law_bag
  obtain ⟨p, hp, hp0, hp1⟩ : ∃ p, atI [D.int 2147483629, D.int 2147483587, D.int 2147483579, D.int 2147483563, D.int 2147483549, D.int 2147483543, D.int 2147483497, D.int 2147483489] (a % 8) = some (.int p) ∧ 0 < p ∧ p < 2147483648 := by
    obtain ⟨x, h1, h2⟩ := atI_ex (xs := [D.int 2147483629, D.int 2147483587, D.int 2147483579, D.int 2147483563, D.int 2147483549, D.int 2147483543, D.int 2147483497, D.int 2147483489]) (i := a % 8) (by omega) (by show a % 8 < 8; omega)
    rw [h1]
    simp at h2
    rcases h2 with rfl | rfl | rfl | rfl | rfl | rfl | rfl | rfl <;> exact ⟨_, rfl, by decide, by decide⟩
  have m1 : mulC 104729 a = true := by unfold mulC; simp
  have m2 : mulC 7919 a = true := by unfold mulC; simp
  have m3 : ∀ i, mulC i 48271 = true := fun i => by unfold mulC; simp
  have z1 : (8 : Nat) ≤ sizeLine := by rw [sizeLine_eq]; decide
  have z2 : (2 : Nat) ≤ sizeLine := by rw [sizeLine_eq]; decide
  have fin : ∀ y : Int, 0 ≤ y % p ∧ y % p < p := fun y => ⟨Int.emod_nonneg _ (by omega), Int.emod_lt_of_pos _ hp0⟩
  have fin2 : ∀ y : Int, 0 ≤ y % 2147483647 ∧ y % 2147483647 < 2147483647 := fun y => ⟨Int.emod_nonneg _ (by omega), Int.emod_lt_of_pos _ (by omega)⟩
  by_cases hlt : a < (ns.length : Int)
  · obtain ⟨c, hc⟩ : ∃ c : Int, atI (ns.map D.int) a = some (.int c) := by
      obtain ⟨x, h1, h2⟩ := atI_ex (xs := ns.map D.int) h0 (by rw [List.length_map]; exact hlt)
      obtain ⟨c, _, rfl⟩ := List.mem_map.mp h2
      exact ⟨c, h1⟩
    have fc := fin2 c
    simp [startD, hlt, hc, hp, m1, m2, m3, z1, z2, hp0]
    have f1 := fin ((c % 2147483647 + 104729 * a + 7) ^ 5)
    have b1 : (c % 2147483647 + 104729 * a + 7).natAbs < 18446744073709551616 := by omega
    have b2 : ((c % 2147483647 + 104729 * a + 7) ^ 5 % p * 48271 + 7919 * a + 11).natAbs < 18446744073709551616 := by omega
    split <;> split <;> exact ⟨b1, b2, q _ _ (by omega) (fin2 _).1 (fin2 _).2⟩
  · simp [startD, hlt, hp, m1, m2, m3, z1, z2, hp0]
    have f1 := fin ((104729 * a + 7) ^ 5)
    have b1 : (104729 * a + 7).natAbs < 18446744073709551616 := by omega
    have b2 : ((104729 * a + 7) ^ 5 % p * 48271 + 7919 * a + 11).natAbs < 18446744073709551616 := by omega
    exact ⟨b1, b2, q _ _ (by omega) (fin2 _).1 (fin2 _).2⟩
def Lett (x : Str) : Prop := ∀ c ∈ x.cps.toList, 97 ≤ c ∧ c ≤ 122
def Nm (d : D) : Prop := ∃ x : Str, d = .str x ∧ Lett x ∧ 1 ≤ x.length ∧ x.length ≤ 8
theorem abc : ∀ c ∈ (("abcdefghijklmnopqrstuvwxyz" : Str)).cps.toList, 97 ≤ c ∧ c ≤ 122 := by decide +kernel
theorem abcN : (("abcdefghijklmnopqrstuvwxyz" : Str)).cps.toList.length = 26 := by decide +kernel
def Ext (n : Nat) (S S' : Store) : Prop := S.length ≤ S'.length ∧ ∀ m, m < S.length → m ≠ n → S'[m]? = S[m]?
theorem Ext.refl {n : Nat} {S : Store} : Ext n S S := ⟨Nat.le_refl _, fun _ _ _ => rfl⟩
theorem Ext.trans {n : Nat} {S S1 S2 : Store} (a : Ext n S S1) (b : Ext n S1 S2) : Ext n S S2 := ⟨Nat.le_trans a.1 b.1, fun m h q => (b.2 m (Nat.lt_of_lt_of_le h a.1) q).trans (a.2 m h q)⟩
theorem Onl.ext {n : Nat} {S S' : Store} (o : Onl n S S') : Ext n S S' := ⟨Nat.le_of_eq o.1.symm, fun m _ q => o.2 m q⟩
theorem Ext.snoc {n : Nat} {S : Store} (x : Cell) : Ext n S (S ++ [x]) := ⟨by simp, fun m h _ => List.getElem?_append_left h⟩
theorem Bag.lt {S : Store} {n : Nat} (b : Bag S n) : n < S.length := by obtain ⟨_, _, e, _⟩ := b; exact (List.getElem?_eq_some_iff.mp e).1
theorem Bag.snoc {S : Store} {n : Nat} (b : Bag S n) (x : Cell) : Bag (S ++ [x]) n := by
  obtain ⟨g, y, e, r⟩ := b
  exact ⟨g, y, by rw [List.getElem?_append_left (List.getElem?_eq_some_iff.mp e).1]; exact e, r⟩
theorem Bag.set {S : Store} {n k : Nat} (b : Bag S n) (x : Cell) (h : n ≠ k) : Bag (S.set k x) n := by
  obtain ⟨g, y, e, r⟩ := b
  exact ⟨g, y, by rw [List.getElem?_set_ne (Ne.symm h)]; exact e, r⟩
def nameJ (cs : List Nat) (sp : Nat) (fi pc : Int) (j : Nat) : Str := ⟨(cs.take sp ++ (97 + ((fi + pc * j) % 26).toNat) :: cs.drop sp).toArray⟩
structure Names (ns : List Str) : Prop where
  nm : ∀ x ∈ ns, Lett x ∧ 1 ≤ x.length ∧ x.length ≤ 8
  nd : ns.Nodup
theorem abc_at : ∀ r : Nat, r < 26 → (("abcdefghijklmnopqrstuvwxyz" : Str)).cps.toList[r]? = some (97 + r) := by
  have h : ∀ r ∈ List.range 26, (("abcdefghijklmnopqrstuvwxyz" : Str)).cps.toList[r]? = some (97 + r) := by decide +kernel
  exact fun r hr => h r (List.mem_range.mpr hr)
theorem nameJ_inj {cs : List Nat} {sp : Nat} {fi pc : Int} (hsp : sp ≤ cs.length) (hpc : pc = 1 ∨ pc = 3 ∨ pc = 5 ∨ pc = 25) {i j : Nat} (hi : i < 11) (hj : j < 11) (h : nameJ cs sp fi pc i = nameJ cs sp fi pc j) : i = j := by
  have e : cs.take sp ++ (97 + ((fi + pc * i) % 26).toNat) :: cs.drop sp = cs.take sp ++ (97 + ((fi + pc * j) % 26).toNat) :: cs.drop sp := by
    have := congrArg (fun z : Str => z.cps.toList) h
    simpa [nameJ] using this
  have e2 := List.append_cancel_left e
  have e3 : 97 + ((fi + pc * i) % 26).toNat = 97 + ((fi + pc * j) % 26).toNat := (List.cons.inj e2).1
  rcases hpc with rfl | rfl | rfl | rfl <;> omega
theorem nodup_map_range {α : Type} {f : Nat → α} : ∀ {n : Nat}, (∀ i j, i < n → j < n → f i = f j → i = j) → ((List.range n).map f).Nodup
  | 0, _ => List.nodup_nil
  | n + 1, h => by
    rw [List.range_succ, List.map_append]
    refine List.nodup_append.mpr ⟨nodup_map_range fun i j hi hj => h i j (by omega) (by omega), by simp, fun a ha b hb e => ?_⟩
    obtain ⟨i, hi, rfl⟩ := List.mem_map.mp ha
    simp at hb
    subst hb
    have hi := List.mem_range.mp hi
    have := h i n (by omega) (by omega) e
    omega
theorem names_ev {n : Nat} {S : Store} {k : Int} {E : XP} {Q : D → Store → Prop} (h : Bag S n) (h0 : 0 ≤ k) (h1 : k ≤ 11)
    (q : ∀ ns S', Bag S' n → Ext n S S' → Names ns → (ns.length : Int) = k → Q (.tup (ns.map D.str)) S') : Ev (m_law_names [.cel n, .int k]) S E Q := by
  unfold m_law_names
  rw [ev_fn]
  unfold b_law_names
  have z5 : (5 : Nat) ≤ sizeLine := by rw [sizeLine_eq]; decide
  simp [startD, z5, tyNm, dr]
  refine takeB h (by decide) (by decide) fun r S1 b1 o1 r0 r1 => ?_
  rw [ev_ixL]
  obtain ⟨d, hd, hm⟩ := atI_ex (xs := [D.int 0, D.int 0, D.int 1, D.int 2, D.int 7]) r0 (by show r < 5; omega)
  obtain ⟨m, rfl, hm7⟩ : ∃ m : Nat, d = .int (m : Int) ∧ m ≤ 7 := by
    simp at hm
    rcases hm with rfl | rfl | rfl | rfl
    · exact ⟨0, rfl, by decide⟩
    · exact ⟨1, rfl, by decide⟩
    · exact ⟨2, rfl, by decide⟩
    · exact ⟨7, rfl, by decide⟩
  refine ⟨_, hd, ?_⟩
  rw [ev_rng1D]
  refine ⟨by omega, ?_⟩
  have z : 0 < sizeLine ∧ 11 < sizeLine ∧ 100 < sizeLine := by rw [sizeLine_eq]; decide
  refine ev_noErr (ev_compL (fun i acc S' => Bag S' n ∧ Onl n S S' ∧ ∃ cs : List Nat, acc = cs.map (fun c => D.str ⟨#[c]⟩) ∧ cs.length = i ∧ ∀ c ∈ cs, 97 ≤ c ∧ c ≤ 122) (k := 0) ⟨b1, o1, [], rfl, rfl, by simp⟩ (fun i x acc S2 hx hi => ?_) (fun acc S2 hi => ?_))
  · obtain ⟨b2, o2, cs, rfl, hcl, hcs⟩ := hi
    refine ⟨_, bind_nm, ?_⟩
    have hi7 : i < 7 := by
      have := (List.getElem?_eq_some_iff.mp hx).1
      unfold intsD at this
      simp at this
      omega
    simp [wipeD]
    refine takeB b2 (by decide) (by decide) fun r S3 b3 o3 r0 r1 => ?_
    rw [ev_ixS]
    obtain ⟨c, hc, hm⟩ := atI_ex (xs := (("abcdefghijklmnopqrstuvwxyz" : Str)).cps.toList) r0 (by rw [abcN]; exact r1)
    refine ⟨c, hc, by omega, b3, o2.trans o3, cs ++ [c], by simp, by simp; omega, fun x hx => ?_⟩
    rcases List.mem_append.mp hx with hx | hx
    · exact hcs x hx
    · rw [List.mem_singleton.mp hx]; exact abc c hm
  · obtain ⟨b2, o2, cs, rfl, hcl, hcs⟩ := hi
    have hl7 : cs.length ≤ 7 := by
      unfold intsD at hcl
      simp at hcl
      omega
    refine join_ev (by omega) ?_
    simp
    refine takeB b2 (by omega) (by omega) fun sp S3 b3 o3 sp0 sp1 => ?_
    refine takeB b3 (by omega) (by omega) fun fi S4 b4 o4 fi0 fi1 => ?_
    refine ⟨by omega, ?_⟩
    refine takeB b4 (by omega) (by omega) fun y S5 b5 o5 y0 y1 => ?_
    rw [ev_ixL]
    obtain ⟨d, hd, hm⟩ := atI_ex (xs := [D.int 1, D.int 3, D.int 5, D.int 25]) y0 (by show y < 4; omega)
    obtain ⟨pc, rfl, hpc⟩ : ∃ pc : Int, d = .int pc ∧ (pc = 1 ∨ pc = 3 ∨ pc = 5 ∨ pc = 25) := by
      simp at hm
      rcases hm with rfl | rfl | rfl | rfl <;> exact ⟨_, rfl, by decide⟩
    refine ⟨_, hd, by omega, ?_⟩
    have o := ((o2.trans o3).trans o4).trans o5
    have nl := b5.lt
    have hsp : sp.toNat ≤ cs.length := by omega
    refine evr_loop (fun i τ S' => ∃ v5 v9, τ = [some (D.cel n), some (D.int k), some (D.str (Str.ofString "abcdefghijklmnopqrstuvwxyz")), some (D.str { cps := cs.toArray }), some (D.cel S5.length), v5, some (.int sp), some (.int fi), some (.int pc), v9]
        ∧ S' = S5 ++ [.lst ((List.range i).map fun j => D.str (nameJ cs sp.toNat fi pc j))]) (k := 0) ⟨none, none, rfl, rfl⟩ (fun i x τ S6 hx hi => ?_) (fun τ S6 hi => ?_)
    · obtain ⟨v5, v9, rfl, rfl⟩ := hi
      refine ⟨_, bind_nm, ?_⟩
      obtain ⟨rfl, hik⟩ := intsD_at hx
      have hi11 : i < 11 := by omega
      have mu : mulC pc (0 + (i : Int)) = true := by
        unfold mulC
        simp
        rcases hpc with rfl | rfl | rfl | rfl <;> omega
      have ff : 0 ≤ (fi + pc * (0 + (i : Int))) % 26 ∧ (fi + pc * (0 + (i : Int))) % 26 < 26 := ⟨Int.emod_nonneg _ (by decide), Int.emod_lt_of_pos _ (by decide)⟩
      have hc := atI_at (i := (fi + pc * (0 + (i : Int))) % 26) (n := ((fi + pc * (0 + (i : Int))) % 26).toNat) (by omega) (abc_at _ (by omega))
      generalize hz : ((fi + pc * (0 + (i : Int))) % 26).toNat = z at hc
      have w1 : ({ cps := #[97 + z] } : Str) = ⟨[97 + z].toArray⟩ := rfl
      have e1 : (S5 ++ [Cell.lst ((List.range i).map fun j => D.str (nameJ cs sp.toNat fi pc j))])[S5.length]? = some (.lst ((List.range i).map fun j => D.str (nameJ cs sp.toNat fi pc j))) := by simp
      simp at mu hc
      simp [mu, hc, tyNm, dr, w1, cut_hi sp0 (xs := cs) (by omega), cut_lo sp0 (xs := cs) (by omega)]
      refine ⟨by omega, by omega, by omega, ?_⟩
      rw [List.range_succ, List.map_append]
      simp [nameJ]
      simp at hz
      rw [hz]
    · obtain ⟨v5, v9, rfl, rfl⟩ := hi
      simp
      rw [ev_tupleC (xs := (List.range k.toNat).map fun j => D.str (nameJ cs sp.toNat fi pc j)) (by simp)]
      have e : (List.range k.toNat).map (fun j => D.str (nameJ cs sp.toNat fi pc j)) = ((List.range k.toNat).map (nameJ cs sp.toNat fi pc)).map D.str := by rw [List.map_map]; rfl
      rw [e]
      refine q _ _ (b5.snoc _) ((o1.ext.trans (Onl.ext ⟨by rw [o.1, o1.1], fun m hm => by rw [o.2 m hm, o1.2 m hm]⟩)).trans (Ext.snoc _) |> fun z => z) ⟨fun x hx => ?_, ?_⟩ (by simp; omega)
      · obtain ⟨j, _, rfl⟩ := List.mem_map.mp hx
        have hb : 0 ≤ (fi + pc * j) % 26 ∧ (fi + pc * j) % 26 < 26 := ⟨Int.emod_nonneg _ (by decide), Int.emod_lt_of_pos _ (by decide)⟩
        refine ⟨fun c hc => ?_, by simp [nameJ]; omega, by simp [nameJ]; omega⟩
        simp [nameJ] at hc
        rcases hc with hc | rfl | hc
        · exact hcs c (List.mem_of_mem_take hc)
        · omega
        · exact hcs c (List.mem_of_mem_drop hc)
      · exact nodup_map_range fun i j hi hj e => nameJ_inj hsp hpc (by omega) (by omega) e
end NA
set_option maxHeartbeats 4000000
namespace NA
open PySem L2 ND
def isL (c : Nat) : Bool := decide (97 ≤ c ∧ c ≤ 122)
def isN : D → Bool
  | .str x => decide (1 ≤ x.length ∧ x.length ≤ 8) && x.cps.toList.all isL
  | _ => false
theorem isN_str (x : Str) : isN (.str x) = (decide (1 ≤ x.length ∧ x.length ≤ 8) && x.cps.toList.all isL) := rfl
inductive Sd : D → Prop
  | non : Sd .non
  | bl (b : Bool) : Sd (.bl b)
  | int (i : Int) : Sd (.int i)
  | str (x : Str) : Sd (.str x)
  | lst {xs : List D} : (∀ x ∈ xs, Sd x) → xs.length ≤ 1000 → Sd (.lst xs)
  | tup {xs : List D} : (∀ x ∈ xs, Sd x) → xs.length ≤ 1000 → Sd (.tup xs)
section
variable {S : Store} {E : XP} {Q : D → Store → Prop} {d : D}
theorem abc_iff (c : Nat) : strIn ⟨#[c]⟩ "abcdefghijklmnopqrstuvwxyz" = isL c := by
  have h1 : strIn ⟨#[c]⟩ "abcdefghijklmnopqrstuvwxyz" = decide (c ∈ (("abcdefghijklmnopqrstuvwxyz" : Str)).cps.toList) := rfl
  rw [h1]
  unfold isL
  by_cases h : 97 ≤ c ∧ c ≤ 122
  · have h2 : c ∈ (("abcdefghijklmnopqrstuvwxyz" : Str)).cps.toList := by
      have : ∀ c ∈ List.range 123, 97 ≤ c → c ∈ (("abcdefghijklmnopqrstuvwxyz" : Str)).cps.toList := by decide +kernel
      exact this c (List.mem_range.mpr (by omega)) h.1
    rw [decide_eq_true h2, decide_eq_true h]
  · rw [decide_eq_false h, decide_eq_false (fun z => h (abc c z))]
theorem ev_inS {w z : Str} : Ev (inD false (.str w) (.str z)) S E Q = Q (.bl (strIn w z)) S := rfl
theorem signs_ev {t : Tg} {te : EM} {τ : DSt} {x : Str} {PL : List D → Store → Prop} (hl : x.length ≤ 8) (h : ∀ c : Nat, ∃ τ1, t.bind (.str ⟨#[c]⟩) τ = some τ1 ∧ ∀ (Q : D → Store → Prop), Q (.bl (isL c)) S → Ev (te τ1) S (fun _ _ _ => False) Q)
    (q : PL ((x.cps.toList.map isL).map D.bl) S) : Ev (noErr (compL t tYesD te τ (chS x) [])) S E PL := by
  have e : (chS x).map (fun d => D.bl (match d with
    | .str y => isL (y.cps.getD 0 0)
    | _ => false)) = (x.cps.toList.map isL).map D.bl := by
    unfold chS
    rw [List.map_map, List.map_map]
    rfl
  refine ev_compF (fun d => D.bl (match d with
    | .str y => isL (y.cps.getD 0 0)
    | _ => false)) ?_ (fun d hd => ?_) (by rw [e]; exact q)
  · unfold chS
    rw [List.length_map, ← str_ln]
    exact Nat.le_trans hl (by rw [sizeLine_eq]; decide)
  · obtain ⟨c, _, rfl⟩ := List.mem_map.mp hd
    exact h c
theorem all_id {l : List Nat} : (l.map isL).all id = l.all isL := by
  rw [List.all_map]; rfl
theorem is_name_ev (h : Sd d) (q : Q (.bl (isN d)) S) : Ev (m_is_name [d]) S E Q := by
  unfold m_is_name
  rw [ev_fn]
  unfold b_is_name
  cases h with
  | str x =>
    simp [startD, dr, tyNm, wipeD]
    rw [isN_str] at q
    by_cases h1 : 1 ≤ x.length
    · by_cases h2 : x.length ≤ 8
      · rw [decide_eq_true ⟨h1, h2⟩, Bool.true_and] at q
        rw [if_pos (by omega), if_pos (by omega)]
        refine signs_ev h2 (fun c => ⟨_, bind_nm, fun Q q => ?_⟩) ?_
        · simp
          rw [ev_inS, abc_iff]
          exact q
        · rw [ev_all, all_id]
          exact q
      · rw [decide_eq_false (fun z => h2 z.2), Bool.false_and] at q
        rw [if_pos (by omega), if_neg (by omega)]
        exact q
    · rw [decide_eq_false (fun z => h1 z.1), Bool.false_and] at q
      rw [if_neg (by omega)]
      exact q
  | _ => simpa [startD, dr, tyNm, isN] using q
def many (xs : List D) : Nat := match keysOf xs with
  | some ks => (NDS.dedK ks).length
  | none => 0
def areN : D → Bool
  | .tup xs => decide (xs.length ≤ 10) && (xs.all isN && ((many xs : Int) == (xs.length : Int)))
  | _ => false
theorem areN_tup (xs : List D) : areN (.tup xs) = (decide (xs.length ≤ 10) && (xs.all isN && ((many xs : Int) == (xs.length : Int)))) := rfl
theorem keys_of : ∀ {xs : List D}, xs.all isN = true → ∃ ks, keysOf xs = some ks ∧ ks.length = xs.length
  | [], _ => ⟨[], rfl, rfl⟩
  | x :: xs, h => by
    rw [List.all_cons, Bool.and_eq_true] at h
    obtain ⟨ks, e, l⟩ := keys_of h.2
    cases x with
    | str z => exact ⟨.inr z :: ks, by simp only [keysOf, ND.keyOf, e], by simp [l]⟩
    | _ => exact absurd h.1 (by simp [isN])
theorem items_ev {t : Tg} {te : EM} {τ : DSt} {xs : List D} {PL : List D → Store → Prop} (hl : xs.length ≤ 10) (h : ∀ x ∈ xs, ∃ τ1, t.bind x τ = some τ1 ∧ ∀ (Q : D → Store → Prop), Q (.bl (isN x)) S → Ev (te τ1) S (fun _ _ _ => False) Q)
    (q : PL ((xs.map isN).map D.bl) S) : Ev (noErr (compL t tYesD te τ xs [])) S E PL := by
  refine ev_compF (fun d => D.bl (isN d)) (Nat.le_trans hl (by rw [sizeLine_eq]; decide)) h ?_
  rw [List.map_map] at q
  exact q
theorem all_idN {l : List D} : (l.map isN).all id = l.all isN := by
  rw [List.all_map]; rfl
theorem are_names_ev (h : Sd d) (q : Q (.bl (areN d)) S) : Ev (m_are_names [d]) S E Q := by
  unfold m_are_names
  rw [ev_fn]
  unfold b_are_names
  cases h with
  | tup hx hl =>
    rename_i xs
    simp [startD, dr, tyNm, wipeD]
    rw [areN_tup] at q
    by_cases h1 : xs.length ≤ 10
    · rw [decide_eq_true h1, Bool.true_and] at q
      rw [if_neg (by omega)]
      refine items_ev h1 (fun x hm => ⟨_, bind_nm, fun Q q => ?_⟩) ?_
      · simp
        exact is_name_ev (hx x hm) q
      · rw [ev_all, all_idN]
        cases h2 : xs.all isN with
        | false => rw [h2] at q; simpa using q
        | true =>
          rw [h2, Bool.true_and] at q
          obtain ⟨ks, e, l⟩ := keys_of h2
          simp
          rw [ev_setT e (by omega), ev_lenSet (Nat.le_trans (NDS.dedK_len ks) (by omega))]
          unfold many at q
          rw [e] at q
          simpa using q
    · rw [decide_eq_false h1, Bool.false_and] at q
      rw [if_pos (by omega)]
      exact q
  | _ => simpa [startD, dr, tyNm, areN] using q
theorem bits_le {m : Int} {k : Nat} (h0 : 0 ≤ m) (h1 : m < 2 ^ k) : (Builtin.Int.intBits m : Int) ≤ k := by
  unfold Builtin.Int.intBits
  by_cases h : m = 0
  · subst h; simp
  · rw [if_neg (by simpa using h)]
    have hn : m.natAbs ≠ 0 := by omega
    have e : (2 : Int) ^ k = ((2 ^ k : Nat) : Int) := by simp
    have : m.natAbs.log2 < k := (Nat.log2_lt hn).mpr (by rw [e] at h1; omega)
    omega
theorem isN_is {x : D} (h : isN x = true) : ∃ z, x = .str z := by
  cases x with
  | str z => exact ⟨z, rfl⟩
  | _ => exact absurd h (by simp [isN])
theorem sh_ok {m : Int} {i : Nat} (hi : i ≤ 10) (m0 : 0 ≤ m) (m1 : m < 2 ^ (2 ^ i)) : shlC m (2 ^ i) = true := by
  have p1 : (2 : Nat) ^ i ≤ 1024 := Nat.le_trans (Nat.pow_le_pow_right (by decide) hi) (by decide)
  have pc : ((2 : Int) ^ i) = ((2 ^ i : Nat) : Int) := by simp
  have b := bits_le m0 m1
  have e : (2 : Int) ^ 27 = 134217728 := by decide
  unfold shlC
  refine okP_iff.mpr ⟨by rw [pc]; exact Int.natCast_nonneg _, ?_⟩
  rw [pc, e]
  generalize (2 ^ i : Nat) = z at p1 b
  omega
theorem mask_lt {m : Int} {i : Nat} (m0 : 0 ≤ m) (m1 : m < 2 ^ (2 ^ i)) : 0 ≤ m + m * 2 ^ (2 ^ i) ∧ m + m * 2 ^ (2 ^ i) < 2 ^ (2 ^ (i + 1)) := by
  rw [Nat.pow_succ, Nat.mul_comm, Nat.two_mul, Int.pow_add]
  have hp : (0 : Int) < 2 ^ 2 ^ i := Int.pow_pos (by decide)
  generalize (2 : Int) ^ 2 ^ i = z at *
  have h3 : (m + 1) * z ≤ z * z := Int.mul_le_mul_of_nonneg_right m1 (Int.le_of_lt hp)
  rw [Int.add_mul, Int.one_mul] at h3
  have h4 := Int.mul_nonneg m0 (Int.le_of_lt hp)
  omega
theorem areN_is (h : areN d = true) : ∃ xs, d = .tup xs ∧ xs.all isN = true ∧ xs.length ≤ 10 := by
  cases d with
  | tup xs =>
    rw [areN_tup, Bool.and_eq_true, Bool.and_eq_true] at h
    exact ⟨xs, rfl, h.2.1, of_decide_eq_true h.1⟩
  | _ => exact absurd h (by simp [areN])
theorem truth_ev {a b : Bool} (q : Q (.bl (a == b)) S) : Ev (m_law_truth [.bl a, .bl b]) S E Q := by
  unfold m_law_truth
  rw [ev_fn]
  unfold b_law_truth
  simp [startD, tyNm, dr]
  exact q
theorem sdl0 : Sd (.lst []) := .lst (by simp) (by decide)
theorem sdt0 : Sd (.tup []) := .tup (by simp) (by decide)
theorem sdl1 {x : D} (h : Sd x) : Sd (.lst [x]) := .lst (by simpa using h) (by simp)
theorem sdt1 {x : D} (h : Sd x) : Sd (.tup [x]) := .tup (by simpa using h) (by simp)
theorem sdt2 {x y : D} (h : Sd x) (h' : Sd y) : Sd (.tup [x, y]) := .tup (by simp [h, h']) (by simp)
theorem any_ev {n : Nat} (h : Bag S n) (q : ∀ d S', Sd d → Bag S' n → Onl n S S' → Q d S') : Ev (m_law_any [.cel n]) S E Q := by
  unfold m_law_any
  rw [ev_fn]
  unfold b_law_any
  have z : 100 < sizeLine := by rw [sizeLine_eq]; decide
  simp [startD]
  refine ⟨by omega, by omega, by omega, by omega, by omega, by omega, by omega, takeB h (by decide) (by decide) fun r S2 b2 o2 r0 r1 => ?_⟩
  rw [ev_ixL]
  obtain ⟨d, hd, hm⟩ := atI_ex (xs := [D.non, D.bl true, D.bl false, D.int 0, D.int 1, D.int (-1), D.int 100000000000000000000000000000000000000000000000000000000000, D.str (Str.ofString ""),
      D.str (Str.ofString "A"), D.str (Str.ofString "a b"), D.str (Str.ofString "ninelongs"), D.str (Str.ofString "a1"), D.lst [], D.lst [D.str (Str.ofString "a")], D.tup [D.int 1],
      D.tup [D.non], D.tup [D.tup []], D.str (Str.ofString "a-"), D.tup [D.str (Str.ofString "a"), D.int 1], D.lst [D.tup [D.str (Str.ofString "a"), D.bl true]], D.tup [D.bl true, D.int 0]]) r0 (by show r < 21; omega)
  refine ⟨d, hd, q d S2 ?_ b2 o2⟩
  simp only [List.mem_cons, List.not_mem_nil, or_false] at hm
  rcases hm with rfl | rfl | rfl | rfl | rfl | rfl | rfl | rfl | rfl | rfl | rfl | rfl | rfl | rfl | rfl | rfl | rfl | rfl | rfl | rfl | rfl <;>
    first | exact .non | exact .bl _ | exact .int _ | exact .str _ | exact sdl0 | exact sdl1 (.str _) | exact sdt1 (.int _) | exact sdt1 .non | exact sdt1 sdt0 | exact sdt2 (.str _) (.int _) | exact sdl1 (sdt2 (.str _) (.bl _)) | exact sdt2 (.bl _) (.int _)
end
end NA
set_option maxHeartbeats 4000000
namespace ND
open PySem L2
section
variable {S : Store} {E : XP} {Q : D → Store → Prop} {τ : DSt} {PB : Bool → Store → Prop}
@[simp] theorem ev_tru (m : EM) : Ev (mTru m τ) S E PB = Ev (m τ) S E fun x S1 => Ev (truD x) S1 E PB := by unfold mTru; rw [ev_bind]
@[simp] theorem ev_truBl {b : Bool} : Ev (truD (.bl b)) S E PB = PB b S := rfl
@[simp] theorem ev_truInt {i : Int} : Ev (truD (.int i)) S E PB = PB (i != 0) S := rfl
theorem ev_inDct {neg : Bool} {x : Str} {kvs : List (Key × D)} : Ev (inD neg (.str x) (.dct kvs)) S E Q = Q (.bl (if neg then !(valD kvs (.inr x)).isSome else (valD kvs (.inr x)).isSome)) S := by rfl
theorem ev_ixDct {x : Str} {kvs : List (Key × D)} : Ev (ixD (.dct kvs) (.str x)) S E Q = ∃ d, valD kvs (.inr x) = some d ∧ Q d S := by
  have e : ixD (.dct kvs) (.str x) S = (match valD kvs (.inr x) with
    | some d => .ok d S
    | none => .bad) := rfl
  unfold Ev
  rw [e]
  cases valD kvs (.inr x) <;> simp
@[simp] theorem ev_revT {xs : List D} : Ev (revTD (.tup xs)) S E Q = Q (.tup xs.reverse) S := rfl
@[simp] theorem ev_inv {i : Int} : Ev (invD (.int i)) S E Q = Q (.int (Builtin.bitNot i)) S := rfl
@[simp] theorem ev_intB {b : Bool} : Ev (intCD [.bl b]) S E Q = Q (.int (if b then 1 else 0)) S := rfl
@[simp] theorem ev_compC {it : IM} {vs : List Nat} {t : Tg} {tt : TM} {te : EM} : Ev (mCompC it vs t tt te τ) S E Q = Ev (it τ) S E fun xs S1 => Ev (noErr (compL t tt te (wipeD τ vs) xs [])) S1 E fun ys S2 => Q (.cel S2.length) (S2 ++ [.lst ys]) := by
  unfold mCompC; simp only [ev_bind, ev_newCell]
theorem ev_fldC {C f : Str} {n : Nat} {fs : List (Str × D)} {d : D} (h : S[n]? = some (.ins C fs)) (hf : fs.lookup f = some d) : Ev (fldD [C] f (.cel n)) S E Q = Q d S := by
  have e : fldD [C] f (.cel n) S = .ok d S := by
    unfold fldD
    simp only [dr, h, hf]
    simp
  unfold Ev
  rw [e]
theorem ev_methC {C m : Str} {k n : Nat} {f : List D → M D} {o : EM} {ms : AM} : Ev (mMethI C m k f o ms τ) S E Q = Ev (o τ) S E fun x S1 => Ev (isObj C m x) S1 E fun _ S2 => Ev (ms τ) S2 E fun ds S3 => Ev (methD C m k f x ds) S3 E Q := by
  unfold mMethI; simp only [ev_bind]
theorem ev_isObj {C m : Str} {n : Nat} {fs : List (Str × D)} {PU : Unit → Store → Prop} (h : S[n]? = some (.ins C fs)) (hf : fs.lookup m = none) : Ev (isObj C m (.cel n)) S E PU = PU () S := by
  have e : isObj C m (.cel n) S = .ok () S := by
    unfold isObj
    simp only [dr, h, hf]
    simp
  unfold Ev
  rw [e]
@[simp] theorem ev_methD {C m : Str} {k : Nat} {f : List D → M D} {x : D} {ds : List D} : Ev (methD C m k f x ds) S E Q = (ds.length + 1 = k ∧ Ev (f (x :: ds)) S E Q) := by
  unfold Ev methD
  by_cases h : ds.length + 1 = k
  · rw [if_pos h]; simp [h]
  · rw [if_neg h]; simp [h]
theorem ev_ownD {C : Str} {f : List D → M D} {n : Nat} {ds : List D} {fs : List (Str × D)} (h : S[n]? = some (.ins C fs)) : Ev (ownD C f (.cel n) ds) S E Q = Ev (noErr (f (.cel n :: ds))) S E Q := by
  have e : ownD C f (.cel n) ds S = noErr (f (.cel n :: ds)) S := by
    unfold ownD
    simp only [dr, h]
    simp
  unfold Ev
  rw [e]
@[simp] theorem ev_lenOf {i : Int} : Ev (lenOf (.int i)) S E Q = ((0 ≤ i ∧ i < 2 ^ 63) ∧ Q (.int i) S) := by unfold lenOf; simp
theorem ev_lenO {C : Str} {f : List D → M D} {n : Nat} {fs : List (Str × D)} (h : S[n]? = some (.ins C fs)) : Ev (lenOD C f [.cel n]) S E Q = Ev (noErr (f [.cel n])) S E fun d S1 => Ev (lenOf d) S1 E Q := by
  show Ev (ownD C f (.cel n) [] >>= lenOf) S E Q = _
  rw [ev_bind, ev_ownD h]
theorem ev_truO {C : Str} {f : List D → M D} {n : Nat} {fs : List (Str × D)} (h : S[n]? = some (.ins C fs)) : Ev (truOD C f (.cel n)) S E PB = Ev (noErr (f [.cel n])) S E fun d S1 => Ev (truOf d) S1 E PB := by
  unfold truOD
  rw [ev_bind, ev_ownD h]
@[simp] theorem ev_truOf {i : Int} : Ev (truOf (.int i)) S E PB = ((0 ≤ i ∧ i < 2 ^ 63) ∧ PB (i != 0) S) := by
  unfold truOf
  rw [ev_bind, ev_lenOf]
  simp
@[simp] theorem ev_boolO {C : Str} {f : List D → M D} {x : D} : Ev (boolOD C f [x]) S E Q = Ev (truOD C f x) S E fun b S1 => Q (.bl b) S1 := by
  unfold boolOD
  rw [ev_bind]
  simp
theorem ev_sortSet {ns : List Int} (h : ns.length < 63) : Ev (sortSetD (.lst (ns.map D.int))) S E Q = Q (.lst ((sortU ns).map D.int)) S := by
  have hi : ∀ l : List Int, intsOf (l.map D.int) = some l := by
    intro l
    induction l with
    | nil => rfl
    | cons i l ih => rw [List.map_cons, intsOf, ih]; rfl
  have e : sortSetD (.lst (ns.map D.int)) S = .ok (.lst ((sortU ns).map D.int)) S := by
    unfold sortSetD
    simp only [dr, hi]
    rw [if_pos h]
  unfold Ev
  rw [e]
@[simp] theorem ev_mSortSet {m : EM} : Ev (mSortSet m τ) S E Q = Ev (m τ) S E fun x S1 => Ev (sortSetD x) S1 E Q := by unfold mSortSet; rw [ev_bind]
@[simp] theorem ev_mZip {ms : AM} {PL : List D → Store → Prop} : Ev (mZip ms τ) S E PL = Ev (ms τ) S E fun x S1 => Ev (zipD x) S1 E PL := by unfold mZip; rw [ev_bind]
@[simp] theorem ev_zipT {xs ys : List D} {PL : List D → Store → Prop} : Ev (zipD [.tup xs, .tup ys]) S E PL = PL (List.zipWith pairD xs ys) S := rfl
@[simp] theorem bind_tpo {ts : List Tg} {ds : List D} : Tg.bind (.tp ts) (.tpo ds) τ = Tg.binds ts ds τ := by rw [Tg.bind]
theorem ev_dictT {x : D} {kvs : List (Key × D)} (h : dictOf S x = some kvs) : Ev (dictAD [x]) S E Q = Q (.dct kvs) S := by
  have e : dictAD [x] S = .ok (.dct kvs) S := by unfold dictAD; simp only [h]
  unfold Ev
  rw [e]
end
end ND
namespace NA
open PySem L2 ND NM
abbrev pairT (p : Str × Bool) : D := .tup [.str p.1, .bl p.2]
abbrev pairsT (ps : List (Str × Bool)) : D := .tup (ps.map pairT)
abbrev kvP (p : Str × Bool) : Key × D := (.inr p.1, .bl p.2)
theorem pairsD_of : ∀ ps : List (Str × Bool), pairsD (ps.map pairT) = some (ps.map kvP)
  | [] => rfl
  | p :: ps => by
    show (match keyOf (D.str p.1), pairsD (ps.map pairT) with
      | some k, some r => some ((k, D.bl p.2) :: r)
      | _, _ => none) = _
    rw [pairsD_of ps]; rfl
theorem merge_of : ∀ (ps : List (Str × Bool)) (acc : List (Key × D)), (ps.map (·.1)).Nodup → (∀ kv ∈ acc, ∀ p ∈ ps, kv.1 ≠ .inr p.1) → mergeD acc (ps.map kvP) = acc ++ ps.map kvP
  | [], acc, _, _ => by simp [mergeD]
  | p :: ps, acc, nd, no => by
    have e : mergeD acc ((p :: ps).map kvP) = mergeD (putD acc (.inr p.1) (.bl p.2)) (ps.map kvP) := rfl
    have pe : putD acc (.inr p.1) (.bl p.2) = acc ++ [kvP p] := by
      unfold putD
      rw [if_neg]
      simp only [Bool.not_eq_true, List.any_eq_false, decide_eq_true_eq]
      intro kv hkv
      exact no kv hkv p List.mem_cons_self
    obtain ⟨n1, n2⟩ := List.nodup_cons.mp nd
    rw [e, pe, merge_of ps _ n2]
    · simp
    · intro kv hkv q hq
      rcases List.mem_append.mp hkv with h | h
      · exact no kv h q (List.mem_cons_of_mem _ hq)
      · rw [List.mem_singleton.mp h]
        intro z
        have z' : p.1 = q.1 := by injection z
        exact n1 (show p.1 ∈ _ by rw [z']; exact List.mem_map_of_mem hq)
theorem dict_pairs {S : Store} {ps : List (Str × Bool)} (nd : (ps.map (·.1)).Nodup) : dictOf S (pairsT ps) = some (ps.map kvP) := by
  show (pairsD (ps.map pairT)).map (mergeD []) = _
  rw [pairsD_of, Option.map_some, merge_of ps [] nd (by simp), List.nil_append]
theorem dict_pairsL {S : Store} {ps : List (Str × Bool)} (nd : (ps.map (·.1)).Nodup) : dictOf S (.lst (ps.map pairT)) = some (ps.map kvP) := by
  show (pairsD (ps.map pairT)).map (mergeD []) = _
  rw [pairsD_of, Option.map_some, merge_of ps [] nd (by simp), List.nil_append]
theorem val_pairs (x : Str) : ∀ ps : List (Str × Bool), valD (ps.map kvP) (.inr x) = (ps.lookup x).map D.bl
  | [] => rfl
  | p :: ps => by
    have ih := val_pairs x ps
    unfold valD at ih ⊢
    rw [List.map_cons, List.find?_cons, List.lookup_cons]
    by_cases h : p.1 = x
    · have e1 : decide ((kvP p).1 = Sum.inr x) = true := decide_eq_true (show (Sum.inr p.1 : Key) = Sum.inr x by rw [h])
      have e2 : (x == p.1) = true := beq_iff_eq.mpr h.symm
      rw [e1, e2]; rfl
    · have e1 : decide ((kvP p).1 = Sum.inr x) = false := decide_eq_false (fun z => h (by injection z))
      have e2 : (x == p.1) = false := beq_eq_false_iff_ne.mpr (Ne.symm h)
      rw [e1, e2]; exact ih
end NA
set_option maxHeartbeats 4000000
namespace NA
open PySem L2 ND NM PySem.W
theorem bitOr_nat (a b : Nat) : Builtin.bitOr (a : Int) (b : Int) = ((a ||| b : Nat) : Int) := by
  rw [PyProof.Rows.bitOr_and, os_band]
  have := PyProof.Rows.nat_or_add_and a b
  omega
theorem bitAnd_less (a b : Nat) : Builtin.bitAnd (a : Int) (Builtin.bitNot (b : Int)) = ((a - (a &&& b) : Nat) : Int) := by
  rw [PyProof.Rows.bitAnd_not, os_band]
  have : a &&& b ≤ a := Nat.and_le_left
  omega
theorem shr_nat (a k : Nat) : (a : Int) / 2 ^ k = ((a >>> k : Nat) : Int) := by
  rw [Nat.shiftRight_eq_div_pow]
  simp
theorem shl_nat (a k : Nat) : (a : Int) * 2 ^ k = ((a <<< k : Nat) : Int) := by
  rw [Nat.shiftLeft_eq]
  simp
theorem bit1 (a k : Nat) : Builtin.bitAnd ((a >>> k : Nat) : Int) 1 = (((a.testBit k).toNat : Nat) : Int) := by
  have : Builtin.bitAnd ((a >>> k : Nat) : Int) ((1 : Nat) : Int) = ((a >>> k &&& 1 : Nat) : Int) := os_band _ _
  rw [show (1 : Int) = ((1 : Nat) : Int) from rfl, this, Nat.testBit, Nat.and_comm]
  congr 1
  rcases Nat.mod_two_eq_zero_or_one (a >>> k) with h | h
  · simp [h]
  · simp [h]
def MkW (w : Want) (i : Nat) (sz m : Int) : Prop := i ≤ w.length ∧ sz = ((2 ^ i : Nat) : Int) ∧ m = ((maskN (w.drop (w.length - i)) : Nat) : Int)
theorem MkW.start (w : Want) : MkW w 0 1 1 := ⟨Nat.zero_le _, rfl, by simp [maskN]⟩
theorem MkW.shl {w : Want} {i : Nat} {sz m : Int} (h : MkW w i sz m) (hi : i ≤ 10) : shlC m sz = true := by
  obtain ⟨h1, rfl, rfl⟩ := h
  have lt := NM.mask_lt (w.drop (w.length - i))
  have len : (w.drop (w.length - i)).length = i := by rw [List.length_drop]; omega
  rw [len] at lt
  have := sh_ok (m := ((maskN (w.drop (w.length - i)) : Nat) : Int)) hi (Int.natCast_nonneg _) (by
    have : ((maskN (w.drop (w.length - i)) : Nat) : Int) < (((2 ^ 2 ^ i : Nat)) : Int) := Int.ofNat_lt.mpr lt
    simpa using this)
  simpa using this
theorem MkW.cut {w : Want} {i : Nat} (hi : i < w.length) : ∃ o, w[w.length - 1 - i]? = some o ∧ w.drop (w.length - (i + 1)) = o :: w.drop (w.length - i) ∧ (w.drop (w.length - i)).length = i := by
  have lt : w.length - 1 - i < w.length := by omega
  refine ⟨w[w.length - 1 - i], List.getElem?_eq_getElem lt, ?_, by rw [List.length_drop]; omega⟩
  rw [show w.length - (i + 1) = w.length - 1 - i by omega, List.drop_eq_getElem_cons lt, show w.length - 1 - i + 1 = w.length - i by omega]
def nextM : Option Bool → Int → Int → Int
  | none, m, sz => Builtin.bitOr m (m * 2 ^ sz.toNat)
  | some true, m, sz => m * 2 ^ sz.toNat
  | some false, m, _ => m
theorem MkW.step {w : Want} {i : Nat} {sz m : Int} {o : Option Bool} (h : MkW w i sz m) (hi : i < w.length) (ho : w[w.length - 1 - i]? = some o) :
    MkW w (i + 1) (sz * 2) (nextM o m sz) := by
  obtain ⟨h1, rfl, rfl⟩ := h
  obtain ⟨o', e1, e2, e3⟩ := MkW.cut hi
  cases e1.symm.trans ho
  refine ⟨hi, by rw [Nat.pow_succ]; simp, ?_⟩
  rw [e2]
  have hs := shl_nat (maskN (w.drop (w.length - i))) (2 ^ i)
  cases o with
  | none =>
    show Builtin.bitOr _ (_ * 2 ^ (((2 ^ i : Nat) : Int)).toNat) = ((maskN (none :: w.drop (w.length - i)) : Nat) : Int)
    rw [Int.toNat_natCast, hs, bitOr_nat, maskN, e3]
  | some b =>
    cases b with
    | true =>
      show _ * 2 ^ (((2 ^ i : Nat) : Int)).toNat = ((maskN (some true :: w.drop (w.length - i)) : Nat) : Int)
      rw [Int.toNat_natCast, hs, maskN, e3]
    | false => rfl
section
variable {S : Store} {E : XP} {Q : D → Store → Prop}
def wants (ns : List Str) (ps : List (Str × Bool)) : Want := ns.map fun x => ps.lookup x
theorem mask_ev {ns : List Str} {ps : List (Str × Bool)} (hl : ns.length ≤ 10) (nd : (ps.map (·.1)).Nodup) (q : Q (.int ((maskN (wants ns ps) : Nat) : Int)) S) : Ev (m_mask_of [.tup (ns.map D.str), pairsT ps]) S E Q := by
  unfold m_mask_of
  rw [ev_fn]
  unfold b_mask_of
  have wl : (wants ns ps).length = ns.length := by simp [wants]
  generalize hp : pairsT ps = P
  simp [startD, ev_dictT (hp ▸ dict_pairs nd)]
  refine evr_loop (fun i τ S' => S' = S ∧ ∃ v5 m sz, τ = [some (.tup (ns.map D.str)), some P, some (.dct (ps.map kvP)), some (.int m), some (.int sz), v5] ∧ MkW (wants ns ps) i sz m) (k := 0) ⟨rfl, none, 1, 1, rfl, MkW.start _⟩ (fun i x τ S' hx hi => ?_) (fun τ S' hi => ?_)
  · obtain ⟨rfl, v5, m, sz, rfl, mk⟩ := hi
    rw [Nat.zero_add] at mk ⊢
    refine ⟨_, bind_nm, ?_⟩
    have hlt := (List.getElem?_eq_some_iff.mp hx).1
    rw [List.length_reverse, List.length_map] at hlt
    rw [List.getElem?_reverse (by rw [List.length_map]; exact hlt), List.getElem?_map, List.length_map] at hx
    obtain ⟨z, hz, rfl⟩ : ∃ z, ns[ns.length - 1 - i]? = some z ∧ D.str z = x := by
      cases e : ns[ns.length - 1 - i]? with
      | none => rw [e] at hx; cases hx
      | some z => rw [e] at hx; cases hx; exact ⟨z, rfl, rfl⟩
    have ho : (wants ns ps)[(wants ns ps).length - 1 - i]? = some (ps.lookup z) := by rw [wl, wants, List.getElem?_map, hz]; rfl
    have sh := mk.shl (by omega)
    have mu : mulC sz 2 = true := by unfold mulC; simp
    have st := mk.step (by rw [wl]; exact hlt) ho
    simp [ev_inDct, ev_ixDct, val_pairs]
    cases hk : ps.lookup z with
    | none =>
      rw [hk] at st
      simp [sh, mu]
      exact ⟨_, _, _, ⟨rfl, rfl, rfl⟩, st⟩
    | some b =>
      rw [hk] at st
      cases b with
      | true =>
        simp [sh, mu]
        exact ⟨_, _, _, ⟨rfl, rfl, rfl⟩, st⟩
      | false =>
        simp [sh, mu]
        exact ⟨_, _, _, ⟨rfl, rfl, rfl⟩, st⟩
  · obtain ⟨rfl, v5, m, sz, rfl, mk⟩ := hi
    simp
    obtain ⟨_, _, em⟩ := mk
    rw [em]
    simpa [wl] using q
abbrev fillT (f : List Bool) : D := .tup (f.map D.bl)
theorem fillAt_eq (n k : Nat) : fillAt n k = (List.range n).map fun i => k.testBit (n - 1 - i) := by
  induction n with
  | zero => rfl
  | succ n ih =>
    rw [fillAt, ih, List.range_succ_eq_map, List.map_cons, List.map_map]
    congr 1
    apply List.map_congr_left
    intro i hi
    have := List.mem_range.mp hi
    show k.testBit (n - 1 - i) = k.testBit (n + 1 - 1 - (i + 1))
    congr 1
    omega
theorem filling_at_ev {ns : List Str} {k : Nat} (hl : ns.length ≤ 10) (q : Q (fillT (fillAt ns.length k)) S) : Ev (m_filling_at [.tup (ns.map D.str), .int (k : Int)]) S E Q := by
  unfold m_filling_at
  rw [ev_fn]
  unfold b_filling_at
  simp [startD, wipeD]
  refine ⟨by omega, ?_⟩
  have z : 100 < sizeLine := by rw [sizeLine_eq]; decide
  refine ev_compF (fun d => D.bl (match d with
    | .int i => k.testBit (ns.length - 1 - i.toNat)
    | _ => false)) (by simp; omega) (fun d hd => ?_) ?_
  · obtain ⟨i, hi, rfl⟩ := List.mem_map.mp hd
    have hi := List.mem_range.mp hi
    refine ⟨_, bind_nm, fun Q q => ?_⟩
    have q' : Q (D.bl (k.testBit (ns.length - 1 - i))) S := by
      have e : (0 + (i : Int)).toNat = i := by omega
      have q2 : Q (D.bl (k.testBit (ns.length - 1 - (0 + (i : Int)).toNat))) S := q
      rwa [e] at q2
    simp
    refine ⟨by omega, ?_⟩
    rw [shr_nat, bit1]
    cases h : k.testBit (ns.length - 1 - i) <;> simpa [h] using q'
  ·
    have e : (intsD 0 ns.length).map (fun d => D.bl (match d with
      | .int i => k.testBit (ns.length - 1 - i.toNat)
      | _ => false)) = (fillAt ns.length k).map D.bl := by
      rw [fillAt_eq]
      unfold intsD
      rw [List.map_map, List.map_map]
      apply List.map_congr_left
      intro i _
      show D.bl (k.testBit (ns.length - 1 - (0 + (i : Int)).toNat)) = D.bl (k.testBit (ns.length - 1 - i))
      rw [show (0 + (i : Int)).toNat = i by omega]
    rw [e]
    exact q
theorem place_of_ev {f : List Bool} (hl : f.length ≤ 20) (q : Q (.int ((placeOf f : Nat) : Int)) S) : Ev (m_place_of [fillT f]) S E Q := by
  unfold m_place_of
  rw [ev_fn]
  unfold b_place_of
  simp [startD]
  refine evr_loop (fun i τ S' => S' = S ∧ ∃ v2, τ = [some (fillT f), some (.int ((placeOf (f.take i) : Nat) : Int)), v2]) (k := 0) ⟨rfl, none, rfl⟩ (fun i x τ S' hx hi => ?_) (fun τ S' hi => ?_)
  · obtain ⟨rfl, v2, rfl⟩ := hi
    refine ⟨_, bind_nm, ?_⟩
    rw [List.getElem?_map] at hx
    obtain ⟨b, hb, rfl⟩ : ∃ b, f[i]? = some b ∧ D.bl b = x := by
      cases e : f[i]? with
      | none => rw [e] at hx; cases hx
      | some z => rw [e] at hx; cases hx; exact ⟨z, rfl, rfl⟩
    have mu : mulC 2 ((placeOf (f.take (0 + i)) : Nat) : Int) = true := by unfold mulC; simp
    have e : f.take (0 + i + 1) = f.take (0 + i) ++ [b] := by rw [Nat.zero_add, List.take_add_one, hb]; rfl
    simp at mu
    rw [e, place_snoc]
    simp [mu]
    cases b <;> simp
  · obtain ⟨rfl, v2, rfl⟩ := hi
    simp
    simpa using q
end
end NA
set_option maxHeartbeats 4000000
namespace ND
open PySem L2
theorem ev_compG {t : Tg} {tt : TM} {te : EM} {τ : DSt} {S : Store} {E : XP} {PL : List D → Store → Prop} {xs : List D} (p : D → Bool) (f : D → D) (hl : xs.length ≤ sizeLine)
    (h : ∀ x ∈ xs, ∃ τ1, t.bind x τ = some τ1 ∧ (∀ PB : Bool → Store → Prop, PB (p x) S → Ev (tt τ1) S (fun _ _ _ => False) PB) ∧ (p x = true → ∀ Q : D → Store → Prop, Q (f x) S → Ev (te τ1) S (fun _ _ _ => False) Q)) (q : PL ((xs.filter p).map f) S) :
    Ev (noErr (compL t tt te τ xs [])) S E PL := by
  refine ev_noErr (ev_compL (fun k acc S' => acc = ((xs.take k).filter p).map f ∧ S' = S) (k := 0) ⟨rfl, rfl⟩ (fun i x acc S' hx hi => ?_) (fun acc S' hi => ?_))
  · obtain ⟨rfl, rfl⟩ := hi
    obtain ⟨τ1, e, h1, h2⟩ := h x (List.mem_of_getElem? hx)
    have hlt := (List.getElem?_eq_some_iff.mp hx).1
    have tk : xs.take (0 + i + 1) = xs.take (0 + i) ++ [x] := by rw [Nat.zero_add, List.take_add_one, hx]; rfl
    refine ⟨τ1, e, h1 _ ?_⟩
    cases hp : p x with
    | true =>
      rw [if_pos rfl]
      refine h2 hp _ ⟨?_, ?_, rfl⟩
      · rw [List.length_map]
        have a := List.length_filter_le p (xs.take (0 + i))
        rw [List.length_take] at a
        omega
      · rw [tk, List.filter_append, List.map_append]
        simp [hp]
    | false =>
      rw [if_neg Bool.false_ne_true]
      refine ⟨?_, rfl⟩
      rw [tk, List.filter_append, List.map_append]
      simp [hp]
  · obtain ⟨rfl, rfl⟩ := hi
    rw [Nat.zero_add, List.take_length]
    exact q
end ND
namespace NA
open PySem L2 ND NM
section
variable {S : Store} {E : XP} {Q : D → Store → Prop}
theorem ev_rngN {n : Nat} {PL : List D → Store → Prop} (h : n ≤ 100000) : Ev (rng1D [.int (n : Int)]) S E PL = PL (intsD 0 n) S := by
  rw [ev_rng1D, Int.toNat_natCast]
  exact propext ⟨fun h => h.2, fun q => ⟨⟨by omega, by omega⟩, q⟩⟩
theorem lett_isN {x : Str} (h : Lett x ∧ 1 ≤ x.length ∧ x.length ≤ 8) : isN (.str x) = true := by
  rw [isN_str, Bool.and_eq_true, decide_eq_true_iff, List.all_eq_true]
  exact ⟨h.2, fun c hc => decide_eq_true (h.1 c hc)⟩
theorem keys_names : ∀ ns : List Str, keysOf (ns.map D.str) = some (ns.map Sum.inr)
  | [] => rfl
  | x :: ns => by rw [List.map_cons, keysOf, keys_names ns]; rfl
theorem dedK_nodup_eq {K : Type} [DecidableEq K] : ∀ (ks got : List K), (got ++ ks).Nodup → ks.foldl NDS.into got = got ++ ks
  | [], got, _ => by simp
  | k :: ks, got, h => by
    have no : k ∉ got := fun z => by
      have := (List.nodup_append.mp h).2.2 k z k List.mem_cons_self
      exact this rfl
    rw [List.foldl_cons, NDS.into, if_neg no, dedK_nodup_eq ks (got ++ [k]) (by simpa using h)]
    simp
theorem areN_names {ns : List Str} (h : Names ns) (hl : ns.length ≤ 10) : areN (.tup (ns.map D.str)) = true := by
  rw [areN_tup, Bool.and_eq_true, Bool.and_eq_true, List.all_eq_true]
  refine ⟨decide_eq_true (by simpa using hl), fun d hd => ?_, ?_⟩
  · obtain ⟨x, hx, rfl⟩ := List.mem_map.mp hd
    exact lett_isN (h.nm x hx)
  · have nd : (ns.map (Sum.inr : Str → Key)).Nodup := by
      refine List.Pairwise.map _ (fun a b ne e => ne ?_) h.nd
      injection e
    have e : (NDS.dedK (ns.map (Sum.inr : Str → Key))).length = ns.length := by
      unfold NDS.dedK
      rw [dedK_nodup_eq _ [] (by simpa using nd)]
      simp
    unfold many
    rw [keys_names]
    simp [e]
theorem sd_names (ns : List Str) (h : ns.length ≤ 1000) : Sd (.tup (ns.map D.str)) := .tup (fun d hd => by obtain ⟨x, _, rfl⟩ := List.mem_map.mp hd; exact .str x) (by simpa using h)
abbrev lotF (ns : List Str) (m : Nat) : List (Str × D) := [("names", .tup (ns.map D.str)), ("mask", .int (m : Int))]
abbrev lotCell (ns : List Str) (m : Nat) : Cell := .ins "Lot" (lotF ns m)
def IsLot (S : Store) (n : Nat) (ns : List Str) (m : Nat) : Prop := S[n]? = some (lotCell ns m)
theorem IsLot.lt {n m : Nat} {ns : List Str} (h : IsLot S n ns m) : n < S.length := (List.getElem?_eq_some_iff.mp h).1
theorem IsLot.snoc {n m : Nat} {ns : List Str} (h : IsLot S n ns m) (x : Cell) : IsLot (S ++ [x]) n ns m := by
  unfold IsLot; rw [List.getElem?_append_left h.lt]; exact h
theorem IsLot.ext {n m b : Nat} {ns : List Str} {S' : Store} (h : IsLot S n ns m) (e : Ext b S S') (hb : n ≠ b) : IsLot S' n ns m := by
  unfold IsLot; rw [e.2 n h.lt hb]; exact h
theorem IsLot.new (ns : List Str) (m : Nat) : IsLot (S ++ [lotCell ns m]) S.length ns m := by unfold IsLot; simp
theorem IsLot.names {n m : Nat} {ns : List Str} (h : IsLot S n ns m) : Ev (fldD ["Lot"] "names" (.cel n)) S E Q = Q (.tup (ns.map D.str)) S := ev_fldC h rfl
theorem IsLot.mask {n m : Nat} {ns : List Str} (h : IsLot S n ns m) : Ev (fldD ["Lot"] "mask" (.cel n)) S E Q = Q (.int (m : Int)) S := ev_fldC h rfl
def full (ns : List Str) : Nat := maskN (wants ns [])
theorem new_ev {ns : List Str} (h : Names ns) (hl : ns.length ≤ 10) (q : Q (.cel S.length) (S ++ [lotCell ns (full ns)])) : Ev (makeD "Lot" 2 m_Lot____init__ [.tup (ns.map D.str)]) S E Q := by
  rw [ev_make]
  refine ⟨rfl, ?_⟩
  unfold m_Lot____init__
  rw [ev_fn]
  unfold b_Lot____init__
  simp [startD]
  refine are_names_ev (sd_names ns (by omega)) ?_
  rw [areN_names h hl]
  simp
  refine ⟨_, _, ⟨rfl, rfl⟩, ⟨rfl, by simp⟩, mask_ev (ps := []) hl List.nodup_nil ⟨"Lot", putFD "names" (.tup (ns.map D.str)) [], by simp, ⟨rfl, Nat.lt_of_lt_of_le (Nat.lt_succ_self 1) (by decide)⟩, ?_⟩⟩
  have e : putFD "mask" (.int ((maskN (wants ns []) : Nat) : Int)) (putFD "names" (.tup (ns.map D.str)) []) = lotF ns (full ns) := rfl
  rw [e]
  simpa using q
theorem lot_of_ev {ns : List Str} {m : Nat} (h : Names ns) (hl : ns.length ≤ 10) (q : Q (.cel S.length) (S ++ [lotCell ns m])) : Ev (m_lot_of [.tup (ns.map D.str), .int (m : Int)]) S E Q := by
  unfold m_lot_of
  rw [ev_fn]
  unfold b_lot_of
  simp [startD]
  refine new_ev h hl ?_
  simp
  refine ⟨_, _, ⟨rfl, rfl⟩, ⟨rfl, by simp⟩, ?_⟩
  have e : putFD "mask" (.int (m : Int)) (lotF ns (full ns)) = lotF ns m := rfl
  rw [e]
  exact q
theorem barred_ev {ns : List Str} {n m : Nat} {ps : List (Str × Bool)} (h : Names ns) (hl : ns.length ≤ 10) (lt : IsLot S n ns m) (nd : (ps.map (·.1)).Nodup) (q : Q (.cel S.length) (S ++ [lotCell ns (m - (m &&& maskN (wants ns ps)))])) :
    Ev (m_Lot__barred [.cel n, pairsT ps]) S E Q := by
  unfold m_Lot__barred
  rw [ev_fn]
  unfold b_Lot__barred
  generalize hp : pairsT ps = P
  simp [startD, lt.names, lt.mask]
  subst hp
  refine mask_ev hl nd ?_
  rw [ev_inv, ev_andI, bitAnd_less]
  exact lot_of_ev h hl q
theorem fitted_ev {ns : List Str} {n m : Nat} {ps : List (Str × Bool)} (h : Names ns) (hl : ns.length ≤ 10) (lt : IsLot S n ns m) (nd : (ps.map (·.1)).Nodup) (q : Q (.cel S.length) (S ++ [lotCell ns (m &&& maskN (wants ns ps))])) :
    Ev (m_Lot__fitted [.cel n, pairsT ps]) S E Q := by
  unfold m_Lot__fitted
  rw [ev_fn]
  unfold b_Lot__fitted
  generalize hp : pairsT ps = P
  simp [startD, lt.names, lt.mask]
  subst hp
  refine mask_ev hl nd ?_
  rw [ev_andI, PySem.W.os_band]
  exact lot_of_ev h hl q
theorem pow10 {n : Nat} (h : n ≤ 10) : 2 ^ n ≤ 1024 := Nat.le_trans (Nat.pow_le_pow_right (by decide) h) (by decide)
theorem fillings_ev {ns : List Str} {n m : Nat} (hl : ns.length ≤ 10) (lt : IsLot S n ns m) (q : Q (.cel S.length) (S ++ [.lst ((lot ns.length m).map fillT)])) : Ev (m_Lot__fillings [.cel n]) S E Q := by
  unfold m_Lot__fillings
  rw [ev_fn]
  unfold b_Lot__fillings
  have p10 := pow10 hl
  have z : 10000 < sizeLine := by rw [sizeLine_eq]; decide
  have sh : shlC 1 (ns.length : Int) = true := by
    refine okP_iff.mpr ⟨Int.natCast_nonneg _, ?_⟩
    have : Builtin.Int.intBits 1 = 1 := by decide
    rw [this]
    omega
  have e1 : (1 : Int) * 2 ^ ns.length = ((2 ^ ns.length : Nat) : Int) := by simp
  simp [startD, lt.names, wipeD, sh, -ev_rng1D]
  have e2 : (2 : Int) ^ ns.length = ((2 ^ ns.length : Nat) : Int) := by simp
  rw [e2, ev_rngN (by omega)]
  refine ev_compG (fun d => match d with
    | .int i => m.testBit i.toNat
    | _ => false) (fun d => match d with
    | .int i => fillT (fillAt ns.length i.toNat)
    | d => d) (by rw [intsD_len]; omega) (fun d hd => ?_) ?_
  · obtain ⟨i, hi, rfl⟩ := List.mem_map.mp hd
    have hi := List.mem_range.mp hi
    have ei : (0 + (i : Int)) = ((i : Nat) : Int) := by omega
    rw [ei]
    refine ⟨_, bind_nm, fun PB q => ?_, fun hp Q q => ?_⟩
    · simp [lt.mask]
      rw [shr_nat, bit1]
      have q' : PB (m.testBit i) S := q
      cases h : m.testBit i <;> simpa [h] using q'
    · simp [lt.names]
      exact filling_at_ev hl q
  · have e : ((intsD 0 (2 ^ ns.length)).filter (fun d => match d with
      | .int i => m.testBit i.toNat
      | _ => false)).map (fun d => match d with
      | .int i => fillT (fillAt ns.length i.toNat)
      | d => d) = (lot ns.length m).map fillT := by
      unfold intsD lot
      rw [List.filter_map, List.map_map, List.map_map]
      congr 1
      · funext i
        show fillT (fillAt ns.length (0 + (i : Int)).toNat) = fillT (fillAt ns.length i)
        rw [show (0 + (i : Int)).toNat = i by omega]
      · apply List.filter_congr
        intro i _
        show m.testBit (0 + (i : Int)).toNat = m.testBit i
        rw [show (0 + (i : Int)).toNat = i by omega]
    rw [e]
    exact q
theorem len_ev {ns : List Str} {n m : Nat} (hl : ns.length ≤ 10) (lt : IsLot S n ns m) (q : Q (.int ((lot ns.length m).length : Int)) (S ++ [.lst ((lot ns.length m).map fillT)])) : Ev (m_Lot____len__ [.cel n]) S E Q := by
  unfold m_Lot____len__
  rw [ev_fn]
  unfold b_Lot____len__
  simp [startD]
  rw [ev_methC (n := n)]
  simp
  rw [ev_isObj lt rfl]
  refine fillings_ev hl lt ?_
  have e : lenSD [.cel S.length] (S ++ [.lst ((lot ns.length m).map fillT)]) = .ok (.int ((lot ns.length m).length : Int)) (S ++ [.lst ((lot ns.length m).map fillT)]) := by
    simp [lenSD, lenD, dr]
  unfold Ev
  rw [e]
  exact q
end
end NA
set_option maxHeartbeats 4000000
namespace NA
open PySem L2 ND NM
def pyF (f : List Bool) : PyData := .tuple (f.map PyData.bool)
def pyFs (fs : List (List Bool)) : PyData := .list (fs.map pyF)
theorem pys_bl : ∀ f : List Bool, pys (f.map D.bl) = some (f.map PyData.bool)
  | [] => rfl
  | b :: f => by rw [List.map_cons, pys, pys_bl f]; rfl
theorem py_fill (f : List Bool) : py (fillT f) = some (pyF f) := by rw [fillT, py, pys_bl]; rfl
theorem pys_fills : ∀ fs : List (List Bool), pys (fs.map fillT) = some (fs.map pyF)
  | [] => rfl
  | f :: fs => by rw [List.map_cons, pys, pys_fills fs, py_fill]; rfl
theorem depth_bools : ∀ f : List Bool, PyData.depthAll (f.map PyData.bool) ≤ 1
  | [] => by simp [PyData.depthAll]
  | b :: f => by
    have := depth_bools f
    rw [List.map_cons, PyData.depthAll]
    simp only [PyData.depth]
    omega
theorem depth_fill (f : List Bool) : (pyF f).depth ≤ 2 := by
  have := depth_bools f
  rw [pyF, PyData.depth]; omega
theorem depth_fills : ∀ fs : List (List Bool), PyData.depthAll (fs.map pyF) ≤ 2
  | [] => by simp [PyData.depthAll]
  | f :: fs => by
    have := depth_fills fs
    have := depth_fill f
    rw [List.map_cons, PyData.depthAll]
    omega
theorem pyD_fill {S : Store} {x : D} {f : List Bool} (h : dr S x = fillT f) : pyD S x = some (pyF f) := by
  unfold pyD
  have := depth_fill f
  rw [h, py_fill]
  exact if_pos (by omega)
theorem pyD_fills {S : Store} {x : D} {fs : List (List Bool)} (h : dr S x = .lst (fs.map fillT)) : pyD S x = some (pyFs fs) := by
  unfold pyD
  have := depth_fills fs
  rw [h, py, pys_fills]
  exact if_pos (by simp only [PyData.depth]; omega)
theorem eqv_bools : ∀ f g : List Bool, PyData.eqvAll (f.map PyData.bool) (g.map PyData.bool) = decide (f = g)
  | [], [] => rfl
  | [], _ :: _ => rfl
  | _ :: _, [] => rfl
  | a :: f, b :: g => by
    rw [List.map_cons, List.map_cons, PyData.eqvAll, eqv_bools f g, PyData.eqv]
    by_cases h : a = b
    · subst h; simp
    · simp [h]
theorem eqv_fill (f g : List Bool) : PyData.eqv (pyF f) (pyF g) = decide (f = g) := by rw [pyF, pyF, PyData.eqv, eqv_bools]
theorem eqv_fillsAll : ∀ f g : List (List Bool), PyData.eqvAll (f.map pyF) (g.map pyF) = decide (f = g)
  | [], [] => rfl
  | [], _ :: _ => rfl
  | _ :: _, [] => rfl
  | a :: f, b :: g => by
    rw [List.map_cons, List.map_cons, PyData.eqvAll, eqv_fillsAll f g, eqv_fill]
    by_cases h : a = b
    · subst h; simp
    · simp [h]
theorem eqv_fills (f g : List (List Bool)) : PyData.eqv (pyFs f) (pyFs g) = decide (f = g) := by rw [pyFs, pyFs, PyData.eqv, eqv_fillsAll]
section
variable {S : Store} {E : XP} {Q : D → Store → Prop}
theorem eq_fills_ev {neg : Bool} {x y : D} {f g : List (List Bool)} (hx : dr S x = .lst (f.map fillT)) (hy : dr S y = .lst (g.map fillT)) : Ev (eqvD neg x y) S E Q = Q (.bl (if neg then !decide (f = g) else decide (f = g))) S := by
  rw [ev_eq (pyD_fills hx) (pyD_fills hy), eqv_fills]
theorem eq_fill_ev {neg : Bool} {f g : List Bool} : Ev (eqvD neg (fillT f) (fillT g)) S E Q = Q (.bl (if neg then !decide (f = g) else decide (f = g))) S := by
  rw [ev_eq (pyD_fill rfl) (pyD_fill rfl), eqv_fill]
theorem in_fills_ev {f : List Bool} {fs : List (List Bool)} : Ev (inD false (fillT f) (.lst (fs.map fillT))) S E Q = Q (.bl (decide (f ∈ fs))) S := by
  have e : inB (fillT f) (.lst (fs.map fillT)) S = some (decide (f ∈ fs)) := by
    have h1 : pyD S (fillT f) = some (pyF f) := pyD_fill rfl
    have h2 : pyD S (.lst (fs.map fillT)) = some (.list (fs.map pyF)) := pyD_fills rfl
    show (match pyD S (fillT f), pyD S (.lst (fs.map fillT)) with
      | some a, some (.list ds) => some (ds.any fun z => PyData.eqv z a)
      | _, _ => none) = _
    rw [h1, h2]
    show some ((fs.map pyF).any fun z => PyData.eqv z (pyF f)) = _
    congr 1
    rw [List.any_map, Bool.eq_iff_iff, List.any_eq_true, decide_eq_true_iff]
    constructor
    · rintro ⟨g, hg, e⟩
      have e' : PyData.eqv (pyF g) (pyF f) = true := e
      rw [eqv_fill] at e'
      rw [← of_decide_eq_true e']; exact hg
    · intro h
      exact ⟨f, h, by show PyData.eqv (pyF f) (pyF f) = true; rw [eqv_fill]; simp⟩
  unfold Ev inD
  rw [e]
  rfl
def isBl : D → Bool
  | .bl _ => true
  | _ => false
def isF (n : Nat) : D → Bool
  | .tup xs => decide (xs.length = n) && xs.all isBl
  | _ => false
theorem isF_tup (n : Nat) (xs : List D) : isF n (.tup xs) = (decide (xs.length = n) && xs.all isBl) := rfl
theorem sd_bl {d : D} (h : Sd d) (Q : D → Store → Prop) (q : Q (.bl (isBl d)) S) : Ev (isiD [d, .ty "bool"]) S E Q := by
  cases h with
  | bl b => simpa [dr, tyNm, isBl] using q
  | _ => simpa [dr, tyNm, isBl] using q
theorem is_filling_ev {ns : List Str} {d : D} (hl : ns.length ≤ 10) (h : Sd d) (q : Q (.bl (isF ns.length d)) S) : Ev (m_is_filling [.tup (ns.map D.str), d]) S E Q := by
  unfold m_is_filling
  rw [ev_fn]
  unfold b_is_filling
  cases h with
  | tup hx hlx =>
    rename_i xs
    simp [startD, dr, tyNm, wipeD]
    rw [isF_tup] at q
    by_cases h1 : xs.length = ns.length
    · rw [decide_eq_true h1, Bool.true_and] at q
      rw [if_pos (by omega)]
      refine ev_compF (fun d => D.bl (isBl d)) (by have z : 1000 < sizeLine := by rw [sizeLine_eq]; decide
                                                   omega) (fun x hm => ⟨_, bind_nm, fun Q q => ?_⟩) ?_
      · simp only [ev_call, ev_cons, ev_var, ev_c, ev_nil, List.set_cons_succ, List.set_cons_zero, List.getElem?_cons_succ, List.getElem?_cons_zero, varP_some]
        exact sd_bl (hx x hm) Q q
      · rw [show xs.map (fun d => D.bl (isBl d)) = (xs.map isBl).map D.bl by rw [List.map_map]; rfl, ev_all, List.all_map]
        exact q
    · rw [decide_eq_false h1, Bool.false_and] at q
      rw [if_neg (by omega)]
      exact q
  | _ => simpa [startD, dr, tyNm, isF] using q
theorem isF_fill (n : Nat) (f : List Bool) : isF n (fillT f) = decide (f.length = n) := by
  rw [fillT, isF_tup]
  have : (f.map D.bl).all isBl = true := by rw [List.all_map]; simp [isBl]
  rw [this, List.length_map, Bool.and_true]
theorem sd_fill (f : List Bool) (h : f.length ≤ 1000) : Sd (fillT f) := .tup (fun d hd => by obtain ⟨b, _, rfl⟩ := List.mem_map.mp hd; exact .bl b) (by simpa using h)
theorem has_ev {ns : List Str} {n m : Nat} {f : List Bool} (hl : ns.length ≤ 10) (lt : IsLot S n ns m) (hf : f.length = ns.length) (q : Q (.bl (m.testBit (placeOf f))) S) : Ev (m_Lot__has [.cel n, fillT f]) S E Q := by
  unfold m_Lot__has
  rw [ev_fn]
  unfold b_Lot__has
  generalize hF : fillT f = F
  simp [startD, lt.names, lt.mask]
  subst hF
  refine is_filling_ev hl (sd_fill f (by omega)) ?_
  rw [isF_fill, decide_eq_true hf]
  simp [lt.mask]
  refine place_of_ev (by omega) ?_
  simp
  rw [shr_nat, bit1]
  cases h : m.testBit (placeOf f) <;> simpa [h] using q
theorem has_ev0 {ns : List Str} {n m : Nat} {d : D} (hl : ns.length ≤ 10) (lt : IsLot S n ns m) (sd : Sd d) (hf : isF ns.length d = false) (q : Q (.bl false) S) : Ev (m_Lot__has [.cel n, d]) S E Q := by
  unfold m_Lot__has
  rw [ev_fn]
  unfold b_Lot__has
  simp [startD, lt.names, lt.mask]
  refine is_filling_ev hl sd ?_
  rw [hf]
  simpa using q
end
end NA
set_option maxHeartbeats 4000000
namespace NA
open PySem L2 ND NM
section
variable {S : Store} {E : XP} {Q : D → Store → Prop}
structure Pairs (ns : List Str) (ps : List (Str × Bool)) : Prop where
  nd : (ps.map (·.1)).Nodup
  mem : ∀ p ∈ ps, p.1 ∈ ns
theorem Pairs.nil (ns : List Str) : Pairs ns [] := ⟨List.nodup_nil, by simp⟩
theorem getD_inj {ns : List Str} (nd : ns.Nodup) {i j : Nat} (hi : i < ns.length) (hj : j < ns.length) (h : ns[i]? = ns[j]?) : i = j := by
  rw [List.getElem?_eq_getElem hi, List.getElem?_eq_getElem hj] at h
  exact (List.getElem_inj nd).mp (Option.some.inj h)
theorem len_sortU (l : List Int) : (sortU l).length ≤ l.length := by
  have ins : ∀ (k : Int) (l : List Int), (insU k l).length ≤ l.length + 1 := by
    intro k l
    induction l with
    | nil => simp [insU]
    | cons x l ih =>
      unfold insU
      split
      · simp
      · split
        · simp
        · simp only [List.length_cons]; omega
  induction l with
  | nil => exact Nat.le_refl _
  | cons k l ih =>
    rw [sortU, List.length_cons]
    have := ins k (sortU l)
    omega
def AtPs (si : List Int) (ns : List Str) (ps : List (Str × Bool)) : Prop := ∀ (j : Nat) (p : Str × Bool), ps[j]? = some p → ∃ k : Int, si[j]? = some k ∧ ns[k.toNat]? = some p.1
theorem pairs_ev {n : Nat} {ns : List Str} {mo : Int} (b : Bag S n) (nm : Names ns) (h1 : 1 ≤ ns.length) (h2 : ns.length ≤ 20) (m1 : 1 ≤ mo) (m2 : mo ≤ 20)
    (q : ∀ ps S', Bag S' n → Onl n S S' → Pairs ns ps → ps ≠ [] → ps.length ≤ 20 → Q (pairsT ps) S') : Ev (m_law_pairs [.cel n, .tup (ns.map D.str), .int 1, .int mo]) S E Q := by
  unfold m_law_pairs
  rw [ev_fn]
  unfold b_law_pairs
  have z : 10000 < sizeLine := by rw [sizeLine_eq]; decide
  simp [startD, wipeD, -ev_rng1D]
  refine takeB b (by omega) (by omega) fun r S1 b1 o1 r0 r1 => ?_
  obtain ⟨t, ht⟩ : ∃ t : Nat, (1 : Int) + r = (t : Int) := ⟨(1 + r).toNat, by omega⟩
  rw [ev_addI, ht, ev_rngN (by omega)]
  refine ev_noErr (ev_compL (fun i acc S' => Bag S' n ∧ Onl n S S' ∧ ∃ is : List Int, acc = is.map D.int ∧ is.length = i ∧ ∀ x ∈ is, 0 ≤ x ∧ x < ns.length) (k := 0) ⟨b1, o1, [], rfl, rfl, by simp⟩ (fun i x acc S2 hx hi => ?_) (fun acc S2 hi => ?_))
  · obtain ⟨b2, o2, is, rfl, hl, hb⟩ := hi
    have hit := (intsD_at hx).2
    refine ⟨_, bind_nm, ?_⟩
    simp
    refine takeB b2 (by omega) (by omega) fun r S3 b3 o3 r0 r1 => ?_
    refine ⟨by omega, b3, o2.trans o3, is ++ [r], by simp, by simp; omega, fun x hx => ?_⟩
    rcases List.mem_append.mp hx with hx | hx
    · exact hb x hx
    · rw [List.mem_singleton.mp hx]; exact ⟨r0, r1⟩
  · obtain ⟨b2, o2, is, rfl, hl, hb⟩ := hi
    rw [intsD_len] at hl
    rw [ev_sortSet (by omega)]
    have hlen := len_sortU is
    have hmem : ∀ x ∈ sortU is, 0 ≤ x ∧ x < ns.length := fun x hx => hb x (mem_sortU.mp hx)
    simp
    refine ev_noErr (ev_compL (fun i acc S' => Bag S' n ∧ Onl n S S' ∧ ∃ ps : List (Str × Bool), acc = ps.map pairT ∧ ps.length = i ∧ AtPs (sortU is) ns ps) (k := 0) ⟨b2, o2, [], rfl, rfl, fun j p e => by simp at e⟩ (fun i x acc S3 hx hi => ?_) (fun acc S3 hi => ?_))
    · obtain ⟨b3, o3, ps, rfl, hpl, hps⟩ := hi
      rw [List.getElem?_map] at hx
      obtain ⟨k, hk, rfl⟩ : ∃ k, (sortU is)[i]? = some k ∧ D.int k = x := by
        cases e : (sortU is)[i]? with
        | none => rw [e] at hx; cases hx
        | some k => rw [e] at hx; cases hx; exact ⟨k, rfl, rfl⟩
      have kb := hmem k (List.mem_of_getElem? hk)
      have hnk : k.toNat < ns.length := by omega
      refine ⟨_, bind_nm, ?_⟩
      have hat : atI (ns.map D.str) k = some (.str ns[k.toNat]) := atI_at (n := k.toNat) (by omega) (by simp [hnk])
      simp [hat]
      refine takeB b3 (by omega) (by omega) fun r S4 b4 o4 r0 r1 => ?_
      have hil : i < (sortU is).length := (List.getElem?_eq_some_iff.mp hk).1
      rw [ev_eqI]
      refine ⟨by omega, by omega, b4, o3.trans o4, ps ++ [(ns[k.toNat], r == 1)], by simp, by simp; omega, fun j p hj => ?_⟩
      rcases Nat.lt_or_ge j ps.length with c | c
      · rw [List.getElem?_append_left c] at hj
        exact hps j p hj
      · rw [List.getElem?_append_right c] at hj
        have hj0 : j - ps.length = 0 := by
          have := (List.getElem?_eq_some_iff.mp hj).1
          simp at this
          omega
        rw [hj0] at hj
        simp at hj
        subst hj
        exact ⟨k, by rw [show j = i by omega]; exact hk, by simp [hnk]⟩
    · obtain ⟨b3, o3, ps, rfl, hpl, hps⟩ := hi
      simp at hpl
      refine q ps S3 b3 o3 ⟨?_, fun p hp => ?_⟩ ?_ (by omega)
      · rw [List.nodup_iff_pairwise_ne, List.pairwise_map, List.pairwise_iff_getElem]
        intro i j hi hj hij e
        obtain ⟨k, k1, k2⟩ := hps i _ (List.getElem?_eq_getElem hi)
        obtain ⟨l, l1, l2⟩ := hps j _ (List.getElem?_eq_getElem hj)
        have kb := hmem k (List.mem_of_getElem? k1)
        have lb := hmem l (List.mem_of_getElem? l1)
        have e2 := getD_inj nm.nd (i := k.toNat) (j := l.toNat) (by omega) (by omega) (by rw [k2, l2, e])
        have hki := (List.getElem?_eq_some_iff.mp k1)
        have hlj := (List.getElem?_eq_some_iff.mp l1)
        have lt := (List.pairwise_iff_getElem.mp (sortU_sorted is)) i j hki.1 hlj.1 hij
        rw [hki.2, hlj.2] at lt
        omega
      · obtain ⟨j, hj, e⟩ := List.getElem_of_mem hp
        obtain ⟨k, _, k2⟩ := hps j p (by rw [List.getElem?_eq_getElem hj, e])
        exact List.mem_of_getElem? k2
      · intro e
        subst e
        simp at hpl
        have : is ≠ [] := fun z => by rw [z] at hl; simp at hl; omega
        obtain ⟨x, hx⟩ := List.exists_mem_of_ne_nil is this
        have hx' := mem_sortU.mpr hx
        rw [List.eq_nil_of_length_eq_zero hpl.symm] at hx'
        exact absurd hx' List.not_mem_nil
end
end NA
set_option maxHeartbeats 4000000
namespace NA
open PySem L2 ND NM
theorem lookup_mem {α β : Type} [BEq α] [LawfulBEq α] : ∀ {ps : List (α × β)} {x : α} {b : β}, ps.lookup x = some b → (x, b) ∈ ps
  | [], _, _, h => by simp at h
  | p :: ps, x, b, h => by
    rw [List.lookup_cons] at h
    cases e : (x == p.1) with
    | true =>
      rw [e] at h; cases h
      rw [beq_iff_eq.mp e]; exact List.mem_cons_self
    | false => rw [e] at h; exact List.mem_cons_of_mem _ (lookup_mem h)
theorem mem_lookup {α β : Type} [BEq α] [LawfulBEq α] : ∀ {ps : List (α × β)} {p : α × β}, (ps.map (·.1)).Nodup → p ∈ ps → ps.lookup p.1 = some p.2
  | [], _, _, h => by simp at h
  | q :: ps, p, nd, h => by
    obtain ⟨n1, n2⟩ := List.nodup_cons.mp nd
    rw [List.lookup_cons]
    rcases List.mem_cons.mp h with e | h
    · subst e; simp
    · have ne : p.1 ≠ q.1 := fun z => n1 (show q.1 ∈ _ by rw [← z]; exact List.mem_map_of_mem h)
      rw [beq_eq_false_iff_ne.mpr ne]
      exact mem_lookup n2 h
def fitsP (ns : List Str) (f : List Bool) (ps : List (Str × Bool)) : Bool := ps.all fun p => (ns.zip f).lookup p.1 == some p.2
theorem fitsW_iff : ∀ {ns : List Str} {f : List Bool} {ps : List (Str × Bool)}, f.length = ns.length → (fitsW f (wants ns ps) = true ↔ ∀ x b, (x, b) ∈ ns.zip f → ∀ c, ps.lookup x = some c → b = c)
  | [], [], ps, _ => by simp [wants, fitsW]
  | x :: ns, b :: f, ps, h => by
    have ih := fitsW_iff (ns := ns) (f := f) (ps := ps) (by simpa using h)
    have e : fitsW (b :: f) (wants (x :: ns) ps) = (okW (ps.lookup x) b && fitsW f (wants ns ps)) := rfl
    rw [e, Bool.and_eq_true, ih, List.zip_cons_cons]
    constructor
    · rintro ⟨h1, h2⟩ y c hm d hd
      rcases List.mem_cons.mp hm with e | hm
      · cases e
        rw [hd] at h1
        exact beq_iff_eq.mp h1
      · exact h2 y c hm d hd
    · intro h3
      refine ⟨?_, fun y c hm => h3 y c (List.mem_cons_of_mem _ hm)⟩
      cases e : ps.lookup x with
      | none => rfl
      | some d => exact beq_iff_eq.mpr (h3 x b List.mem_cons_self d e)
  | [], _ :: _, _, h => by simp at h
  | _ :: _, [], _, h => by simp at h
theorem zip_keys {ns : List Str} {f : List Bool} (h : f.length = ns.length) : (ns.zip f).map (·.1) = ns := by rw [List.map_fst_zip (by omega)]
theorem fits_link {ns : List Str} {f : List Bool} {ps : List (Str × Bool)} (nd : ns.Nodup) (h : f.length = ns.length) (pr : Pairs ns ps) : fitsW f (wants ns ps) = fitsP ns f ps := by
  have zk := zip_keys h
  rw [Bool.eq_iff_iff, fitsW_iff h, fitsP, List.all_eq_true]
  constructor
  · intro hw p hp
    have hx : p.1 ∈ (ns.zip f).map (·.1) := by rw [zk]; exact pr.mem p hp
    obtain ⟨⟨x, b⟩, hxb, e⟩ := List.mem_map.mp hx
    have e : x = p.1 := e
    rw [e] at hxb
    have hb := hw p.1 b hxb p.2 (mem_lookup pr.nd hp)
    have := mem_lookup (by rw [zk]; exact nd) hxb
    simp at this
    rw [this, hb]
    simp
  · intro hp x b hxb c hc
    have h1 := hp (x, c) (lookup_mem hc)
    have h2 := mem_lookup (by rw [zk]; exact nd) hxb
    simp at h1 h2
    rw [h2] at h1
    simpa using h1
section
variable {S : Store} {E : XP} {Q : D → Store → Prop}
theorem zip_pairs (ns : List Str) (f : List Bool) : List.zipWith (fun a b => pairD (D.str a) (D.bl b)) ns f = (ns.zip f).map fun p => D.tpo [.str p.1, .bl p.2] := by
  rw [List.zip, List.map_zipWith]
theorem bind_tpo2 {i j : Nat} {x y : D} {τ : DSt} : Tg.bind (.tp [.nm i, .nm j]) (.tpo [x, y]) τ = some ((τ.set i (some x)).set j (some y)) := by simp
theorem bind_tup2 {i j : Nat} {x y : D} {τ : DSt} : Tg.bind (.tp [.nm i, .nm j]) (.tup [x, y]) τ = some ((τ.set i (some x)).set j (some y)) := by simp
theorem fits_ev {ns : List Str} {f : List Bool} {ps : List (Str × Bool)} (nd : ns.Nodup) (hl : ns.length ≤ 20) (h : f.length = ns.length) (pr : Pairs ns ps) (hp : ps.length ≤ 20) (q : Q (.bl (fitsP ns f ps)) S) :
    Ev (m_law_fits [.tup (ns.map D.str), fillT f, pairsT ps]) S E Q := by
  unfold m_law_fits
  rw [ev_fn]
  unfold b_law_fits
  have z : 10000 < sizeLine := by rw [sizeLine_eq]; decide
  have zl : (ns.zip f).length ≤ 20 := by rw [List.length_zip]; omega
  have zk := zip_keys h
  simp [startD, wipeD]
  rw [zip_pairs]
  refine ev_compF (fun d => match d with
    | .tpo xs => .tup xs
    | d => d) (by simp; omega) (fun d hd => ?_) ?_
  · obtain ⟨⟨x, b⟩, _, rfl⟩ := List.mem_map.mp hd
    refine ⟨_, bind_tpo2, fun Q q => ?_⟩
    simp
    exact ⟨by omega, q⟩
  · have e : ((ns.zip f).map fun p => D.tpo [.str p.1, .bl p.2]).map (fun d => match d with
      | .tpo xs => .tup xs
      | d => d) = (ns.zip f).map pairT := by rw [List.map_map]; rfl
    rw [e, ev_dictT (dict_pairsL (by rw [zk]; exact nd))]
    refine ev_compF (fun d => match d with
      | .tup [.str x, .bl b] => .bl ((ns.zip f).lookup x == some b)
      | d => d) (by simp; omega) (fun d hd => ?_) ?_
    · obtain ⟨⟨x, b⟩, hm, rfl⟩ := List.mem_map.mp hd
      refine ⟨_, bind_tup2, fun Q q => ?_⟩
      have hx : x ∈ (ns.zip f).map (·.1) := by rw [zk]; exact pr.mem _ hm
      obtain ⟨⟨y, c⟩, hyc, e⟩ := List.mem_map.mp hx
      simp at e
      subst e
      have hlk := mem_lookup (by rw [zk]; exact nd) hyc
      simp at hlk
      have q' : Q (.bl ((ns.zip f).lookup y == some b)) S := q
      rw [hlk] at q'
      simp [ev_ixDct, val_pairs, hlk]
      simpa using q'
    · have e : (ps.map pairT).map (fun d => match d with
        | .tup [.str x, .bl b] => .bl ((ns.zip f).lookup x == some b)
        | d => d) = (ps.map fun p => (ns.zip f).lookup p.1 == some p.2).map D.bl := by rw [List.map_map, List.map_map]; rfl
      rw [e, ev_all, List.all_map]
      exact q
theorem flat_snoc {α β : Type} (f : α → List β) (l : List α) (x : α) : (l ++ [x]).flatMap f = l.flatMap f ++ f x := by simp
theorem flat2_len (l : List (List Bool)) : (l.flatMap fun f => [f ++ [false], f ++ [true]]).length = 2 * l.length := by
  induction l with
  | nil => rfl
  | cons x l ih => rw [List.flatMap_cons, List.length_append, ih]; simp; omega
theorem law_fillings_ev {n : Nat} (hn : n ≤ 10) (q : Q (.lst ((fills n).map fillT)) S) : Ev (m_law_fillings [.int (n : Int)]) S E Q := by
  unfold m_law_fillings
  rw [ev_fn]
  unfold b_law_fillings
  have z : 10000 < sizeLine := by rw [sizeLine_eq]; decide
  simp [startD, -ev_rng1D]
  rw [ev_rngN (by omega)]
  refine ⟨by omega, ?_⟩
  refine evr_loop (fun i τ S' => S' = S ∧ i ≤ n ∧ ∃ v2 v3 v4, τ = [some (.int n), some (.lst ((fills i).map fillT)), v2, v3, v4]) (k := 0) ⟨rfl, Nat.zero_le _, none, none, none, rfl⟩ (fun i x τ S' hx hi => ?_) (fun τ S' hi => ?_)
  · obtain ⟨rfl, hin, v2, v3, v4, rfl⟩ := hi
    rw [Nat.zero_add] at hin ⊢
    have hi2 := (intsD_at hx).2
    refine ⟨_, bind_nm, ?_⟩
    have fl := fills_length i
    have p10 := pow10 (n := i) (by omega)
    simp
    refine evr_loop (fun j τ S2 => S2 = S' ∧ ∃ v4, τ = [some (.int n), some (.lst ((fills i).map fillT)), some x, some (.lst ((((fills i).take j).flatMap fun f => [f ++ [false], f ++ [true]]).map fillT)), v4]) (k := 0) ⟨rfl, v4, by simp⟩ (fun j y τ S2 hy hj => ?_) (fun τ S2 hj => ?_)
    · obtain ⟨rfl, v4, rfl⟩ := hj
      rw [Nat.zero_add]
      rw [List.getElem?_map] at hy
      obtain ⟨f, hf, rfl⟩ : ∃ f, (fills i)[j]? = some f ∧ fillT f = y := by
        cases e : (fills i)[j]? with
        | none => rw [e] at hy; cases hy
        | some f => rw [e] at hy; cases hy; exact ⟨f, rfl, rfl⟩
      have hjl := (List.getElem?_eq_some_iff.mp hf).1
      have hfl := mem_fills (List.mem_of_getElem? hf)
      have tl := flat2_len ((fills i).take j)
      rw [List.length_take] at tl
      refine ⟨_, bind_nm, ?_⟩
      have tk : (fills i).take (j + 1) = (fills i).take j ++ [f] := by rw [List.take_add_one, hf]; rfl
      rw [tk, flat_snoc]
      simp
      refine ⟨by omega, by omega, by omega, ?_⟩
      simp at tl
      omega
    · obtain ⟨rfl, v4, rfl⟩ := hj
      simp
      exact ⟨by omega, rfl⟩
  · obtain ⟨rfl, hin, v2, v3, v4, rfl⟩ := hi
    simp
    simpa using q
end
end NA
set_option maxHeartbeats 4000000
namespace ND
open PySem L2
section
variable {S : Store} {E : XP} {Q : D → Store → Prop} {τ : DSt}
@[simp] theorem ev_mCompW {m : EM} {vs : List Nat} {t : Tg} {tt : TM} {te : EM} : Ev (mCompW m vs t tt te τ) S E Q = Ev (m τ) S E fun x S1 => Ev (compW x fun xs => noErr (compL t tt te (wipeD τ vs) xs [])) S1 E Q := by unfold mCompW; rw [ev_bind]
theorem set_back {n : Nat} {x y : Cell} (h : S[n]? = some x) : (S.set n y).set n x = S := by
  rw [List.set_set]
  apply List.ext_getElem?
  intro i
  by_cases e : i = n
  · subst e; rw [List.getElem?_set_self (List.getElem?_eq_some_iff.mp h).1, h]
  · rw [List.getElem?_set_ne (Ne.symm e)]
theorem ev_compWP {n : Nat} {xs ys : List D} {k : List D → M (List D)} (h : S[n]? = some (.lst xs)) (hk : ∀ PL : List D → Store → Prop, PL ys (S.set n .dead) → Ev (k xs) (S.set n .dead) (fun _ _ _ => False) PL) (q : Q (.lst ys) S) : Ev (compW (.cel n) k) S E Q := by
  have hl := (List.getElem?_eq_some_iff.mp h).1
  have r : k xs (S.set n .dead) = .ok ys (S.set n .dead) := by
    have z := hk (fun zs S' => zs = ys ∧ S' = S.set n .dead) ⟨rfl, rfl⟩
    unfold Ev at z
    cases e : k xs (S.set n .dead) with
    | ok zs S' => rw [e] at z; rw [z.1, z.2]
    | err C fs S' => rw [e] at z; exact z.elim
    | bad => rw [e] at z; exact z.elim
  have e : compW (.cel n) k S = .ok (.lst ys) S := by
    unfold compW
    simp only [h, r]
    rw [List.getElem?_set_self hl]
    show Res.ok (D.lst ys) ((S.set n .dead).set n (.lst xs)) = _
    rw [set_back h]
  unfold Ev
  rw [e]
  exact q
@[simp] theorem ev_revC {n : Nat} : Ev (reverseD (.cel n) []) S E Q = ∃ xs, S[n]? = some (.lst xs) ∧ Q .non (S.set n (.lst xs.reverse)) := by
  unfold Ev reverseD
  cases e : S[n]? with
  | none => simp only [e]; simp
  | some c =>
    cases c with
    | lst xs => simp only [e]; simp
    | _ => simp only [e]; simp
end
end ND
namespace NA
open PySem L2 ND NM
section
variable {S : Store} {E : XP} {Q : D → Store → Prop}
theorem lot_len_lt (n m : Nat) (h : n ≤ 10) : (lot n m).length ≤ 1024 := Nat.le_trans (lot_len n m) (pow10 h)
theorem is_lot_ev {ns : List Str} {l m : Nat} (hl : ns.length ≤ 10) (lt : IsLot S l ns m) (q : ∀ T, Q (.bl true) (S ++ T)) : Ev (m_law_is_lot [.cel l, .lst ((lot ns.length m).map fillT)]) S E Q := by
  unfold m_law_is_lot
  rw [ev_fn]
  unfold b_law_is_lot
  have z : 10000 < sizeLine := by rw [sizeLine_eq]; decide
  have hlen := lot_len_lt ns.length m hl
  generalize hL : lot ns.length m = L at *
  rw [evr_then]
  simp only [startD, evr_set, List.map_cons, List.map_nil, List.cons_append, List.nil_append, List.length_cons, List.length_nil, List.replicate]
  rw [ev_methC (n := l)]
  simp
  rw [ev_isObj lt rfl]
  refine fillings_ev hl lt ?_
  rw [hL]
  have lt1 := lt.snoc (.lst (L.map fillT))
  have h1 : (S ++ [Cell.lst (L.map fillT)])[S.length]? = some (.lst (L.map fillT)) := by simp
  generalize hS1 : S ++ [Cell.lst (L.map fillT)] = S1 at *
  have d1 : dr S1 (.cel S.length) = .lst (L.map fillT) := by simp [dr, h1]
  simp [d1, tyNm]
  rw [eq_fills_ev d1 (y := .lst (L.map fillT)) rfl]
  simp
  rw [ev_lenO lt1]
  refine ev_noErr (len_ev hl lt1 ?_)
  rw [hL]
  have lt2 := lt1.snoc (.lst (L.map fillT))
  have h2 : (S1 ++ [Cell.lst (L.map fillT)])[S.length]? = some (.lst (L.map fillT)) := by rw [List.getElem?_append_left (List.getElem?_eq_some_iff.mp h1).1]; exact h1
  generalize hS2 : S1 ++ [Cell.lst (L.map fillT)] = S2 at *
  simp
  refine ⟨by omega, ?_⟩
  rw [ev_truO lt2]
  refine ev_noErr (len_ev hl lt2 ?_)
  rw [hL]
  have lt3 := lt2.snoc (.lst (L.map fillT))
  have h3 : (S2 ++ [Cell.lst (L.map fillT)])[S.length]? = some (.lst (L.map fillT)) := by rw [List.getElem?_append_left (List.getElem?_eq_some_iff.mp h2).1]; exact h2
  have g3 : ∃ T, S2 ++ [Cell.lst (L.map fillT)] = S ++ [Cell.lst (L.map fillT)] ++ T := ⟨[Cell.lst (L.map fillT), Cell.lst (L.map fillT)], by rw [← hS2, ← hS1]; simp⟩
  generalize hS3 : S2 ++ [Cell.lst (L.map fillT)] = S3 at *
  simp
  refine ⟨by omega, ?_⟩
  rw [eq_fills_ev (f := L) (g := []) rfl rfl]
  have e0 : ((L.length : Int) != 0) = !decide (L = []) := by cases L <;> simp; omega
  rw [ev_eqB, e0]
  simp
  refine ev_compWP (ys := (L.map fun _ => true).map D.bl) h3 (fun PL q => ?_) ?_
  · refine ev_compF (fun _ => D.bl true) (by simp; omega) (fun x hx => ?_) (by rw [List.map_map]; rw [List.map_map] at q; exact q)
    obtain ⟨f, hf, rfl⟩ := List.mem_map.mp hx
    have hfl := lot_fill (hL ▸ hf)
    refine ⟨_, bind_nm, fun Q q => ?_⟩
    simp [dr, tyNm, wipeD]
    refine ev_compF (fun _ => D.bl true) (by simp; omega) (fun x hx => ?_) ?_
    · obtain ⟨b, _, rfl⟩ := List.mem_map.mp hx
      refine ⟨_, bind_nm, fun Q q => ?_⟩
      simp [dr, tyNm]
      exact q
    · rw [show (f.map D.bl).map (fun _ => D.bl true) = (f.map fun _ => true).map D.bl by rw [List.map_map, List.map_map]; rfl, ev_all]
      have : (f.map fun _ => true).all id = true := by simp
      rw [this]
      exact q
  · rw [ev_all]
    have : (L.map fun _ => true).all id = true := by simp
    rw [this]
    obtain ⟨T, rfl⟩ := g3
    have d3 : dr (S ++ Cell.lst (L.map fillT) :: T) (.cel S.length) = .lst (L.map fillT) := by simp [dr]
    simp [d3]
    have e4 : (S ++ Cell.lst ((L.map fillT) ++ [D.non]) :: T)[S.length]? = some (Cell.lst ((L.map fillT) ++ [D.non])) := by simp
    have d4 : dr (S ++ Cell.lst ((L.map fillT) ++ [D.non]) :: T) (.cel S.length) = .lst ((L.map fillT) ++ [D.non]) := by simp [dr, e4]
    refine ⟨by omega, by rw [d4], ?_⟩
    rw [ev_methC (n := l)]
    have lt5 : IsLot (S ++ Cell.lst (D.non :: (L.map fillT).reverse) :: T) l ns m := by
      unfold IsLot; rw [List.getElem?_append_left lt.lt]; exact lt
    simp
    rw [ev_isObj lt5 rfl]
    refine fillings_ev hl lt5 ?_
    rw [hL, eq_fills_ev (f := L) (g := L) (by simp [dr]) rfl]
    simp
    exact q _
end
end NA
set_option maxHeartbeats 4000000
namespace NA
open PySem L2 ND NM
section
variable {S : Store} {E : XP} {Q : D → Store → Prop}
theorem any_ev2 {n : Nat} (h : Bag S n) (q : ∀ d S', Sd d → (∀ k, isF k d = false) → Bag S' n → Onl n S S' → Q d S') : Ev (m_law_any [.cel n]) S E Q := by
  unfold m_law_any
  rw [ev_fn]
  unfold b_law_any
  have z : 100 < sizeLine := by rw [sizeLine_eq]; decide
  simp [startD]
  refine ⟨by omega, by omega, by omega, by omega, by omega, by omega, by omega, takeB h (by decide) (by decide) fun r S2 b2 o2 r0 r1 => ?_⟩
  rw [ev_ixL]
  obtain ⟨d, hd, hm⟩ := atI_ex (xs := [D.non, D.bl true, D.bl false, D.int 0, D.int 1, D.int (-1), D.int 100000000000000000000000000000000000000000000000000000000000, D.str (Str.ofString ""),
      D.str (Str.ofString "A"), D.str (Str.ofString "a b"), D.str (Str.ofString "ninelongs"), D.str (Str.ofString "a1"), D.lst [], D.lst [D.str (Str.ofString "a")], D.tup [D.int 1],
      D.tup [D.non], D.tup [D.tup []], D.str (Str.ofString "a-"), D.tup [D.str (Str.ofString "a"), D.int 1], D.lst [D.tup [D.str (Str.ofString "a"), D.bl true]], D.tup [D.bl true, D.int 0]]) r0 (by show r < 21; omega)
  refine ⟨d, hd, q d S2 ?_ ?_ b2 o2⟩
  · simp only [List.mem_cons, List.not_mem_nil, or_false] at hm
    rcases hm with rfl | rfl | rfl | rfl | rfl | rfl | rfl | rfl | rfl | rfl | rfl | rfl | rfl | rfl | rfl | rfl | rfl | rfl | rfl | rfl | rfl <;>
      first | exact .non | exact .bl _ | exact .int _ | exact .str _ | exact sdl0 | exact sdl1 (.str _) | exact sdt1 (.int _) | exact sdt1 .non | exact sdt1 sdt0 | exact sdt2 (.str _) (.int _) | exact sdl1 (sdt2 (.str _) (.bl _)) | exact sdt2 (.bl _) (.int _)
  · simp only [List.mem_cons, List.not_mem_nil, or_false] at hm
    intro k
    rcases hm with rfl | rfl | rfl | rfl | rfl | rfl | rfl | rfl | rfl | rfl | rfl | rfl | rfl | rfl | rfl | rfl | rfl | rfl | rfl | rfl | rfl <;> simp [isF, isBl]
theorem Bag.of {n : Nat} {S' : Store} (b : Bag S n) (o : Onl n S S') (h : Bag S' n) : Bag S' n := h
theorem draw_ev {n k : Nat} {ns : List Str} {te : EM} {t : Tg} {τ : DSt} {PL : List D → Store → Prop} (b : Bag S n) (hl : ns.length ≤ 20)
    (step : ∀ (x : Str) (S' : Store) (R : D → Store → Prop), Bag S' n → (∀ r S2, Bag S2 n → Onl n S' S2 → R (.bl (r == (1 : Int))) S2) → ∃ τ1, t.bind (.str x) τ = some τ1 ∧ Ev (te τ1) S' (fun _ _ _ => False) R)
    (q : ∀ (f : List Bool) (S' : Store), Bag S' n → Onl n S S' → f.length = ns.length → PL (f.map D.bl) S') : Ev (noErr (compL t tYesD te τ (ns.map D.str) [])) S E PL := by
  have z : 100 < sizeLine := by rw [sizeLine_eq]; decide
  refine ev_noErr (ev_compL (fun i acc S' => Bag S' n ∧ Onl n S S' ∧ ∃ f : List Bool, acc = f.map D.bl ∧ f.length = i) (k := 0) ⟨b, Onl.refl, [], rfl, rfl⟩ (fun i x acc S2 hx hi => ?_) (fun acc S2 hi => ?_))
  · obtain ⟨b2, o2, f, rfl, hf⟩ := hi
    have hil := (List.getElem?_eq_some_iff.mp hx).1
    rw [List.length_map] at hil
    rw [List.getElem?_map] at hx
    obtain ⟨x', _, rfl⟩ : ∃ z, ns[i]? = some z ∧ D.str z = x := by
      cases e : ns[i]? with
      | none => rw [e] at hx; cases hx
      | some z => rw [e] at hx; cases hx; exact ⟨z, rfl, rfl⟩
    obtain ⟨τ1, e, h⟩ := step x' S2 (fun y S2 => (f.map D.bl).length < sizeLine ∧ Bag S2 n ∧ Onl n S S2 ∧ ∃ f' : List Bool, f.map D.bl ++ [y] = f'.map D.bl ∧ f'.length = 0 + i + 1) b2 fun r S3 b3 o3 => ⟨by rw [List.length_map]; omega, b3, o2.trans o3, f ++ [r == 1], by simp, by simp; omega⟩
    refine ⟨τ1, e, ?_⟩
    rw [ev_yes, if_pos rfl]
    exact h
  · obtain ⟨b2, o2, f, rfl, hf⟩ := hi
    rw [List.length_map] at hf
    exact q f S2 b2 o2 (by omega)
theorem IsLot.onl {n m l : Nat} {ns : List Str} {S' : Store} (h : IsLot S l ns m) (o : Onl n S S') (ne : l ≠ n) : IsLot S' l ns m := by
  unfold IsLot; rw [o.2 l ne]; exact h
theorem lot0 (m : Nat) : decide (lot 0 m = []) = !m.testBit 0 := by
  have h := lot_mem (n := 0) (m := m) (f := []) rfl
  have e : placeOf [] = 0 := rfl
  rw [e] at h
  cases hb : m.testBit 0 with
  | true =>
    have := h.mpr hb
    rw [decide_eq_false (fun z => by rw [z] at this; exact List.not_mem_nil this)]; rfl
  | false =>
    rw [decide_eq_true]; rfl
    rw [List.eq_nil_iff_forall_not_mem]
    intro f hf
    have hl := lot_fill hf
    have : f = [] := List.eq_nil_of_length_eq_zero hl
    subst this
    rw [h] at hf
    rw [hb] at hf; cases hf
theorem has_right_ev {n l m : Nat} {ns : List Str} (b : Bag S n) (hl : ns.length ≤ 10) (lt : IsLot S l ns m) (ne : l ≠ n) (q : ∀ S', Bag S' n → Onl n S S' → Q (.bl true) S') :
    Ev (m_law_has_right [.cel n, .cel l, .tup (ns.map D.str), .lst ((lot ns.length m).map fillT)]) S E Q := by
  unfold m_law_has_right
  rw [ev_fn]
  unfold b_law_has_right
  have z : 10000 < sizeLine := by rw [sizeLine_eq]; decide
  generalize hL : lot ns.length m = L
  simp [startD, -ev_rng1D]
  rw [show (4 : Int) = ((4 : Nat) : Int) from rfl, ev_rngN (by omega)]
  refine evr_loop (fun i τ S' => Bag S' n ∧ Onl n S S' ∧ ∃ v4 v5 v6 v7, τ = [some (.cel n), some (.cel l), some (.tup (ns.map D.str)), some (.lst (L.map fillT)), v4, v5, v6, v7] ∧ (0 < i → ∃ f : List Bool, v5 = some (fillT f) ∧ f.length = ns.length)) (k := 0) ⟨b, Onl.refl, none, none, none, none, rfl, by omega⟩ (fun i x τ S1 hx hi => ?_) (fun τ S1 hi => ?_)
  · obtain ⟨b1, o1, v4, v5, v6, v7, rfl, _⟩ := hi
    refine ⟨_, bind_nm, ?_⟩
    simp [wipeD]
    refine draw_ev (k := 0) b1 (by omega) (fun x S' R b' hR => ⟨_, bind_nm, ?_⟩) (fun f S2 b2 o2 hf => ?_)
    · simp
      refine takeB b' (by omega) (by omega) fun r S3 b3 o3 r0 r1 => ?_
      simp
      exact hR r S3 b3 o3
    · have lt2 := lt.onl (o1.trans o2) ne
      rw [show D.tup (f.map D.bl) = fillT f from rfl]
      rw [ev_methC (n := l)]
      simp
      rw [ev_isObj lt2 rfl]
      refine has_ev hl lt2 hf ?_
      rw [in_fills_ev]
      refine truth_ev ?_
      have e : (m.testBit (placeOf f) == decide (f ∈ L)) = true := by
        rw [beq_iff_eq, Bool.eq_iff_iff, decide_eq_true_iff, ← hL, lot_mem hf]
      rw [e]
      simp
      rw [ev_methC (n := l)]
      simp
      rw [ev_isObj lt2 rfl]
      refine has_ev0 (d := .lst (f.map D.bl)) hl lt2 (.lst (fun d hd => by obtain ⟨b, _, rfl⟩ := List.mem_map.mp hd; exact .bl b) (by simp; omega)) (by simp [isF]) ?_
      simp
      refine ⟨b2, o1.trans o2, ?_⟩
      first | exact ⟨f, rfl, hf⟩ | exact ⟨_, _, ⟨rfl, rfl⟩, f, rfl, hf⟩
  · obtain ⟨b1, o1, v4, v5, v6, v7, rfl, hv⟩ := hi
    obtain ⟨f, rfl, hf⟩ := hv (by simp)
    have lt1 := lt.onl o1 ne
    simp
    rw [ev_methC (n := l)]
    simp
    rw [ev_isObj lt1 rfl]
    refine ev_compF (fun d => match d with | .bl b => .int (if b then 1 else 0) | d => d) (by rw [List.length_map]; omega) (fun x hx => ?_) ?_
    · obtain ⟨b, _, rfl⟩ := List.mem_map.mp hx
      refine ⟨_, bind_nm, fun Q q => ?_⟩
      simp
      exact q
    · rw [List.map_map]
      have sdI : Sd (.tup (f.map ((fun d => match d with | .bl b => .int (if b then 1 else 0) | d => d) ∘ D.bl))) := .tup (fun d hd => by obtain ⟨b, _, rfl⟩ := List.mem_map.mp hd; exact .int _) (by simp; omega)
      have tail : Ev (mMethI (Str.ofString "Lot") (Str.ofString "has") 2 m_Lot__has (mVar 1) (mCons (mCall (arity 1 m_law_any) (mCons (mVar 0) mNil)) mNil)
          [some (D.cel n), some (D.cel l), some (D.tup (List.map D.str ns)), some (D.lst (List.map fillT L)), v4, some (fillT f), v6, v7]) S1 (fun C fs S' => E C fs S') fun x S1 =>
          Ev (isD false x (D.bl false)) S1 (fun C fs S' => E C fs S') fun x S1 => Ev (asB x) S1 (fun C fs S' => E C fs S') fun b S2 =>
            if b = true then
              Ev (mMethI (Str.ofString "Lot") (Str.ofString "has") 2 m_Lot__has (mVar 1) (mCons (mBin addD (mVar 5) (mTup (mCons (mC (D.bl true)) mNil))) mNil)
                [some (D.cel n), some (D.cel l), some (D.tup (List.map D.str ns)), some (D.lst (List.map fillT L)), v4, some (fillT f), v6, v7]) S2 (fun C fs S' => E C fs S') fun x S1 =>
                Ev (isD false x (D.bl false)) S1 (fun C fs S' => E C fs S') fun d S' => Q d S'
            else Q (D.bl false) S2 := by
        rw [ev_methC (n := l)]
        simp
        rw [ev_isObj lt1 rfl]
        refine any_ev2 b1 fun d S2 sd2 nf2 b2 o2 => ?_
        have lt2 := lt1.onl o2 ne
        refine has_ev0 hl lt2 sd2 (nf2 _) ?_
        simp
        rw [ev_methC (n := l)]
        simp
        rw [ev_isObj lt2 rfl]
        have ea : D.tup (f.map D.bl ++ [D.bl true]) = fillT (f ++ [true]) := by simp [fillT]
        refine ⟨by omega, by omega, ?_⟩
        rw [ea]
        refine has_ev0 hl lt2 (sd_fill _ (by simp; omega)) (by rw [isF_fill]; simp; omega) ?_
        simp
        exact q S2 b2 (o1.trans o2)
      rw [show D.tup [] = fillT [] from rfl]
      cases f with
      | nil =>
        have hn : ns.length = 0 := by simpa using hf.symm
        refine has_ev (f := []) hl lt1 (by simp [hn]) ?_
        rw [eq_fill_ev]
        simp
        rw [show D.lst [] = D.lst (([] : List (List Bool)).map fillT) from rfl, eq_fills_ev rfl rfl]
        refine truth_ev ?_
        have e : (m.testBit (placeOf []) == if true = true then !decide (L = []) else decide (L = [])) = true := by
          rw [← hL, hn, if_pos rfl, lot0, Bool.not_not, show placeOf [] = 0 from rfl, beq_self_eq_true]
        rw [e]
        simp
        exact tail
      | cons b0 f0 =>
        refine has_ev0 hl lt1 sdI (by rw [isF_tup]; simp [isBl]) ?_
        rw [eq_fill_ev]
        simp
        refine truth_ev ?_
        simp
        exact tail
end
end NA
set_option maxHeartbeats 4000000
namespace NA
open PySem L2 ND NM
theorem lot_full (ns : List Str) : lot ns.length (full ns) = fills ns.length := by
  have e : wants ns [] = List.replicate ns.length none := by
    unfold wants
    induction ns with
    | nil => rfl
    | cons x ns ih => rw [List.map_cons, ih, List.length_cons, List.replicate_succ]; rfl
  rw [full, e, lot_all]
theorem wants_len (ns : List Str) (ps : List (Str × Bool)) : (wants ns ps).length = ns.length := by simp [wants]
theorem mask_at {ns : List Str} {ps : List (Str × Bool)} (nd : ns.Nodup) (pr : Pairs ns ps) {k : Nat} (hk : k < 2 ^ ns.length) : (maskN (wants ns ps)).testBit k = fitsP ns (fillAt ns.length k) ps := by
  rw [mask_bit, wants_len, decide_eq_true hk, Bool.true_and, fits_link nd (fillAt_length _ _) pr]
theorem lot_barred {ns : List Str} {ps : List (Str × Bool)} (nd : ns.Nodup) (pr : Pairs ns ps) (m : Nat) : lot ns.length (m - (m &&& maskN (wants ns ps))) = (lot ns.length m).filter fun f => !fitsP ns f ps :=
  lot_filter fun k hk => by rw [testBit_sub_and, mask_at nd pr hk]
theorem lot_fitted {ns : List Str} {ps : List (Str × Bool)} (nd : ns.Nodup) (pr : Pairs ns ps) (m : Nat) : lot ns.length (m &&& maskN (wants ns ps)) = (lot ns.length m).filter fun f => fitsP ns f ps :=
  lot_filter fun k hk => by rw [Nat.testBit_and, mask_at nd pr hk]
noncomputable def unF (d : D) : List Bool := match d with | .tup xs => xs.map (fun d => match d with | .bl b => b | _ => false) | _ => []
theorem unF_fill (f : List Bool) : unF (fillT f) = f := by
  simp [unF, fillT]
  induction f with
  | nil => rfl
  | cons b f ih => simp [ih]
def Low (n m : Nat) : Prop := ∀ k, m.testBit k = true → k < 2 ^ n
theorem low_mask (ns : List Str) (ps : List (Str × Bool)) : Low ns.length (maskN (wants ns ps)) := fun k h => by
  rw [mask_bit, wants_len, Bool.and_eq_true] at h
  exact of_decide_eq_true h.1
theorem low_full (ns : List Str) : Low ns.length (full ns) := low_mask ns []
theorem low_barred {n m : Nat} (h : Low n m) (x : Nat) : Low n (m - (m &&& x)) := fun k hk => by
  rw [testBit_sub_and, Bool.and_eq_true] at hk
  exact h k hk.1
theorem low_fitted {n m : Nat} (h : Low n m) (x : Nat) : Low n (m &&& x) := fun k hk => by
  rw [Nat.testBit_and, Bool.and_eq_true] at hk
  exact h k hk.1
theorem lot_at {n m k : Nat} (h : k < 2 ^ n) : fillAt n k ∈ lot n m ↔ m.testBit k = true := by
  rw [lot_mem (fillAt_length n k), place_fill h]
theorem lot_ext {n m m' : Nat} (h : Low n m) (h' : Low n m') (e : ∀ f, f ∈ lot n m ↔ f ∈ lot n m') : m = m' := by
  refine Nat.eq_of_testBit_eq fun k => ?_
  rw [Bool.eq_iff_iff]
  exact ⟨fun z => (lot_at (h k z)).mp ((e _).mp ((lot_at (h k z)).mpr z)), fun z => (lot_at (h' k z)).mp ((e _).mpr ((lot_at (h' k z)).mpr z))⟩
theorem lot_zero (n : Nat) : lot n 0 = [] := by simp [lot]
theorem lot_nil {n m : Nat} (h : Low n m) : m = 0 ↔ lot n m = [] :=
  ⟨fun e => by rw [e, lot_zero], fun e => lot_ext h (fun k hk => by simp at hk) fun f => by rw [e, lot_zero]⟩
def waysAt (L : List (List Bool)) (i : Nat) : List Bool := NDS.waysOf fun t => decide (t ∈ L.map fun f => f.getD i false)
def one1 (L : List (List Bool)) (p : Str × Nat) : Option (Str × Bool) := match waysAt L p.2 with
  | [t] => some (p.1, t)
  | _ => none
def setd (ns : List Str) (L : List (List Bool)) : List (Str × Bool) := ns.zipIdx.filterMap (one1 L)
theorem zip_look {ns : List Str} {f : List Bool} {i : Nat} {x : Str} (nd : ns.Nodup) (h : f.length = ns.length) (hx : ns[i]? = some x) : (ns.zip f).lookup x = some (f.getD i false) := by
  have hi := (List.getElem?_eq_some_iff.mp hx).1
  have m : (x, f.getD i false) ∈ ns.zip f := by
    refine List.mem_of_getElem? (i := i) ?_
    rw [List.getElem?_zip_eq_some]
    refine ⟨hx, ?_⟩
    simp [List.getD_eq_getElem?_getD, show i < f.length by omega]
  exact mem_lookup (p := (x, f.getD i false)) (by rw [zip_keys h]; exact nd) m
theorem fit1 {ns : List Str} {f : List Bool} {i : Nat} {x : Str} {t : Bool} (nd : ns.Nodup) (h : f.length = ns.length) (hx : ns[i]? = some x) : fitsP ns f [(x, t)] = (f.getD i false == t) := by
  rw [fitsP, List.all_cons, List.all_nil, Bool.and_true, zip_look nd h hx]
  simp
theorem pairs1 {ns : List Str} {x : Str} {t : Bool} (hx : x ∈ ns) : Pairs ns [(x, t)] := ⟨by simp, by simpa using hx⟩
theorem filter_ne {α : Type} {p : α → Bool} {l : List α} : l.filter p ≠ [] ↔ ∃ x ∈ l, p x = true := by
  rw [ne_eq, List.filter_eq_nil_iff]
  exact ⟨fun h => Classical.byContradiction fun z => h fun a ha hp => z ⟨a, ha, hp⟩, fun ⟨x, hx, hp⟩ h => h x hx hp⟩
theorem and_ne {ns : List Str} {ps : List (Str × Bool)} {m : Nat} (nd : ns.Nodup) (pr : Pairs ns ps) (h : Low ns.length m) : (m &&& maskN (wants ns ps)) ≠ 0 ↔ ∃ f ∈ lot ns.length m, fitsP ns f ps = true := by
  rw [ne_eq, lot_nil (low_fitted h _), lot_fitted nd pr]
  exact filter_ne
theorem way_iff {ns : List Str} {m i : Nat} {x : Str} {t : Bool} (nd : ns.Nodup) (h : Low ns.length m) (hx : ns[i]? = some x) : (m &&& maskN (wants ns [(x, t)])) ≠ 0 ↔ t ∈ (lot ns.length m).map fun f => f.getD i false := by
  rw [and_ne nd (pairs1 (List.mem_of_getElem? hx)) h, List.mem_map]
  exact ⟨fun ⟨f, hf, e⟩ => ⟨f, hf, by rw [fit1 nd (lot_fill hf) hx] at e; exact beq_iff_eq.mp e⟩, fun ⟨f, hf, e⟩ => ⟨f, hf, by rw [fit1 nd (lot_fill hf) hx]; exact beq_iff_eq.mpr e⟩⟩
theorem setd_mem {ns : List Str} {L : List (List Bool)} {p : Str × Bool} : p ∈ setd ns L ↔ ∃ i, ns[i]? = some p.1 ∧ waysAt L i = [p.2] := by
  rw [setd, List.mem_filterMap]
  constructor
  · rintro ⟨⟨x, i⟩, hm, e⟩
    have hx := List.mem_zipIdx_iff_getElem?.mp hm
    unfold one1 at e
    split at e
    · rename_i t ht
      cases e
      exact ⟨i, hx, ht⟩
    · cases e
  · rintro ⟨i, hx, hw⟩
    exact ⟨(p.1, i), List.mem_zipIdx_iff_getElem?.mpr hx, by unfold one1; rw [hw]⟩
theorem setd_keys (ns : List Str) (L : List (List Bool)) : ((setd ns L).map (·.1)).Sublist ns := by
  have h : ∀ l : List (Str × Nat), ((l.filterMap (one1 L)).map (·.1)).Sublist (l.map (·.1)) := by
    intro l
    induction l with
    | nil => exact List.Sublist.refl _
    | cons p l ih =>
      rw [List.filterMap_cons]
      unfold one1
      split
      · exact ih.cons _
      · rename_i q hq
        split at hq
        · cases hq; exact ih.cons₂ _
        · cases hq
  have := h ns.zipIdx
  rw [List.zipIdx_map_fst] at this
  exact this
theorem setd_pairs {ns : List Str} (nd : ns.Nodup) (L : List (List Bool)) : Pairs ns (setd ns L) :=
  ⟨(setd_keys ns L).nodup nd, fun p hp => (setd_keys ns L).subset (List.mem_map_of_mem hp)⟩
theorem setd_len (ns : List Str) (L : List (List Bool)) : (setd ns L).length ≤ ns.length := by
  have := (setd_keys ns L).length_le
  simpa using this
theorem ways_iff {L : List (List Bool)} {i : Nat} {t : Bool} : t ∈ waysAt L i ↔ t ∈ L.map fun f => f.getD i false := by
  unfold waysAt NDS.waysOf
  rw [List.mem_filter]
  cases t <;> simp
theorem setd_fits {ns : List Str} {L : List (List Bool)} (nd : ns.Nodup) (hL : ∀ f ∈ L, f.length = ns.length) {f : List Bool} (hf : f ∈ L) : fitsP ns f (setd ns L) = true := by
  rw [fitsP, List.all_eq_true]
  intro p hp
  obtain ⟨i, hx, hw⟩ := setd_mem.mp hp
  rw [zip_look nd (hL f hf) hx]
  have : f.getD i false ∈ waysAt L i := ways_iff.mpr (List.mem_map_of_mem hf)
  rw [hw, List.mem_singleton] at this
  rw [this]
  simp
theorem setd_same {ns : List Str} {m : Nat} (nd : ns.Nodup) (h : Low ns.length m) : m &&& maskN (wants ns (setd ns (lot ns.length m))) = m := by
  refine lot_ext (low_fitted h _) h fun f => ?_
  rw [lot_fitted nd (setd_pairs nd _), List.mem_filter]
  exact ⟨fun z => z.1, fun z => ⟨z, setd_fits nd (fun g hg => lot_fill hg) z⟩⟩
theorem both_ways {ns : List Str} {L : List (List Bool)} {i : Nat} {x : Str} (nd : ns.Nodup) (hx : ns[i]? = some x) (no : x ∉ (setd ns L).map (·.1)) (ne : L ≠ []) (t : Bool) : t ∈ L.map fun f => f.getD i false := by
  obtain ⟨f, hf⟩ := List.exists_mem_of_ne_nil L ne
  have n1 : ∀ b, waysAt L i ≠ [b] := fun b hb => no (List.mem_map.mpr ⟨(x, b), setd_mem.mpr ⟨i, hx, hb⟩, rfl⟩)
  have m1 : f.getD i false ∈ waysAt L i := ways_iff.mpr (List.mem_map_of_mem hf)
  rw [← ways_iff]
  have nt := n1 true
  have nf := n1 false
  revert m1 nt nf
  unfold waysAt NDS.waysOf
  cases decide (true ∈ L.map fun f => f.getD i false) with
  | true =>
    cases h2 : decide (false ∈ L.map fun f => f.getD i false) with
    | true => intro _ _ _; cases t <;> simp_all
    | false => intro _ nt _; simp_all
  | false =>
    cases h2 : decide (false ∈ L.map fun f => f.getD i false) with
    | true => intro _ nt nf; simp_all
    | false => intro m1 _ _; simp_all
end NA
set_option maxHeartbeats 4000000
namespace ND
open PySem L2
section
variable {S : Store} {E : XP} {Q : D → Store → Prop} {τ : DSt}
@[simp] theorem ev_mTupM {f : D → List D → M D} {mo : EM} {ms : AM} : Ev (mTupM f mo ms τ) S E Q = Ev (mo τ) S E fun x S1 => Ev (isTp x) S1 E fun _ S2 => Ev (ms τ) S2 E fun xs S3 => Ev (f x xs) S3 E Q := by unfold mTupM; simp only [ev_bind]
@[simp] theorem ev_isTp {xs : List D} {PU : Unit → Store → Prop} : Ev (isTp (.tup xs)) S E PU = PU () S := rfl
@[simp] theorem ev_zipL {xs ys : List D} {PL : List D → Store → Prop} : Ev (zipD [.lst xs, .lst ys]) S E PL = PL (List.zipWith pairD xs ys) S := rfl
theorem strsOf_names : ∀ ns : List Str, strsOf (ns.map D.str) = some ns
  | [] => rfl
  | x :: ns => by rw [List.map_cons, strsOf, strsOf_names ns]; rfl
theorem ev_indexT {ns : List Str} {x : Str} {j : Nat} (h : idxS x ns 0 = some j) : Ev (indexTD (.tup (ns.map D.str)) [.str x]) S E Q = Q (.int (j : Int)) S := by
  have e : indexTD (.tup (ns.map D.str)) [.str x] = pure (.int (j : Int)) := by
    show optD (indexO (ns.map D.str) x) = _
    unfold indexO
    rw [strsOf_names, Option.bind_some, h]
    rfl
  rw [e]; rfl
theorem idxS_mem {x : Str} : ∀ {ns : List Str} {j : Nat}, (idxS x ns j).isSome = decide (x ∈ ns)
  | [], _ => by simp [idxS]
  | y :: ns, j => by
    unfold idxS
    by_cases e : y = x
    · simp [e]
    · rw [if_neg e, idxS_mem]
      have : x ≠ y := fun z => e z.symm
      simp [this]
end
end ND
namespace NA
open PySem L2 ND NM
section
variable {S : Store} {E : XP} {Q : D → Store → Prop} {ns : List Str} {d : D}
theorem pys_names : ∀ ns : List Str, pys (ns.map D.str) = some (ns.map PyData.str)
  | [] => rfl
  | x :: ns => by rw [List.map_cons, pys, pys_names ns]; rfl
theorem depth_names : ∀ ns : List Str, PyData.depthAll (ns.map PyData.str) ≤ 2
  | [] => by simp [PyData.depthAll]
  | b :: f => by
    have := depth_names f
    rw [List.map_cons, PyData.depthAll]
    simp only [PyData.depth]
    omega
theorem pyD_names (ns : List Str) : pyD S (.tup (ns.map D.str)) = some (.tuple (ns.map .str)) := by
  have := depth_names ns
  unfold pyD
  show (match py (.tup (ns.map D.str)) with | some z => if z.depth ≤ 64 then some z else none | none => none) = _
  rw [py, pys_names]
  exact if_pos (by show PyData.depth _ ≤ 64; rw [PyData.depth]; omega)
theorem in_names_ev {neg : Bool} {x : Str} : Ev (inD neg (.str x) (.tup (ns.map D.str))) S E Q = Q (.bl (if neg then !decide (x ∈ ns) else decide (x ∈ ns))) S := by
  have e : inB (.str x) (.tup (ns.map D.str)) S = some (decide (x ∈ ns)) := by
    have h1 : pyD S (.str x) = some (.str x) := rfl
    show (match pyD S (.str x), pyD S (.tup (ns.map D.str)) with
      | some a, some (.tuple ds) => if flatP a && ds.all flatP then some (ds.any fun z => PyData.eqv z a) else none
      | _, _ => none) = _
    rw [h1, pyD_names]
    have fl : (flatP (.str x) && (ns.map PyData.str).all flatP) = true := by
      rw [List.all_map, Bool.and_eq_true]
      exact ⟨rfl, List.all_eq_true.mpr fun _ _ => rfl⟩
    show (if (flatP (.str x) && (ns.map PyData.str).all flatP) = true then some ((ns.map PyData.str).any fun z => PyData.eqv z (.str x)) else none) = _
    rw [if_pos fl]
    congr 1
    rw [List.any_map, Bool.eq_iff_iff, List.any_eq_true, decide_eq_true_iff]
    constructor
    · rintro ⟨y, hy, e⟩
      have e' : PyData.eqv (.str y) (.str x) = true := e
      rw [PyData.eqv] at e'
      rw [← eq_of_beq e']; exact hy
    · intro h
      exact ⟨x, h, by show PyData.eqv (.str x) (.str x) = true; rw [PyData.eqv]; exact beq_self_eq_true x⟩
  unfold Ev inD
  rw [e]
def pairAt (ns : List Str) (d : D) : Option Nat := match d with
  | .tup [.str x, .bl _] => idxS x ns 0
  | _ => none
def chk (ns : List Str) : Int → List D → Bool
  | _, [] => true
  | l, d :: ds => match pairAt ns d with
    | some j => decide (l < (j : Int)) && chk ns (j : Int) ds
    | none => false
def areP (ns : List Str) (d : D) : Bool := match d with
  | .tup xs => chk ns (-1) xs
  | _ => false
theorem pairAt_isSome (ns : List Str) (x y : D) : (pairAt ns (.tup [x, y])).isSome = true → ∃ z b, x = .str z ∧ y = .bl b ∧ z ∈ ns := by
  intro h
  cases x with
  | str z =>
    cases y with
    | bl b =>
      refine ⟨z, b, rfl, rfl, ?_⟩
      rw [show pairAt ns (.tup [.str z, .bl b]) = idxS z ns 0 from rfl, idxS_mem] at h
      exact of_decide_eq_true h
    | _ => cases h
  | _ => cases h
theorem is_pair_ev (hN : ∀ x ∈ ns, isN (.str x) = true) (h : Sd d) (q : Q (.bl (pairAt ns d).isSome) S) : Ev (m_is_pair [.tup (ns.map D.str), d]) S E Q := by
  unfold m_is_pair
  rw [ev_fn]
  unfold b_is_pair
  cases h with
  | tup hx hlx =>
    rename_i xs
    match xs, hx, q with
    | [], _, q => simpa [startD, dr, tyNm, pairAt] using q
    | [x], _, q => simpa [startD, dr, tyNm, pairAt] using q
    | x :: y :: w :: zs, _, q =>
      simp [startD, dr, tyNm]
      have e : ¬((zs.length : Int) + 1 + 1 + 1 = 2) := by omega
      simpa [e, pairAt] using q
    | [x, y], hx, q =>
      simp [startD, dr, tyNm]
      refine is_name_ev (hx x (by simp)) ?_
      cases hn : isN x with
      | false =>
        have e : (pairAt ns (.tup [x, y])).isSome = false := by
          cases hp : (pairAt ns (.tup [x, y])).isSome with
          | false => rfl
          | true =>
            obtain ⟨z, b, rfl, rfl, hz⟩ := pairAt_isSome _ _ _ hp
            rw [hN z hz] at hn; cases hn
        rw [e] at q
        simpa using q
      | true =>
        obtain ⟨z, rfl⟩ := isN_is hn
        have sy := hx y (by simp)
        cases sy with
        | bl b =>
          simp
          rw [in_names_ev]
          rw [show pairAt ns (.tup [.str z, .bl b]) = idxS z ns 0 from rfl, idxS_mem] at q
          exact q
        | _ => simpa [pairAt] using q
  | _ => simpa [startD, dr, tyNm, pairAt] using q
theorem law_are_pairs_ev (h : Sd d) (q : ∀ T, Q (.bl (areP ns d)) (S ++ T)) : Ev (m_law_are_pairs [.tup (ns.map D.str), d]) S E Q := by
  unfold m_law_are_pairs
  rw [ev_fn]
  unfold b_law_are_pairs
  have z : 2000 < sizeLine := by rw [sizeLine_eq]; decide
  cases h with
  | tup hx hlx =>
    rename_i xs
    simp [startD, dr, tyNm]
    refine ⟨by omega, ?_⟩
    refine evr_loop (fun i τ S' => ∃ v3 ps l, τ = [some (.tup (ns.map D.str)), some (.tup xs), some (.cel S.length), v3] ∧ S' = S ++ [.lst (ps ++ [.int l])] ∧ ps.length ≤ i ∧ areP ns (.tup xs) = chk ns l (xs.drop i)) (k := 0) ⟨none, [], -1, rfl, rfl, by simp, rfl⟩ (fun i x τ S1 hxi hi => ?_) (fun τ S1 hi => ?_)
    · obtain ⟨v3, ps, l, rfl, rfl, hp, hc⟩ := hi
      refine ⟨_, bind_nm, ?_⟩
      have sx := hx x (List.mem_of_getElem? hxi)
      have hi := (List.getElem?_eq_some_iff.mp hxi).1
      have ed : xs.drop (0 + i) = x :: xs.drop (i + 1) := by
        rw [Nat.zero_add, List.drop_eq_getElem_cons hi]
        congr 1
        exact (List.getElem?_eq_some_iff.mp hxi).2
      rw [ed, chk] at hc
      have qf : areP ns (.tup xs) = false → ∀ T, Q (.bl false) (S ++ T) := fun e T => by have := q T; rwa [e] at this
      have hS : (S ++ [Cell.lst (ps ++ [D.int l])])[S.length]? = some (.lst (ps ++ [D.int l])) := by simp
      cases sx with
      | tup hy hly =>
        rename_i ys
        match ys, hy, hc with
        | [], _, hc => simpa [dr, tyNm] using qf (hc.trans (by simp [pairAt])) _
        | [a], _, hc => simpa [dr, tyNm] using qf (hc.trans (by simp [pairAt])) _
        | a :: b :: w :: zs, _, hc =>
          simp [dr, tyNm]
          have e : ¬((zs.length : Int) + 1 + 1 + 1 = 2) := by omega
          simpa [e] using qf (hc.trans (by simp [pairAt])) _
        | [a, b], hy, hc =>
          have sa := hy a (by simp)
          have sb := hy b (by simp)
          cases sb with
          | bl b =>
            cases sa with
            | str y =>
              simp [dr, tyNm]
              rw [in_names_ev]
              have ep : pairAt ns (.tup [.str y, .bl b]) = idxS y ns 0 := rfl
              have em := idxS_mem (x := y) (ns := ns) (j := 0)
              cases hj : idxS y ns 0 with
              | none =>
                rw [hj] at em
                rw [ep, hj] at hc
                simp [← em]
                exact qf hc _
              | some j =>
                rw [hj] at em
                rw [ep, hj] at hc
                simp [← em]
                rw [ev_indexT hj, hS]
                have at_ : atI (ps ++ [D.int l]) (-1) = some (.int l) := by
                  have e : ixN (ps ++ [D.int l]).length (-1) = some ps.length := by unfold ixN; simp; try omega
                  unfold atI; rw [e]; simp
                show ∃ d, atI (ps ++ [D.int l]) (-1) = some d ∧ _
                refine ⟨_, at_, ?_⟩
                have hc : areP ns (.tup xs) = (decide (l < (j : Int)) && chk ns (j : Int) (xs.drop (i + 1))) := hc
                by_cases lt : l < (j : Int)
                · rw [decide_eq_true lt, Bool.true_and] at hc
                  have nle : ¬((j : Int) ≤ l) := by omega
                  simp [nle]
                  rw [ev_indexT hj]
                  refine ⟨_, hS, by simp; omega, ps ++ [.int l], j, by simp, by simp; omega, hc⟩
                · rw [decide_eq_false lt, Bool.false_and] at hc
                  have le : (j : Int) ≤ l := by omega
                  simpa [le] using qf hc _
            | _ => simpa [dr, tyNm] using qf (hc.trans (by simp [pairAt])) _
          | _ => simpa [dr, tyNm] using qf (hc.trans (by simp [pairAt])) _
      | _ => simpa [dr, tyNm] using qf (hc.trans (by simp [pairAt])) _
    · obtain ⟨v3, ps, l, rfl, rfl, hp, hc⟩ := hi
      simp
      have e : areP ns (.tup xs) = true := by rw [hc, Nat.zero_add, List.drop_length]; rfl
      rw [e] at q
      exact q _
  | _ => simpa [startD, dr, tyNm, areP] using q []
end
end NA
set_option maxHeartbeats 4000000
namespace NA
open PySem L2 ND NM
section
variable {S : Store} {E : XP} {Q : D → Store → Prop} {τ : DSt}
@[simp] theorem ev_mEnum {ms : AM} {PL : List D → Store → Prop} : Ev (mEnum ms τ) S E PL = Ev (ms τ) S E fun x S1 => Ev (enumD x) S1 E PL := by unfold mEnum; rw [ev_bind]
@[simp] theorem ev_enumT {xs : List D} {PL : List D → Store → Prop} : Ev (enumD [.tup xs]) S E PL = PL (enumL 0 xs) S := rfl
@[simp] theorem ev_mSortSetB {m : EM} : Ev (mSortSetB m τ) S E Q = Ev (m τ) S E fun x S1 => Ev (sortSetBD x) S1 E Q := by unfold mSortSetB; rw [ev_bind]
theorem ev_sortSetB {bs : List Bool} (h : bs.length ≤ 1024) : Ev (sortSetBD (.lst (bs.map D.bl))) S E Q = Q (.lst ((NDS.waysOf fun j => decide (j ∈ bs)).map D.bl)) S := by
  unfold Ev sortSetBD
  simp only [dr, blsOf_map]
  rw [if_pos h]
@[simp] theorem ev_mTruO {C : Str} {f : List D → M D} {m : EM} {PB : Bool → Store → Prop} : Ev (mTruO C f m τ) S E PB = Ev (m τ) S E fun x S1 => Ev (truOD C f x) S1 E PB := by unfold mTruO; rw [ev_bind]
theorem ext_app (n : Nat) (S T : Store) : Ext n S (S ++ T) := ⟨by simp, fun m h _ => List.getElem?_append_left h⟩
theorem bagApp {n : Nat} {S : Store} (b : Bag S n) (T : Store) : Bag (S ++ T) n := by
  obtain ⟨g, x, h, r⟩ := b
  exact ⟨g, x, by rw [List.getElem?_append_left (List.getElem?_eq_some_iff.mp h).1]; exact h, r⟩
theorem lotApp {l m : Nat} {ns : List Str} {S : Store} (h : IsLot S l ns m) (T : Store) : IsLot (S ++ T) l ns m := by
  unfold IsLot; rw [List.getElem?_append_left h.lt]; exact h
def pyP (p : Str × Bool) : PyData := .tuple [.str p.1, .bool p.2]
theorem pys_pairs : ∀ ps : List (Str × Bool), pys (ps.map fun p => D.tup [.str p.1, .bl p.2]) = some (ps.map pyP)
  | [] => rfl
  | x :: ns => by rw [List.map_cons, pys, pys_pairs ns]; rfl
theorem depth_pairs : ∀ ps : List (Str × Bool), PyData.depthAll (ps.map pyP) ≤ 4
  | [] => by simp [PyData.depthAll]
  | b :: f => by
    have := depth_pairs f
    have h : (pyP b).depth ≤ 4 := by simp [pyP, PyData.depth, PyData.depthAll]
    rw [List.map_cons, PyData.depthAll]
    omega
theorem pyD_pairs {ps : List (Str × Bool)} : pyD S (pairsT ps) = some (.tuple (ps.map pyP)) := by
  have := depth_pairs ps
  unfold pyD
  show (match py (.tup (ps.map fun p => D.tup [.str p.1, .bl p.2])) with | some z => if z.depth ≤ 64 then some z else none | none => none) = _
  rw [py, pys_pairs]
  exact if_pos (by show PyData.depth _ ≤ 64; rw [PyData.depth]; omega)
theorem eqv_pair (p q : Str × Bool) : PyData.eqv (pyP p) (pyP q) = decide (p = q) := by
  obtain ⟨x, a⟩ := p
  obtain ⟨y, b⟩ := q
  have e : PyData.eqv (pyP (x, a)) (pyP (y, b)) = ((x == y) && ((a == b) && true)) := by
    simp only [pyP, PyData.eqv, PyData.eqvAll]
  rw [e, Bool.and_true, Bool.eq_iff_iff, Bool.and_eq_true, beq_iff_eq, beq_iff_eq, decide_eq_true_iff, Prod.mk.injEq]
theorem eqv_pairsAll : ∀ f g : List (Str × Bool), PyData.eqvAll (f.map pyP) (g.map pyP) = decide (f = g)
  | [], [] => by simp [PyData.eqvAll]
  | [], _ :: _ => by simp [PyData.eqvAll]
  | _ :: _, [] => by simp [PyData.eqvAll]
  | x :: f, y :: g => by
    rw [List.map_cons, List.map_cons, PyData.eqvAll, eqv_pair, eqv_pairsAll f g]
    by_cases h1 : x = y <;> by_cases h2 : f = g <;> simp [h1, h2]
theorem eq_pairs_ev {neg : Bool} {ps qs : List (Str × Bool)} : Ev (eqvD neg (pairsT ps) (pairsT qs)) S E Q = Q (.bl (if neg then !decide (ps = qs) else decide (ps = qs))) S := by
  rw [ev_eq pyD_pairs pyD_pairs, PyData.eqv, eqv_pairsAll]
theorem pairs0_ev {neg : Bool} {ps : List (Str × Bool)} : Ev (eqvD neg (pairsT ps) (.tup [])) S E Q = Q (.bl (if neg then !decide (ps = []) else decide (ps = []))) S := eq_pairs_ev (qs := [])
theorem eqv_namesAll : ∀ f g : List Str, PyData.eqvAll (f.map PyData.str) (g.map PyData.str) = decide (f = g)
  | [], [] => by simp [PyData.eqvAll]
  | [], _ :: _ => by simp [PyData.eqvAll]
  | _ :: _, [] => by simp [PyData.eqvAll]
  | x :: f, y :: g => by
    rw [List.map_cons, List.map_cons, PyData.eqvAll, eqv_namesAll f g]
    have : PyData.eqv (.str x) (.str y) = (x == y) := by simp only [PyData.eqv]
    rw [this]
    by_cases h1 : x = y <;> by_cases h2 : f = g <;> simp [h1, h2]
theorem eq_names_ev {neg : Bool} {ps qs : List Str} : Ev (eqvD neg (.tup (ps.map D.str)) (.tup (qs.map D.str))) S E Q = Q (.bl (if neg then !decide (ps = qs) else decide (ps = qs))) S := by
  rw [ev_eq (pyD_names _) (pyD_names _), PyData.eqv, eqv_namesAll]
theorem names0_ev {neg : Bool} {ns : List Str} : Ev (eqvD neg (.tup (ns.map D.str)) (.tup [])) S E Q = Q (.bl (if neg then !decide (ns = []) else decide (ns = []))) S := eq_names_ev (qs := [])
theorem in_list_ev {neg : Bool} {x : Str} {ns : List Str} : Ev (inD neg (.str x) (.lst (ns.map D.str))) S E Q = Q (.bl (if neg then !decide (x ∈ ns) else decide (x ∈ ns))) S := by
  have e : inB (.str x) (.lst (ns.map D.str)) S = some (decide (x ∈ ns)) := by
    have h2 : pyD S (.lst (ns.map D.str)) = some (.list (ns.map PyData.str)) := by
      have h3 := pyD_names (S := S) ns
      unfold pyD at h3 ⊢
      simp only [dr, py] at h3 ⊢
      cases q : pys (ns.map D.str) with
      | none => rw [q] at h3; cases h3
      | some zs =>
        rw [q] at h3
        simp only [Option.map_some] at h3 ⊢
        have hd : (PyData.list zs).depth = (PyData.tuple zs).depth := by simp [PyData.depth]
        rw [hd]
        split at h3
        · rename_i hh
          rw [if_pos hh]
          cases h3
          rfl
        · cases h3
    have h1 : pyD S (.str x) = some (.str x) := rfl
    show (match pyD S (.str x), pyD S (.lst (ns.map D.str)) with
      | some a, some (.list ds) => some (ds.any fun z => PyData.eqv z a)
      | _, _ => none) = _
    rw [h1, h2]
    show some ((ns.map PyData.str).any fun z => PyData.eqv z (.str x)) = _
    congr 1
    rw [List.any_map, Bool.eq_iff_iff, List.any_eq_true, decide_eq_true_iff]
    constructor
    · rintro ⟨y, hy, e⟩
      have e2 : (y == x) = true := by simpa [PyData.eqv] using e
      rw [← beq_iff_eq.mp e2]; exact hy
    · intro hx
      exact ⟨x, hx, by simp [PyData.eqv]⟩
  unfold Ev inD
  rw [e]
theorem eqO_ev {C : Str} {f : List D → M D} {n n' : Nat} {fs fs' : List (Str × D)} (h : S[n]? = some (.ins C fs)) (h' : S[n']? = some (.ins C fs')) : Ev (eqOD C f (.cel n) (.cel n')) S E Q = Ev (noErr (f [.cel n, .cel n'])) S E fun d S1 => Ev (asB d) S1 E fun b S2 => Q (.bl b) S2 := by
  have e : eqOD C f (.cel n) (.cel n') S = (ownD C f (.cel n) [.cel n'] >>= asB >>= fun b => (pure (D.bl b) : M D)) S := by
    unfold eqOD
    simp only [dr, h', if_true]
  have e2 : Ev (eqOD C f (.cel n) (.cel n')) S E Q = Ev (ownD C f (.cel n) [.cel n'] >>= asB >>= fun b => (pure (D.bl b) : M D)) S E Q := by
    unfold Ev; rw [e]
  rw [e2, ev_bind, ev_bind, ev_ownD h]
  rfl
theorem lot_eq_ev {ns ns' : List Str} {n m n' m' : Nat} (lt : IsLot S n ns m) (lt' : IsLot S n' ns' m') (q : Q (.bl (decide (ns = ns' ∧ m = m'))) S) : Ev (m_Lot____eq__ [.cel n, .cel n']) S E Q := by
  unfold m_Lot____eq__
  rw [ev_fn]
  unfold b_Lot____eq__
  have ic : ∀ (E : XP) (Q : D → Store → Prop), Ev (isiCD "Lot" (.cel n')) S E Q = Q (.bl true) S := fun E Q => by
    unfold Ev isiCD
    have : dr S (.cel n') = .obj "Lot" (lotF ns' m') := by simp only [dr, show S[n']? = _ from lt']
    rw [this]
    simp
  simp [startD, ic, lt.names, lt'.names]
  rw [eq_names_ev]
  simp
  by_cases h1 : ns = ns'
  · simp [h1, lt.mask, lt'.mask]
    simp [h1] at q
    have e : ((m : Int) == (m' : Int)) = decide (m = m') := by
      rw [Bool.eq_iff_iff, beq_iff_eq, decide_eq_true_iff]; omega
    rw [e]
    exact q
  · simp [h1]
    simpa [h1] using q
end
end NA
set_option maxHeartbeats 4000000
namespace ND
open PySem L2
section
variable {S : Store} {E : XP} {Q : D → Store → Prop} {τ : DSt} {ER : Str → List (Str × D) → DSt → Store → Prop} {PR : Flow → Store → Prop}
theorem evr_while {t : TM} {b : SM} (Inv : Nat → DSt → Store → Prop) (step : ∀ k τ S, Inv k τ S → Ev (t τ) S (fun C fs S' => ER C fs τ S') fun c S1 => if c = true then EvR (b τ S1) ER (fun f S2 => match f with
      | .nx τ' => ∃ j, j < k ∧ Inv j τ' S2
      | .ct τ' => ∃ j, j < k ∧ Inv j τ' S2
      | .bk τ' => PR (.nx τ') S2
      | .rt d => PR (.rt d) S2) else PR (.nx τ) S1) : ∀ {n k : Nat} {τ : DSt} {S : Store}, k < n → Inv k τ S → EvR (whileL t b n τ S) ER PR
  | 0, k, τ, S, h, _ => absurd h (Nat.not_lt_zero _)
  | n + 1, k, τ, S, h, inv => by
    have s1 := step k τ S inv
    unfold whileL
    rw [evr_of]
    refine s1.mono (fun c S1 hc => ?_) (fun _ _ _ z => z)
    cases c with
    | false => exact hc
    | true =>
      rw [if_pos rfl] at hc ⊢
      cases e2 : b τ S1 with
      | ok f S2 =>
        rw [e2] at hc
        cases f with
        | nx τ2 => obtain ⟨j, hj, i2⟩ := hc; exact evr_while Inv step (by omega) i2
        | ct τ2 => obtain ⟨j, hj, i2⟩ := hc; exact evr_while Inv step (by omega) i2
        | bk τ2 => exact hc
        | rt d => exact hc
      | err C fs τ2 S2 => rw [e2] at hc; exact hc
      | bad => rw [e2] at hc; exact hc
theorem ev_popI {n j : Nat} {xs : List D} {y : D} (h : S[n]? = some (.lst xs)) (hj : xs[j]? = some y) (hl : xs.length ≤ 100000) : Ev (popD (.cel n) [.int (j : Int)]) S E Q = Q y (S.set n (.lst (xs.eraseIdx j))) := by
  have hlt := (List.getElem?_eq_some_iff.mp hj).1
  have e : seqIndex? (j : Int) xs.length = some j := by
    unfold seqIndex?
    simp
    omega
  have e2 : okP (-(2 ^ 63) ≤ (j : Int) ∧ (j : Int) < 2 ^ 63) = true := okP_iff.mpr ⟨by omega, by omega⟩
  unfold Ev popD
  simp only [h, e2, if_true, e, hj]
@[simp] theorem ev_mFixV {m : EM} : Ev (mFix m τ) S E Q = Ev (m τ) S E fun x S1 => Ev (fixD x) S1 E Q := ev_fix m
theorem ev_fixC {n : Nat} {xs : List D} (h : S[n]? = some (.lst xs)) : Ev (fixD (.cel n)) S E Q = Q (.lst xs) (S.set n (.fz (.lst xs))) := by
  unfold Ev fixD
  simp only [h]
theorem ev_fixZ {n : Nat} {d : D} (h : S[n]? = some (.fz d)) : Ev (fixD (.cel n)) S E Q = Q d S := by
  unfold Ev fixD
  simp only [h]
@[simp] theorem ev_revL {xs : List D} : Ev (revLD (.lst xs)) S E Q = Q (.lst xs.reverse) S := rfl
end
end ND
namespace NM
theorem fold_place (f : List Bool) : ∀ p : Nat, f.foldl (fun p b => 2 * p + b.toNat) p = p * 2 ^ f.length + placeOf f := by
  unfold placeOf
  induction f with
  | nil => intro p; simp
  | cons b f ih =>
    intro p
    rw [List.foldl_cons, ih, List.foldl_cons, ih (2 * 0 + b.toNat), List.length_cons, Nat.pow_succ]
    rw [Nat.mul_zero, Nat.zero_add, Nat.add_mul, Nat.mul_comm 2 p, Nat.mul_assoc, Nat.mul_comm (2 ^ f.length) 2, Nat.add_assoc]
theorem place_cons (b : Bool) (f : List Bool) : placeOf (b :: f) = b.toNat * 2 ^ f.length + placeOf f := by
  have := fold_place f (2 * 0 + b.toNat)
  rw [Nat.mul_zero, Nat.zero_add] at this
  rw [← this]
  show List.foldl _ _ _ = _
  rw [List.foldl_cons, Nat.mul_zero, Nat.zero_add]
theorem place_inj {f g : List Bool} (hl : f.length = g.length) (h : placeOf f = placeOf g) : f = g := by
  rw [← fill_place f, ← fill_place g, hl, h]
theorem lot_rise (n m : Nat) : (lot n m).Pairwise fun f g => placeOf f < placeOf g := by
  unfold lot
  rw [List.pairwise_map]
  refine List.Pairwise.imp_of_mem ?_ (List.Pairwise.filter _ List.pairwise_lt_range)
  intro a b ha hb h
  have ha := List.mem_range.mp (List.mem_filter.mp ha).1
  have hb := List.mem_range.mp (List.mem_filter.mp hb).1
  rw [place_fill ha, place_fill hb]
  exact h
theorem lot_nodup (n m : Nat) : (lot n m).Nodup := (lot_rise n m).imp fun h e => by subst e; omega
theorem filter_one {α : Type} {p : α → Bool} {x : α} : ∀ {l : List α}, l.Nodup → x ∈ l → p x = true → (∀ y ∈ l, p y = true → y = x) → l.filter p = [x]
  | [], _, h, _, _ => absurd h List.not_mem_nil
  | y :: l, nd, h, hp, u => by
    obtain ⟨n1, n2⟩ := List.nodup_cons.mp nd
    by_cases e : y = x
    · subst e
      rw [List.filter_cons_of_pos hp]
      have : l.filter p = [] := List.filter_eq_nil_iff.mpr fun z hz hpz => n1 (by rw [← u z (List.mem_cons_of_mem _ hz) hpz]; exact hz)
      rw [this]
    · have hx : x ∈ l := (List.mem_cons.mp h).elim (fun z => absurd z.symm e) id
      have hy : ¬ p y = true := fun z => e (u y List.mem_cons_self z)
      rw [List.filter_cons_of_neg hy]
      exact filter_one n2 hx hp fun z hz => u z (List.mem_cons_of_mem _ hz)
def leP (f g : List Bool) : Bool := decide (placeOf f ≤ placeOf g)
theorem leP_total : PySem.W.TotalLe leP where
  trans := fun a b c h1 h2 => by unfold leP at *; simp at *; omega
  total := fun a b => by unfold leP; simp; omega
theorem sort_fills {n : Nat} {L M : List (List Bool)} (hL : ∀ f ∈ L, f.length = n) (nd : L.Nodup) (hM : M.Pairwise fun f g => placeOf f < placeOf g) (mem : ∀ f, f ∈ M ↔ f ∈ L) : M = L.mergeSort leP := by
  refine PySem.W.sort_unique leP_total (hM.imp fun h => decide_eq_true (Nat.le_of_lt h)) fun c => ?_
  have ndM : M.Nodup := hM.imp fun h e => by subst e; omega
  have same : ∀ x, PySem.W.sameRank leP c x = true ↔ placeOf c = placeOf x := fun x => by
    unfold PySem.W.sameRank leP
    rw [Bool.and_eq_true, decide_eq_true_iff, decide_eq_true_iff]
    omega
  by_cases ex : ∃ x ∈ L, placeOf c = placeOf x
  · obtain ⟨x, hx, e⟩ := ex
    have uni : ∀ y ∈ L, PySem.W.sameRank leP c y = true → y = x := fun y hy hp => place_inj (by rw [hL y hy, hL x hx]) (((same y).mp hp).symm.trans e)
    rw [filter_one nd hx ((same x).mpr e) uni, filter_one ndM ((mem x).mpr hx) ((same x).mpr e) fun y hy => uni y ((mem y).mp hy)]
  · have no : ∀ K : List (List Bool), (∀ f ∈ K, f ∈ L) → K.filter (PySem.W.sameRank leP c) = [] := fun K hK => List.filter_eq_nil_iff.mpr fun x hx hp => ex ⟨x, hK x hx, (same x).mp hp⟩
    rw [no L fun f h => h, no M fun f h => (mem f).mp h]
end NM
namespace NA
open PySem L2 ND NM
open PySem.W in
theorem lt_fill : ∀ {f g : List Bool}, f.length = g.length → dataLt (pyF f) (pyF g) = decide (NM.placeOf f < NM.placeOf g)
  | [], [], _ => by show dataLt (.tuple []) (.tuple []) = _; decide
  | a :: f, b :: g, h => by
    have hl : f.length = g.length := by simpa using h
    have ih := lt_fill hl
    unfold pyF at ih ⊢
    rw [dataLt_tuple] at ih ⊢
    rw [List.map_cons, List.map_cons, place_cons, place_cons]
    have al : alike (.bool a) (.bool b) = true := by simp [alike]
    have lf := place_lt f
    have lg := place_lt g
    rw [hl] at lf
    have ev : PyData.eqv (.bool a) (.bool b) = (a == b) := by cases a <;> cases b <;> rfl
    by_cases e : a = b
    · subst e
      rw [dataLt_all_yes al (by rw [ev]; simp), ih, hl]
      congr 1
      simp
    · rw [dataLt_all_no al (by rw [ev]; simpa using e), dataLt_bool, hl]
      cases a <;> cases b <;> simp at e ⊢ <;> (try simp [PyProof.Rows.b2i]) <;> omega
  | [], _ :: _, h => by simp at h
  | _ :: _, [], h => by simp at h
open PySem.W in
theorem sortBy_fills {n : Nat} {L M : List (List Bool)} (hL : ∀ f ∈ L, f.length = n) (nd : L.Nodup) (hM : M.Pairwise fun f g => NM.placeOf f < NM.placeOf g) (mem : ∀ f, f ∈ M ↔ f ∈ L) : NDS.sortBy (L.map fillT) (L.map pyF) = M.map fillT := by
  unfold NDS.sortBy
  have e : (L.map fillT).zip (L.map pyF) = L.map fun f => (fillT f, pyF f) := by
    clear hL nd mem
    induction L with
    | nil => rfl
    | cons f L ih => simp [ih]
  rw [e, ← sort_maps (fun f => (fillT f, pyF f)) (r := leP) (fun a ha b hb => ?_), ← sort_fills hL nd hM mem, List.map_map]
  · rfl
  · have := lt_fill (f := b) (g := a) (by rw [hL a ha, hL b hb])
    show leP a b = !dataLt (pyF b) (pyF a)
    rw [this]
    unfold leP
    rw [Bool.eq_iff_iff]
    simp
theorem able_fills {n : Nat} {L : List (List Bool)} (hL : ∀ f ∈ L, f.length = n) (h0 : n = 0 → L.length ≤ 1) : NDS.SortAble (L.map pyF) := by
  refine ⟨fun d hd d' hd' => ?_, ?_, fun d hd => ?_⟩
  · obtain ⟨f, _, rfl⟩ := List.mem_map.mp hd
    obtain ⟨g, _, rfl⟩ := List.mem_map.mp hd'
    have : ∀ f g : List Bool, PySem.W.alikeAll (f.map PyData.bool) (g.map PyData.bool) = true := by
      intro f
      induction f with
      | nil => intro g; simp [PySem.W.alikeAll]
      | cons b f ih =>
        intro g
        cases g with
        | nil => simp [PySem.W.alikeAll]
        | cons c g => simp [PySem.W.alikeAll, PySem.W.alike, ih g]
    rw [pyF, pyF, PySem.W.alike]
    exact this f g
  · cases n with
    | zero =>
      have := h0 rfl
      match L, hL, this with
      | [], _, _ => exact .inl (.inl (by simp))
      | [f], hL, _ =>
        have : f = [] := List.length_eq_zero_iff.mp (hL f (by simp))
        subst this
        exact .inr rfl
      | _ :: _ :: _, _, h => simp at h
    | succ n =>
      refine .inl (.inl fun d hd => ?_)
      obtain ⟨f, hf, rfl⟩ := List.mem_map.mp hd
      have hl := hL f hf
      cases f with
      | nil => simp at hl
      | cons b f => exact ⟨.bool b, f.map PyData.bool, rfl⟩
  · obtain ⟨f, _, rfl⟩ := List.mem_map.mp hd
    have := depth_fill f
    omega
theorem ev_sortFills {n : Nat} {L M : List (List Bool)} {S : Store} {E : XP} {Q : D → Store → Prop} {x : D} (hx : dr S x = .lst (L.map fillT)) (hL : ∀ f ∈ L, f.length = n) (h0 : n = 0 → L.length ≤ 1) (nd : L.Nodup) (hM : M.Pairwise fun f g => NM.placeOf f < NM.placeOf g) (mem : ∀ f, f ∈ M ↔ f ∈ L) :
    Ev (sortedLD [x]) S E Q = Q (.lst (M.map fillT)) S := by
  unfold Ev sortedLD
  simp only [hx, pys_fills]
  rw [if_pos (okP_iff.mpr (able_fills hL h0)), sortBy_fills hL nd hM mem]
abbrev Deed := Bool × List (Str × Bool)
abbrev deedT (d : Deed) : D := .tup [.bl d.1, pairsT d.2]
def okD (ns : List Str) (f : List Bool) (d : Deed) : Bool := fitsP ns f d.2 != d.1
def stepM (ns : List Str) (m : Nat) (d : Deed) : Nat := if d.1 = true then m - (m &&& maskN (wants ns d.2)) else m &&& maskN (wants ns d.2)
def foldM (ns : List Str) (m : Nat) (ds : List Deed) : Nat := ds.foldl (stepM ns) m
def GoodD (ns : List Str) (ds : List Deed) : Prop := ∀ d ∈ ds, Pairs ns d.2 ∧ d.2.length ≤ 20
theorem low_step {n m : Nat} {ns : List Str} (h : Low n m) (d : Deed) : Low n (stepM ns m d) := by
  unfold stepM
  split
  · exact low_barred h _
  · exact low_fitted h _
theorem low_fold {n : Nat} {ns : List Str} (ds : List Deed) : ∀ {m : Nat}, Low n m → Low n (foldM ns m ds) := by
  unfold foldM
  induction ds with
  | nil => intro m h; exact h
  | cons d ds ih => intro m h; exact ih (low_step h d)
theorem lot_step {ns : List Str} (nd : ns.Nodup) (m : Nat) {d : Deed} (pr : Pairs ns d.2) : lot ns.length (stepM ns m d) = (lot ns.length m).filter fun f => okD ns f d := by
  unfold stepM okD
  split
  · rename_i h; rw [lot_barred nd pr, h]; congr 1; funext f; cases fitsP ns f d.2 <;> rfl
  · rename_i h
    have h : d.1 = false := by simpa using h
    rw [lot_fitted nd pr, h]; congr 1; funext f; cases fitsP ns f d.2 <;> rfl
theorem fold_mem {ns : List Str} (nd : ns.Nodup) {f : List Bool} : ∀ {ds : List Deed} {m : Nat}, GoodD ns ds → (f ∈ lot ns.length (foldM ns m ds) ↔ f ∈ lot ns.length m ∧ ∀ d ∈ ds, okD ns f d = true)
  | [], m, _ => by simp [foldM]
  | d :: ds, m, h => by
    have e : foldM ns m (d :: ds) = foldM ns (stepM ns m d) ds := rfl
    rw [e, fold_mem nd fun x hx => h x (List.mem_cons_of_mem _ hx), lot_step nd m (h d List.mem_cons_self).1, List.mem_filter]
    simp [and_assoc]
theorem fold_same {ns : List Str} (nd : ns.Nodup) {ds es : List Deed} {m : Nat} (lo : Low ns.length m) (h1 : GoodD ns ds) (h2 : GoodD ns es) (h : ∀ d, d ∈ ds ↔ d ∈ es) : foldM ns m ds = foldM ns m es := by
  refine lot_ext (low_fold ds lo) (low_fold es lo) fun f => ?_
  rw [fold_mem nd h1, fold_mem nd h2]
  exact ⟨fun z => ⟨z.1, fun d hd => z.2 d ((h d).mpr hd)⟩, fun z => ⟨z.1, fun d hd => z.2 d ((h d).mp hd)⟩⟩
end NA
set_option maxHeartbeats 4000000
namespace NA
open PySem L2 ND NM
section
variable {S : Store} {E : XP} {Q : D → Store → Prop} {τ : DSt}
theorem map_at {α β : Type} {f : α → β} {l : List α} {i : Nat} {d : β} (h : (l.map f)[i]? = some d) : ∃ x, l[i]? = some x ∧ d = f x := by
  rw [List.getElem?_map] at h
  cases e : l[i]? with
  | none => rw [e] at h; cases h
  | some k => rw [e] at h; cases h; exact ⟨k, rfl, rfl⟩
theorem truth_lot {l m : Nat} {ns : List Str} (hl : ns.length ≤ 10) (lt : IsLot S l ns m) {PB : Bool → Store → Prop} (q : ∀ T, PB (!decide (lot ns.length m = [])) (S ++ T)) : Ev (truOD "Lot" m_Lot____len__ (.cel l)) S E PB := by
  rw [ev_truO lt]
  refine ev_noErr (len_ev hl lt ?_)
  have hlen := lot_len_lt ns.length m hl
  rw [ev_truOf]
  refine ⟨⟨by omega, by omega⟩, ?_⟩
  have e : (((lot ns.length m).length : Int) != 0) = !decide (lot ns.length m = []) := by
    cases h : lot ns.length m with
    | nil => rfl
    | cons a b =>
      rw [Bool.eq_iff_iff]
      simp
      omega
  rw [e]
  exact q _
theorem same_lot {l m l' m' : Nat} {ns : List Str} (lt : IsLot S l ns m) (lt' : IsLot S l' ns m') (q : Q (.bl (decide (m = m'))) S) : Ev (eqOD "Lot" m_Lot____eq__ (.cel l) (.cel l')) S E Q := by
  rw [eqO_ev lt lt']
  refine ev_noErr (lot_eq_ev lt lt' ?_)
  rw [ev_asB]
  simpa using q
theorem map_erase {α β : Type} (f : α → β) : ∀ (l : List α) (j : Nat), (l.map f).eraseIdx j = (l.eraseIdx j).map f
  | [], _ => by simp
  | _ :: _, 0 => by simp
  | x :: l, j + 1 => by simp [map_erase f l j]
def LotI (S : Store) (ns : List Str) (ds : List Deed) (k : Nat) (τ : DSt) (S' : Store) : Prop := ∃ T l v3 v4, S' = S ++ T ∧ S.length ≤ l ∧ IsLot S' l ns (foldM ns (full ns) (ds.take k)) ∧ τ = [some (.tup (ns.map D.str)), some (.lst (ds.map deedT)), some (.cel l), v3, v4]
theorem law_lot_ev {ns : List Str} {ds : List Deed} (hns : Names ns) (hl : ns.length ≤ 10) (hd : GoodD ns ds) (hn : ds.length ≤ 100)
    (q : ∀ T l, S.length ≤ l → IsLot (S ++ T) l ns (foldM ns (full ns) ds) → Q (.cel l) (S ++ T)) : Ev (m_law_lot [.tup (ns.map D.str), .lst (ds.map deedT)]) S E Q := by
  unfold m_law_lot
  rw [ev_fn]
  unfold b_law_lot
  simp [startD]
  refine new_ev hns hl ?_
  refine evr_loop (LotI S ns ds) (k := 0) ⟨_, S.length, none, none, rfl, Nat.le_refl _, IsLot.new ns _, rfl⟩ (fun i d0 τ S' h0 hi => ?_) (fun τ S' hi => ?_)
  · obtain ⟨T, l, v3, v4, rfl, hle, lt, rfl⟩ := hi
    obtain ⟨⟨b, ps⟩, hx, rfl⟩ := map_at h0
    rw [Nat.zero_add] at *
    have pr := (hd _ (List.mem_of_getElem? hx)).1
    have tk : ds.take (i + 1) = ds.take i ++ [(b, ps)] := by rw [List.take_add_one, hx]; rfl
    have fo : foldM ns (full ns) (ds.take (i + 1)) = stepM ns (foldM ns (full ns) (ds.take i)) (b, ps) := by
      rw [tk]; unfold foldM; rw [List.foldl_append]; rfl
    refine ⟨_, bind_tup2, ?_⟩
    generalize hP : pairsT ps = P
    simp only [evr_set, ev_ifx, ev_tru, ev_var, List.getElem?_cons_zero, List.getElem?_cons_succ, List.set_cons_zero, List.set_cons_succ, varP_some, ev_truBl]
    have nx : ∀ m', IsLot (S ++ T ++ [lotCell ns m']) (S ++ T).length ns m' := fun m' => IsLot.new ns m'
    cases b with
    | true =>
      rw [if_pos rfl, ev_methC (n := l)]
      simp
      rw [ev_isObj lt rfl]
      subst hP
      refine barred_ev hns hl lt pr.nd ?_
      refine ⟨T ++ [lotCell ns _], (S ++ T).length, _, _, (List.append_assoc _ _ _), by simp, ?_, rfl⟩
      rw [fo]
      exact nx (stepM ns (foldM ns (full ns) (ds.take i)) (true, ps))
    | false =>
      rw [if_neg Bool.false_ne_true, ev_methC (n := l)]
      simp
      rw [ev_isObj lt rfl]
      subst hP
      refine fitted_ev hns hl lt pr.nd ?_
      refine ⟨T ++ [lotCell ns _], (S ++ T).length, _, _, (List.append_assoc _ _ _), by simp, ?_, rfl⟩
      rw [fo]
      exact nx (stepM ns (foldM ns (full ns) (ds.take i)) (false, ps))
  · obtain ⟨T, l, v3, v4, rfl, hle, lt, rfl⟩ := hi
    simp
    refine q T l hle ?_
    rw [Nat.zero_add, List.length_map, List.take_length] at lt
    exact lt
def pyDd (d : Deed) : PyData := .tuple [.bool d.1, .tuple (d.2.map pyP)]
theorem pys_deeds : ∀ ds : List Deed, pys (ds.map deedT) = some (ds.map pyDd)
  | [] => rfl
  | d :: ds => by
    have h : py (deedT d) = some (pyDd d) := by
      have h2 : py (pairsT d.2) = some (.tuple (d.2.map pyP)) := by
        show (pys (d.2.map fun p => D.tup [.str p.1, .bl p.2])).map PyData.tuple = _
        rw [pys_pairs]; rfl
      show (pys [.bl d.1, pairsT d.2]).map PyData.tuple = _
      rw [pys, pys, h2]; rfl
    rw [List.map_cons, pys, pys_deeds ds, h]; rfl
theorem depth_deeds : ∀ ds : List Deed, PyData.depthAll (ds.map pyDd) ≤ 8
  | [] => by simp [PyData.depthAll]
  | d :: ds => by
    have := depth_deeds ds
    have h2 := depth_pairs d.2
    have h : (pyDd d).depth ≤ 8 := by simp [pyDd, PyData.depth, PyData.depthAll]; omega
    rw [List.map_cons, PyData.depthAll]
    omega
theorem deeds0_ev {x : D} {ds : List Deed} (hx : dr S x = .lst (ds.map deedT)) : Ev (eqvD true x (.lst [])) S E Q = Q (.bl (!decide (ds = []))) S := by
  have h1 : pyD S x = some (.list (ds.map pyDd)) := by
    have := depth_deeds ds
    unfold pyD
    rw [hx]
    show (match py (.lst (ds.map deedT)) with | some z => if z.depth ≤ 64 then some z else none | none => none) = _
    rw [py, pys_deeds]
    exact if_pos (by show PyData.depth _ ≤ 64; rw [PyData.depth]; omega)
  rw [ev_eq h1 (b := .list []) rfl]
  cases ds with
  | nil => rfl
  | cons d ds => rfl
theorem mem_erase {α : Type} {x y : α} : ∀ {l : List α} {j : Nat}, l[j]? = some y → (x ∈ l ↔ x = y ∨ x ∈ l.eraseIdx j)
  | [], _, h => by simp at h
  | z :: l, 0, h => by
    simp at h; subst h
    simp
  | z :: l, j + 1, h => by
    rw [List.eraseIdx_cons_succ, List.mem_cons, List.mem_cons, mem_erase (l := l) (j := j) (by simpa using h)]
    exact ⟨fun h => h.elim (fun e => .inr (.inl e)) fun h => h.elim .inl fun h => .inr (.inr h), fun h => h.elim (fun e => .inr (.inl e)) fun h => h.elim .inl fun h => .inr (.inr h)⟩
structure Mix (S : Store) (n : Nat) (ds : List Deed) (k : Nat) (S' : Store) (xs ys : List Deed) : Prop where
  l2 : S'.length = S.length + 2
  hx : S'[S.length]? = some (.lst (xs.map deedT))
  hy : S'[S.length + 1]? = some (.lst (ys.map deedT))
  hk : xs.length = k
  hs : xs.length + ys.length = ds.length
  hm : ∀ d, d ∈ ys ∨ d ∈ xs ↔ d ∈ ds
  b1 : Bag S' n
  e1 : Ext n S S'
def MixI (S : Store) (n : Nat) (ds : List Deed) (k : Nat) (τ : DSt) (S' : Store) : Prop := ∃ xs ys, τ = [some (.cel n), some (.lst (ds.map deedT)), some (.cel S.length), some (.cel (S.length + 1))] ∧ Mix S n ds k S' xs ys
theorem law_mixed_ev {n : Nat} {ds : List Deed} (b : Bag S n) (hn : ds.length ≤ 100) (q : ∀ (es : List Deed) S', (∀ d, d ∈ es ↔ d ∈ ds) → es.length = ds.length → Bag S' n → Ext n S S' → Q (.lst (es.map deedT)) S') : Ev (m_law_mixed [.cel n, .lst (ds.map deedT)]) S E Q := by
  unfold m_law_mixed
  rw [ev_fn]
  unfold b_law_mixed
  have z : 10000 < sizeLine := by rw [sizeLine_eq]; decide
  have hb := b.lt
  have lc : ∀ (E : XP) (Q : D → Store → Prop), Ev (listCD [.lst (ds.map deedT)]) S E Q = Q (.cel S.length) (S ++ [.lst (ds.map deedT)]) := fun _ _ => rfl
  simp [startD, lc]
  refine evr_while (MixI S n ds) (fun k τ S' hi => ?_) (n := 1000) (k := ds.length) (by omega) ⟨ds, [], rfl, by simp, by simp, by simp, rfl, by simp, by simp, by simpa using (b.snoc _).snoc (.lst []), ext_app n S _⟩
  obtain ⟨xs, ys, rfl, l2, hx, hy, rfl, hs, hm, b1, e1⟩ := hi
  have hd : dr S' (.cel S.length) = .lst (xs.map deedT) := by simp only [dr, hx]
  simp
  rw [deeds0_ev hd]
  simp
  by_cases h0 : xs = []
  · subst h0
    simp
    rw [ev_fixC hy]
    refine q ys _ (fun d => by rw [← hm d]; simp) (by simpa using hs) (b1.set _ (by omega)) ⟨by simp; omega, fun m hm1 hm2 => ?_⟩
    rw [List.getElem?_set_ne (by omega)]
    exact e1.2 m hm1 hm2
  · simp [h0]
    have tn : ∀ S'' : Store, S''[S.length + 1]? = some (.lst (ys.map deedT)) → tyNm (dr S'' (.cel (S.length + 1))) = some "list" := fun S'' h => by simp only [dr, h]; rfl
    have tn0 : tyNm (dr S' (.cel S.length)) = some "list" := by rw [hd]; rfl
    refine ⟨tn S' hy, tn0, ?_⟩
    have le : ∀ (E : XP) (Q : D → Store → Prop), Ev (lenSD [.cel S.length]) S' E Q = Q (.int (xs.length : Int)) S' := fun E Q => by
      have e : lenSD [.cel S.length] S' = .ok (.int (xs.length : Int)) S' := by simp [lenSD, lenD, hd]
      unfold Ev; rw [e]
    rw [le]
    have xp : 0 < xs.length := List.length_pos_iff.mpr h0
    refine takeB b1 (by omega) (by omega) fun r S2 b2 o2 r0 r1 => ?_
    obtain ⟨j, rfl⟩ := Int.eq_ofNat_of_zero_le r0
    have hj : j < xs.length := by omega
    have hx2 : S2[S.length]? = some (.lst (xs.map deedT)) := by rw [o2.2 _ (by omega)]; exact hx
    have hy2 : S2[S.length + 1]? = some (.lst (ys.map deedT)) := by rw [o2.2 _ (by omega)]; exact hy
    have l22 : S2.length = S.length + 2 := by rw [o2.1]; exact l2
    rw [ev_popI hx2 (j := j) (y := deedT xs[j]) (by simp [hj]) (by simp; omega)]
    simp
    refine ⟨ys.map deedT, ?_, by simp; omega, xs.length - 1, by omega, xs.eraseIdx j, ys ++ [xs[j]], rfl, by simp; omega, ?_, ?_, ?_, ?_, ?_, ?_, ?_⟩
    · exact hy2
    · rw [List.getElem?_set_ne (by omega), List.getElem?_set_self (by omega)]
      congr 2
      exact map_erase _ _ _
    · rw [List.getElem?_set_self (by simp; omega)]
      simp
    · rw [List.length_eraseIdx_of_lt hj]
    · rw [List.length_eraseIdx_of_lt hj]
      simp
      omega
    · intro d
      rw [← hm d, mem_erase (l := xs) (List.getElem?_eq_getElem hj)]
      simp
      exact or_assoc
    · exact (b2.set _ (by omega)).set _ (by omega)
    · refine ⟨by simp; omega, fun m hm1 hm2 => ?_⟩
      rw [List.getElem?_set_ne (by omega), List.getElem?_set_ne (by omega), o2.2 _ hm2]
      exact e1.2 m hm1 hm2
end
end NA
set_option maxHeartbeats 4000000
namespace NA
open PySem L2 ND NM
section
variable {S : Store} {E : XP} {Q : D → Store → Prop} {τ : DSt}
theorem strs_map : ∀ ys : List Str, strsOf (ys.map D.str) = some ys
  | [] => rfl
  | y :: ys => by simp only [List.map_cons, strsOf, strs_map ys, Option.map_some]
theorem ev_joinL {a : Str} {ys : List Str} : Ev (joinD (.str a) [.lst (ys.map D.str)]) S E Q = ((ys.map (·.length)).sum + ys.length * a.length ≤ 16777216 ∧ Q (.str (Txt.join a ys)) S) := by
  unfold Ev joinD
  simp only [dr, strs_map]
  by_cases h : (ys.map (·.length)).sum + ys.length * a.length ≤ 16777216
  · rw [if_pos h]; simp [h]
  · rw [if_neg h]; simp [h]
def sgn (b : Bool) : Nat := if b = true then 121 else 110
def wr (f : List Bool) : Str := ⟨(f.map sgn).toArray⟩
def wrD (f : List Bool) : Str := if f = [] then "." else wr f
def txtL (L : List (List Bool)) : Str := if L = [] then "none" else Txt.join " " (L.map wrD)
theorem wr_len (f : List Bool) : (wr f).length = f.length := by unfold wr; rw [str_len]; simp
theorem wrD_len (f : List Bool) (h : f.length ≤ 10) : (wrD f).length ≤ 10 := by
  unfold wrD
  split
  · decide
  · rw [wr_len]; exact h
theorem wr_nil (f : List Bool) : wr f = "" ↔ f = [] := by
  constructor
  · intro e
    have := congrArg Str.length e
    rw [wr_len] at this
    exact List.length_eq_zero_iff.mp this
  · rintro rfl; rfl
theorem sum_le {α : Type} (f : α → Nat) (k : Nat) : ∀ (l : List α), (∀ x ∈ l, f x ≤ k) → (l.map f).sum ≤ l.length * k
  | [], _ => by simp
  | x :: l, h => by
    have h1 := h x List.mem_cons_self
    have h2 := sum_le f k l fun y hy => h y (List.mem_cons_of_mem _ hy)
    rw [List.map_cons, List.sum_cons, List.length_cons, Nat.add_mul]
    omega
theorem join_all {L : List (List Bool)} (h1 : L.length ≤ 1024) (h2 : ∀ f ∈ L, f.length ≤ 10) : ((L.map wrD).map (·.length)).sum + (L.map wrD).length * (" " : Str).length ≤ 16777216 := by
  have e : (" " : Str).length = 1 := by decide
  rw [List.map_map, List.length_map, e]
  have := sum_le (fun f => (wrD f).length) 10 L fun f hf => wrD_len f (h2 f hf)
  have e2 : (L.map ((fun x => x.length) ∘ wrD)).sum = (L.map fun f => (wrD f).length).sum := rfl
  rw [e2]
  omega
theorem signs_of (f : List Bool) : (f.map fun b => D.str ⟨#[sgn b]⟩) = (f.map sgn).map fun c => D.str ⟨#[c]⟩ := by rw [List.map_map]; rfl
theorem yT : (Str.ofString "y") = ⟨#[sgn true]⟩ := by decide
theorem nT : (Str.ofString "n") = ⟨#[sgn false]⟩ := by decide
def sgD : D → D
  | .bl b => .str ⟨#[sgn b]⟩
  | d => d
theorem sgD_map (f : List Bool) : (f.map D.bl).map sgD = (f.map sgn).map fun c => D.str ⟨#[c]⟩ := by rw [List.map_map, List.map_map]; rfl
theorem fill0_ev {neg : Bool} {f : List Bool} : Ev (eqvD neg (fillT f) (.tup [])) S E Q = Q (.bl (if neg then !decide (f = []) else decide (f = []))) S := eq_fill_ev (g := [])
theorem written_ev {f : List Bool} (hf : f.length ≤ 10) (q : Q (.str (wrD f)) S) : Ev (m_written [fillT f]) S E Q := by
  unfold m_written
  rw [ev_fn]
  unfold b_written
  have z : 10000 < sizeLine := by rw [sizeLine_eq]; decide
  have e0 := fun (E : XP) (Q : D → Store → Prop) => fill0_ev (S := S) (E := E) (Q := Q) (neg := true) (f := f)
  have wt : ∀ (E : XP) (PL : List D → Store → Prop), Ev (walkTD (fillT f)) S E PL = PL (f.map D.bl) S := fun _ _ => rfl
  generalize hF : fillT f = F at *
  simp [startD, e0, wipeD, wt, dr, tyNm]
  unfold wrD at q
  split
  · rename_i h0
    rw [if_pos h0] at q
    exact q
  · rename_i h0
    rw [if_neg h0] at q
    refine ev_compF sgD (by simp; omega) (fun d hd => ?_) ?_
    · obtain ⟨b, _, rfl⟩ := List.mem_map.mp hd
      refine ⟨_, bind_nm, fun Q q => ?_⟩
      have q' : Q (.str ⟨#[sgn b]⟩) S := q
      simp
      cases b with
      | true => simpa [yT] using q'
      | false => simpa [nT] using q'
    · rw [sgD_map]
      exact join_ev (by simp; omega) q
def unS (d : D) : Str := wrD (match d with | .tup xs => xs.map (fun d => match d with | .bl b => b | _ => false) | _ => [])
theorem unS_fill (f : List Bool) : unS (fillT f) = wrD f := congrArg wrD (unF_fill f)
theorem str_ev {ns : List Str} {l m : Nat} (hl : ns.length ≤ 10) (lt : IsLot S l ns m) (lo : Low ns.length m) (q : ∀ T, Q (.str (txtL (lot ns.length m))) (S ++ T)) : Ev (m_Lot____str__ [.cel l]) S E Q := by
  unfold m_Lot____str__
  rw [ev_fn]
  unfold b_Lot____str__
  have z : 10000 < sizeLine := by rw [sizeLine_eq]; decide
  have hlen := lot_len_lt ns.length m hl
  have hz := lot_nil lo
  simp [startD, lt.mask]
  unfold txtL at q
  split
  · rename_i h0
    rw [if_pos (hz.mp h0)] at q
    simpa using q []
  · rename_i h0
    rw [if_neg (fun z => h0 (hz.mpr z))] at q
    simp [dr, tyNm]
    rw [ev_methC (n := l)]
    simp
    rw [ev_isObj lt rfl]
    refine fillings_ev hl lt ?_
    rw [ev_fixC (xs := (lot ns.length m).map fillT) (by simp), ev_walkL]
    have es : (S ++ [Cell.lst ((lot ns.length m).map fillT)]).set S.length (.fz (.lst ((lot ns.length m).map fillT))) = S ++ [.fz (.lst ((lot ns.length m).map fillT))] := by simp
    rw [es]
    refine ev_compF (fun d => .str (unS d)) (by simp; omega) (fun d hd => ?_) ?_
    · obtain ⟨f, hf, rfl⟩ := List.mem_map.mp hd
      refine ⟨_, bind_nm, fun Q q => ?_⟩
      rw [unS_fill] at q
      simp [wipeD]
      exact written_ev (by rw [lot_fill hf]; exact hl) q
    · have e : ((lot ns.length m).map fillT).map (fun d => D.str (unS d)) = ((lot ns.length m).map wrD).map D.str := by
        rw [List.map_map, List.map_map]
        exact List.map_congr_left fun f _ => congrArg D.str (unS_fill f)
      rw [e, ev_joinL]
      refine ⟨join_all hlen fun f hf => by rw [lot_fill hf]; exact hl, ?_⟩
      exact q _
theorem law_text_ev {L : List (List Bool)} (h1 : L.length ≤ 1024) (h2 : ∀ f ∈ L, f.length ≤ 10) (q : Q (.str (txtL L)) S) : Ev (m_law_text [.lst (L.map fillT)]) S E Q := by
  unfold m_law_text
  rw [ev_fn]
  unfold b_law_text
  have z : 10000 < sizeLine := by rw [sizeLine_eq]; decide
  simp [startD]
  rw [eq_fills_ev (f := L) (g := []) rfl rfl]
  unfold txtL at q
  simp
  split
  · rename_i h0
    rw [if_pos h0] at q
    exact q
  · rename_i h0
    rw [if_neg h0] at q
    refine ev_compF (fun d => .str (wr (unF d))) (by simp; omega) (fun d hd => ?_) ?_
    · obtain ⟨f, hf, rfl⟩ := List.mem_map.mp hd
      refine ⟨_, bind_nm, fun Q q => ?_⟩
      rw [unF_fill] at q
      have wt : ∀ (E : XP) (PL : List D → Store → Prop), Ev (walkTD (fillT f)) S E PL = PL (f.map D.bl) S := fun _ _ => rfl
      generalize hF : fillT f = F at *
      simp [wipeD, wt, dr, tyNm]
      refine ev_compF sgD (by simp; have := h2 f hf; omega) (fun d hd => ?_) ?_
      · obtain ⟨b, _, rfl⟩ := List.mem_map.mp hd
        refine ⟨_, bind_nm, fun Q q => ?_⟩
        have q' : Q (.str ⟨#[sgn b]⟩) S := q
        simp
        cases b with
        | true => rw [← yT] at q'; exact q'
        | false => rw [← nT] at q'; exact q'
      · rw [sgD_map]
        exact join_ev (by simp; have := h2 f hf; omega) q
    · have e : (L.map fillT).map (fun d => D.str (wr (unF d))) = (L.map wr).map D.str := by
        rw [List.map_map, List.map_map]
        refine List.map_congr_left fun f _ => ?_
        show D.str (wr (unF (fillT f))) = D.str (wr f)
        rw [unF_fill]
      rw [e]
      simp [dr, tyNm, wipeD]
      refine ev_compF (fun d => match d with
        | .str x => .str (if x = "" then "." else x)
        | d => d) (by simp; omega) (fun d hd => ?_) ?_
      · obtain ⟨f, hf, rfl⟩ := List.mem_map.mp hd
        refine ⟨_, bind_nm, fun Q q => ?_⟩
        have q' : Q (.str (if wr f = "" then "." else wr f)) S := q
        simp
        by_cases hw : wr f = Str.ofString ""
        · rw [if_pos hw] at q'
          simpa [hw] using q'
        · rw [if_neg hw] at q'
          simpa [hw] using q'
      · have e2 : ((L.map (D.str ∘ wr))).map (fun d => match d with
          | .str x => .str (if x = "" then "." else x)
          | d => d) = (L.map wrD).map D.str := by
          rw [List.map_map, List.map_map]
          refine List.map_congr_left fun f _ => ?_
          show D.str (if wr f = "" then "." else wr f) = D.str (wrD f)
          unfold wrD
          by_cases hf : f = []
          · rw [if_pos hf, if_pos ((wr_nil f).mpr hf)]
          · rw [if_neg hf, if_neg fun z => hf ((wr_nil f).mp z)]
        rw [e2, ev_joinL]
        exact ⟨join_all h1 h2, q⟩
theorem ev_jsN {acc : Str} : Ev (jsL [] acc τ) S E Q = Q (.str acc) S := rfl
def jsP (ms : List EM) (acc : Str) (τ : DSt) (E : XP) (Q : D → Store → Prop) (d : D) (S : Store) : Prop := match d with
  | .str y => (acc ++ y).length ≤ sizeLine ∧ Ev (jsL ms (acc ++ y) τ) S E Q
  | _ => False
theorem ev_jsC {m : EM} {ms : List EM} {acc : Str} : Ev (jsL (m :: ms) acc τ) S E Q = Ev (m τ) S E fun d S1 => jsP ms acc τ E Q d S1 := by
  unfold jsL
  rw [ev_bind]
  congr 1
  funext d S1
  unfold jsP
  cases d <;> first | rfl | (rw [ev_chk, decide_eq_true_eq])
theorem ev_mFmt {m : EM} : Ev (mFmt m τ) S E Q = Ev (m τ) S E fun d S1 => Ev (fmtD d) S1 E Q := by unfold mFmt; rw [ev_bind]
theorem ints_ok : ∀ n : Fin 70, SOk (Str.ofString (toString ((n.val : Nat) : Int))) ∧ (Str.ofString (toString ((n.val : Nat) : Int))).length ≤ 10 := by
  intro n
  refine ⟨⟨?_, ?_⟩, ?_⟩
  · revert n; decide +kernel
  · refine Nat.le_trans (m := 10) ?_ (by rw [sizeLine_eq]; decide)
    revert n; decide +kernel
  · revert n; decide +kernel
theorem ev_fmtI {n : Nat} (h : n < 70) : Ev (fmtD (.int (n : Int))) S E Q = Q (.str (Str.ofString (toString (n : Int)))) S := by
  unfold fmtD
  rw [ev_chk, ev_pure]
  refine propext ⟨fun h => h.2, fun q => ⟨okP_iff.mpr ⟨?_, (ints_ok ⟨n, h⟩).1⟩, q⟩⟩
  have : (n : Int).natAbs = n := rfl
  rw [this]
  refine Nat.lt_of_le_of_lt (Nat.log2_le_self n) (by omega)
def reprT (a b : Nat) : Str := ((((Str.empty ++ Str.ofString "Lot(") ++ Str.ofString (toString (a : Int))) ++ Str.ofString " of ") ++ Str.ofString (toString (b : Int))) ++ Str.ofString ")"
theorem app_len (x y : Str) : (x ++ y).length = x.length + y.length := Array.size_append ..
theorem js_repr {m1 m2 : EM} {a b : Nat} (ha : a < 70) (hb : b < 70) {S1 S2 : Store} (h1 : ∀ (E : XP) (Q : D → Store → Prop), Q (.int (a : Int)) S1 → Ev (m1 τ) S E Q) (h2 : ∀ (E : XP) (Q : D → Store → Prop), Q (.int (b : Int)) S2 → Ev (m2 τ) S1 E Q) (q : Q (.str (reprT a b)) S2) :
    Ev (jsL [mC (.str "Lot("), mFmt m1, mC (.str " of "), mFmt m2, mC (.str ")")] Str.empty τ) S E Q := by
  have z : 10000 < sizeLine := by rw [sizeLine_eq]; decide
  have l1 := (ints_ok ⟨a, ha⟩).2
  have l2 := (ints_ok ⟨b, hb⟩).2
  have k1 : (Str.ofString "Lot(").length = 4 := by decide
  have k2 : (Str.ofString " of ").length = 4 := by decide
  have k3 : (Str.ofString ")").length = 1 := by decide
  have k0 : Str.empty.length = 0 := by decide
  dsimp only at l1 l2
  rw [ev_jsC, ev_c]
  refine ⟨by rw [app_len]; omega, ?_⟩
  rw [ev_jsC, ev_mFmt]
  refine h1 _ _ ?_
  rw [ev_fmtI ha]
  refine ⟨by rw [app_len, app_len]; omega, ?_⟩
  rw [ev_jsC, ev_c]
  refine ⟨by rw [app_len, app_len, app_len]; omega, ?_⟩
  rw [ev_jsC, ev_mFmt]
  refine h2 _ _ ?_
  rw [ev_fmtI hb]
  refine ⟨by rw [app_len, app_len, app_len, app_len]; omega, ?_⟩
  rw [ev_jsC, ev_c]
  refine ⟨by rw [app_len, app_len, app_len, app_len, app_len]; omega, ?_⟩
  rw [ev_jsN]
  exact q
theorem repr_lot_ev {ns : List Str} {l m : Nat} (hl : ns.length ≤ 6) (lt : IsLot S l ns m) (q : ∀ T, Q (.str (reprT (lot ns.length m).length (2 ^ ns.length))) (S ++ T)) : Ev (m_Lot____repr__ [.cel l]) S E Q := by
  unfold m_Lot____repr__
  rw [ev_fn]
  unfold b_Lot____repr__
  have p6 : 2 ^ ns.length ≤ 64 := Nat.le_trans (Nat.pow_le_pow_right (by decide) hl) (by decide)
  have hlen := lot_len ns.length m
  rw [evr_ret]
  refine js_repr (a := (lot ns.length m).length) (b := 2 ^ ns.length) (S1 := S ++ [.lst ((lot ns.length m).map fillT)]) (S2 := S ++ [.lst ((lot ns.length m).map fillT)]) (by omega) (by omega) (fun E Q q => ?_) (fun E Q q => ?_) (q _)
  · simp [startD]
    rw [ev_lenO lt]
    refine ev_noErr (len_ev (by omega) lt ?_)
    rw [ev_lenOf]
    exact ⟨⟨by omega, by omega⟩, q⟩
  · have sh : shlC 1 (ns.length : Int) = true := by
      refine okP_iff.mpr ⟨Int.natCast_nonneg _, ?_⟩
      have : Builtin.Int.intBits 1 = 1 := by decide
      rw [this]
      omega
    simp [startD, (lt.snoc _).names, sh]
    have e2 : (2 : Int) ^ ns.length = ((2 ^ ns.length : Nat) : Int) := by simp
    rw [e2]
    exact q
theorem txtO_ev {C : Str} {f : List D → M D} {n : Nat} {fs : List (Str × D)} (h : S[n]? = some (.ins C fs)) : Ev (txtOD C f [.cel n]) S E Q = Ev (noErr (f [.cel n])) S E fun d S1 => Ev (txtOf d) S1 E Q := by
  unfold txtOD
  dsimp only
  rw [ev_bind, ev_ownD h]
@[simp] theorem ev_txtOf {x : Str} : Ev (txtOf (.str x)) S E Q = Q (.str x) S := rfl
structure Pl (S : Store) (d : D) : Prop where
  no : ∀ C fs, dr S d ≠ .obj C fs
  ty : ∃ t, tyNm (dr S d) = some t
  py : ∃ z, pyD S d = some z
theorem eqA_no {ns : List Str} {l m : Nat} {d : D} (lt : IsLot S l ns m) (h : Pl S d) (q : Q (.bl false) S) : Ev (eqAD "Lot" m_Lot____eq__ (.cel l) d) S E Q := by
  obtain ⟨z, hz⟩ := h.py
  obtain ⟨t, ht⟩ := h.ty
  have e : eqAD "Lot" m_Lot____eq__ (.cel l) d S = (ownD "Lot" m_Lot____eq__ (.cel l) [d] >>= asB >>= fun b => (pure (D.bl b) : M D)) S := by
    unfold eqAD
    cases hd : dr S d with
    | obj C fs => exact absurd hd (h.no C fs)
    | _ => simp only [hz]
  have e2 : Ev (eqAD "Lot" m_Lot____eq__ (.cel l) d) S E Q = Ev (ownD "Lot" m_Lot____eq__ (.cel l) [d] >>= asB >>= fun b => (pure (D.bl b) : M D)) S E Q := by
    unfold Ev; rw [e]
  rw [e2, ev_bind, ev_bind, ev_ownD lt]
  refine ev_noErr ?_
  unfold m_Lot____eq__
  rw [ev_fn]
  unfold b_Lot____eq__
  have ic : ∀ (E : XP) (Q : D → Store → Prop), Ev (isiCD "Lot" d) S E Q = Q (.bl false) S := fun E Q => by
    unfold Ev isiCD
    cases hd : dr S d with
    | obj C fs => exact absurd hd (h.no C fs)
    | _ => rw [hd] at ht; simp only [ht]
  simp [startD, ic]
  exact q
theorem eqA_lot {ns ns' : List Str} {l m l' m' : Nat} (lt : IsLot S l ns m) (lt' : IsLot S l' ns' m') (q : Q (.bl (decide (ns = ns' ∧ m = m'))) S) : Ev (eqAD "Lot" m_Lot____eq__ (.cel l) (.cel l')) S E Q := by
  have e : eqAD "Lot" m_Lot____eq__ (.cel l) (.cel l') S = eqOD "Lot" m_Lot____eq__ (.cel l) (.cel l') S := by
    unfold eqAD
    have : dr S (.cel l') = .obj "Lot" (lotF ns' m') := by simp only [dr, show S[l']? = _ from lt']
    rw [this]
  have e2 : Ev (eqAD "Lot" m_Lot____eq__ (.cel l) (.cel l')) S E Q = Ev (eqOD "Lot" m_Lot____eq__ (.cel l) (.cel l')) S E Q := by
    unfold Ev; rw [e]
  rw [e2, eqO_ev lt lt']
  refine ev_noErr (lot_eq_ev lt lt' ?_)
  rw [ev_asB]
  exact q
end
end NA
set_option maxHeartbeats 4000000
namespace K04
open PySem L2 ND NM
open NA hiding m_law_lot b_law_lot law_lot_ev
noncomputable def alikeM : SM := (sIf (mTOr (mAsT (mBin (eqvD true) (mBin (eqOD "Lot" m_Lot____eq__) (mVar 13) (mVar 15)) (mBin (eqvD false) (mVar 14) (mVar 16)))) (mAsT (mBin (eqvD true) (mBin (eqOD "Lot" m_Lot____eq__) (mVar 15) (mVar 13)) (mBin (eqvD false) (mVar 14) (mVar 16))))) (sRet (mC (.bl false))) sSkip)
noncomputable def strM : SM := (sFor (mWalkL (mLst (mCons (mTup (mCons (mVar 13) (mCons (mVar 14) mNil))) (mCons (mTup (mCons (mVar 15) (mCons (mVar 16) mNil))) mNil)))) (.tp [(.nm 10), (.nm 11)]) (sIf (mTOr (mAsT (mBin (eqvD true) (mCall (txtOD "Lot" m_Lot____str__) (mCons (mVar 10) mNil)) (mCall (arity 1 m_law_text) (mCons (mVar 11) mNil)))) (mAsT (mBin (eqvD true) (mCall (txtOD "Lot" m_Lot____repr__) (mCons (mVar 10) mNil)) (jsL [(mC (.str "Lot(")), (mFmt (mCall lenSD (mCons (mVar 11) mNil))), (mC (.str " of ")), (mFmt (mVar 9)), (mC (.str ")"))] Str.empty)))) (sRet (mC (.bl false))) sSkip))
noncomputable def namedM : SM := (sIf (mAsT (mBin (eqvD true) (mBin (eqOD "Lot" m_Lot____eq__) (mMake "Lot" 2 m_Lot____init__ (mCons (mVar 8) mNil)) (mMake "Lot" 2 m_Lot____init__ (mCons (mVar 3) mNil))) (mBin (eqvD false) (mVar 8) (mVar 3)))) (sRet (mC (.bl false))) sSkip)
noncomputable def anyM : SM := (sIf (mTOr (mAsT (mBin (eqAD "Lot" m_Lot____eq__) (mVar 13) (mCall (arity 1 m_law_any) (mCons (mVar 2) mNil)))) (mTOr (mAsT (mBin (eqAD "Lot" m_Lot____eq__) (mVar 13) (mVar 14))) (mAsT (mBin (eqAD "Lot" m_Lot____eq__) (mVar 13) (mCall (txtOD "Lot" m_Lot____str__) (mCons (mVar 13) mNil)))))) (sRet (mC (.bl false))) sSkip)
noncomputable def lastM : SM := (sIf (mTNot (mAsT (mBin (eqAD "Lot" m_Lot____eq__) (mVar 13) (mBin ixD (mCall (arity 2 m_law_lot) (mCons (mCall tupleD (mCons (mCall listD (mCons (mVar 3) mNil)) mNil)) (mCons (mVar 4) mNil))) (mC (.int 0)))))) (sRet (mC (.bl false))) sSkip)
noncomputable def endM : SM := (sRet (mAnd (mBin (eqvD false) (mCall (txtOD "Lot" m_Lot____str__) (mCons (mMake "Lot" 2 m_Lot____init__ (mCons (mTup mNil) mNil)) mNil)) (mC (.str "."))) (mAnd (mBin (eqvD false) (mCall (txtOD "Lot" m_Lot____repr__) (mCons (mMake "Lot" 2 m_Lot____init__ (mCons (mTup mNil) mNil)) mNil)) (mC (.str "Lot(1 of 1)"))) (mBin (eqvD false) (mCall (txtOD "Lot" m_Lot____str__) (mCons (mMethI "Lot" "fitted" 2 m_Lot__fitted (mMake "Lot" 2 m_Lot____init__ (mCons (mTup (mCons (mC (.str "a")) mNil)) mNil)) (mCons (mTup mNil) mNil)) mNil)) (mC (.str "n y"))))))
theorem b_law_eq : b_law = (sThen (sFor (mRng1 (mCons (mCall (twoD fun i j => if j > i then j else i) (mCons (mC (.int 1)) (mCons (mCall (twoD fun i j => if j < i then j else i) (mCons (mC (.int 6)) (mCons (mCall lenSD (mCons (mVar 0) mNil)) mNil))) mNil))) mNil)) (.nm 1) (sThen (sSet 2 (mCall (arity 2 m_law_bag) (mCons (mVar 0) (mCons (mVar 1) mNil)))) (sThen (sSet 3 (mCall (arity 2 m_law_names) (mCons (mVar 2) (mCons (mCall (arity 2 m_law_take) (mCons (mVar 2) (mCons (mC (.int 6)) mNil))) mNil)))) (sThen (sSet 4 (mComp (mRng1 (mCons (mCall (arity 2 m_law_take) (mCons (mVar 2) (mCons (mC (.int 5)) mNil))) mNil)) [12] (.nm 12) (mAsT (mBin (eqvD true) (mVar 3) (mTup mNil))) (mCall (arity 4 m_law_pairs) (mCons (mVar 2) (mCons (mVar 3) (mCons (mC (.int 1)) (mCons (mC (.int 4)) mNil))))))) (sThen (sSet 5 (mComp (mRng1 (mCons (mCall (arity 2 m_law_take) (mCons (mVar 2) (mCons (mC (.int 5)) mNil))) mNil)) [12] (.nm 12) (mAsT (mBin (eqvD true) (mVar 3) (mTup mNil))) (mCall (arity 4 m_law_pairs) (mCons (mVar 2) (mCons (mVar 3) (mCons (mC (.int 1)) (mCons (mC (.int 4)) mNil))))))) (sThen (sSet 6 (mBin ixD (mLst (mCons (mBin addD (mUn revLD (mVar 4)) (mSl (mVar 4) mNoPart (mPart (mC (.int 1))))) (mCons (mVar 5) (mCons (mBin addD (mVar 4) (mSl (mVar 5) mNoPart (mPart (mC (.int 1))))) (mCons (mSl (mVar 4) (mPart (mC (.int 1))) mNoPart) mNil))))) (mCall (arity 2 m_law_take) (mCons (mVar 2) (mCons (mC (.int 4)) mNil))))) (sThen (sSet 7 (mCall tupleD (mCons (mComp (mWalkL (mLst (mCons (mC (.str "zzzzzzzz")) mNil))) [13] (.nm 13) (mAsT (mBin (inD true) (mVar 13) (mVar 3))) (mVar 13)) mNil))) (sThen (sSet 8 (mBin ixD (mLst (mCons (mVar 3) (mCons (mVar 3) (mCons (mVar 3) (mCons (mUn revTD (mVar 3)) (mCons (mBin addD (mVar 3) (mVar 7)) mNil)))))) (mCall (arity 2 m_law_take) (mCons (mVar 2) (mCons (mC (.int 5)) mNil))))) (sThen (sSet 9 (mCall lenSD (mCons (mCall (arity 1 m_law_fillings) (mCons (mCall lenSD (mCons (mVar 3) mNil)) mNil)) mNil))) (sThen (sAsg (.tp [(.tp [(.nm 13), (.nm 14)]), (.tp [(.nm 15), (.nm 16)])]) (mTup (mCons (mCall (arity 2 m_law_lot) (mCons (mVar 3) (mCons (mVar 4) mNil))) (mCons (mCall (arity 2 m_law_lot) (mCons (mVar 3) (mCons (mVar 6) mNil))) mNil)))) (sThen alikeM (sThen strM (sThen namedM (sThen anyM lastM)))))))))))))) endM) := rfl
section
variable {S : Store} {E : XP} {Q : D → Store → Prop}
theorem any_pl {n : Nat} (h : Bag S n) (q : ∀ d S', Pl S' d → Bag S' n → Onl n S S' → Q d S') : Ev (m_law_any [.cel n]) S E Q := by
  unfold m_law_any
  rw [ev_fn]
  unfold b_law_any
  have z : 100 < sizeLine := by rw [sizeLine_eq]; decide
  simp [startD]
  refine ⟨by omega, by omega, by omega, by omega, by omega, by omega, by omega, takeB h (by decide) (by decide) fun r S2 b2 o2 r0 r1 => ?_⟩
  rw [ev_ixL]
  obtain ⟨d, hd, hm⟩ := atI_ex (xs := [D.non, D.bl true, D.bl false, D.int 0, D.int 1, D.int (-1), D.int 100000000000000000000000000000000000000000000000000000000000, D.str (Str.ofString ""),
      D.str (Str.ofString "A"), D.str (Str.ofString "a b"), D.str (Str.ofString "ninelongs"), D.str (Str.ofString "a1"), D.lst [], D.lst [D.str (Str.ofString "a")], D.tup [D.int 1],
      D.tup [D.non], D.tup [D.tup []], D.str (Str.ofString "a-"), D.tup [D.str (Str.ofString "a"), D.int 1], D.lst [D.tup [D.str (Str.ofString "a"), D.bl true]], D.tup [D.bl true, D.int 0]]) r0 (by show r < 21; omega)
  refine ⟨d, hd, q d S2 ?_ b2 o2⟩
  simp only [List.mem_cons, List.not_mem_nil, or_false] at hm
  rcases hm with rfl | rfl | rfl | rfl | rfl | rfl | rfl | rfl | rfl | rfl | rfl | rfl | rfl | rfl | rfl | rfl | rfl | rfl | rfl | rfl | rfl <;>
    exact ⟨(fun C fs h => by cases h), ⟨_, rfl⟩, ⟨_, by simp [pyD, dr, py, pys, PyData.depth, PyData.depthAll]; rfl⟩⟩
abbrev tieD (ts : List (List (Str × Bool))) : List Deed := ts.map fun ps => (true, ps)
def GoodT (ns : List Str) (ts : List (List (Str × Bool))) : Prop := ∀ ps ∈ ts, Pairs ns ps ∧ ps.length ≤ 20
theorem GoodT.deeds {ns : List Str} {ts : List (List (Str × Bool))} (h : GoodT ns ts) : GoodD ns (tieD ts) := fun d hd => by
  obtain ⟨ps, hp, rfl⟩ := List.mem_map.mp hd
  exact h ps hp
def maskT (ns : List Str) (ts : List (List (Str × Bool))) : Nat := foldM ns (full ns) (tieD ts)
theorem low_T (ns : List Str) (ts : List (List (Str × Bool))) : Low ns.length (maskT ns ts) := low_fold _ (low_full ns)
def L4I (S : Store) (ns : List Str) (ts : List (List (Str × Bool))) (k : Nat) (τ : DSt) (S' : Store) : Prop := ∃ T l v2 v5, S' = S ++ T ∧ S.length ≤ l ∧ IsLot S' l ns (maskT ns (ts.take k)) ∧ τ = [some (.tup (ns.map D.str)), some (.lst (ts.map pairsT)), v2, some (.cel l), some (.lst ((lot ns.length (maskT ns (ts.take k))).map fillT)), v5]
theorem lot4_ev {ns : List Str} {ts : List (List (Str × Bool))} (hns : Names ns) (hl : ns.length ≤ 10) (hd : GoodT ns ts)
    (q : ∀ T l, S.length ≤ l → IsLot (S ++ T) l ns (maskT ns ts) → Q (.tup [.cel l, .lst ((lot ns.length (maskT ns ts)).map fillT)]) (S ++ T)) : Ev (m_law_lot [.tup (ns.map D.str), .lst (ts.map pairsT)]) S E Q := by
  unfold m_law_lot
  rw [ev_fn]
  unfold b_law_lot
  have z : 10000 < sizeLine := by rw [sizeLine_eq]; decide
  have nd : ns.Nodup := hns.2
  simp [startD]
  refine new_ev hns hl ?_
  refine law_fillings_ev hl ?_
  rw [← lot_full]
  refine evr_loop (L4I S ns ts) (k := 0) ⟨_, S.length, none, none, rfl, Nat.le_refl _, IsLot.new ns _, rfl⟩ (fun i d0 τ S' h0 hi => ?_) (fun τ S' hi => ?_)
  · obtain ⟨T, l, v2, v5, rfl, hle, lt, rfl⟩ := hi
    obtain ⟨ps, hx, rfl⟩ := map_at h0
    rw [Nat.zero_add] at *
    obtain ⟨pr, hp⟩ := hd _ (List.mem_of_getElem? hx)
    have tk : tieD (ts.take (i + 1)) = tieD (ts.take i) ++ [(true, ps)] := by rw [List.take_add_one, hx]; simp [tieD]
    have fo : maskT ns (ts.take (i + 1)) = stepM ns (maskT ns (ts.take i)) (true, ps) := by
      unfold maskT; rw [tk]; unfold foldM; rw [List.foldl_append]; rfl
    have fl := lot_step nd (maskT ns (ts.take i)) (d := (true, ps)) pr
    rw [← fo] at fl
    generalize hm : maskT ns (ts.take i) = m at *
    have hlen := lot_len_lt ns.length m hl
    refine ⟨_, bind_nm, ?_⟩
    generalize hP : pairsT ps = P
    simp
    rw [ev_methC (n := l)]
    simp
    rw [ev_isObj lt rfl]
    subst hP
    refine barred_ev hns hl lt pr.nd ?_
    refine ev_compG (fun d => !fitsP ns (unF d) ps) id (by rw [List.length_map]; omega) (fun d hd => ?_) ?_
    · obtain ⟨f, hf, rfl⟩ := List.mem_map.mp hd
      refine ⟨_, bind_nm, fun PB q => ?_, fun _ Q q => ?_⟩
      · simp only [unF_fill] at q
        generalize hP : pairsT ps = P
        simp [wipeD]
        subst hP
        exact fits_ev nd (by omega) (lot_fill hf) pr hp (by simpa using q)
      · simpa [wipeD] using q
    · have e : List.map id (((lot ns.length m).map fillT).filter fun d => !fitsP ns (unF d) ps) = ((lot ns.length m).filter fun f => okD ns f (true, ps)).map fillT := by
        rw [List.map_id, List.filter_map]
        congr 1
        congr 1
        funext f
        simp only [Function.comp, unF_fill, okD]
        cases fitsP ns f ps <;> rfl
      rw [e, ← fl]
      refine ⟨T ++ [lotCell ns _], (S ++ T).length, _, _, List.append_assoc _ _ _, by simp, ?_, rfl⟩
      rw [fo]
      exact IsLot.new ns (stepM ns m (true, ps))
  · obtain ⟨T, l, v2, v5, rfl, hle, lt, rfl⟩ := hi
    rw [Nat.zero_add, List.length_map, List.take_length] at *
    simp
    exact ⟨by omega, q T l hle lt⟩
section
variable {ER : Str → List (Str × D) → DSt → Store → Prop} {PR : ND.Flow → Store → Prop} {n l l' m m' : Nat} {ns : List Str} {a0 a1 a4 a5 a6 a7 a8 a9 a10 a11 a12 : Option D}
abbrev fr (n l l' m m' : Nat) (ns : List Str) (a0 a1 a4 a5 a6 a7 a8 a9 a10 a11 a12 : Option D) : DSt := [a0, a1, some (.cel n), some (.tup (ns.map D.str)), a4, a5, a6, a7, a8, a9, a10, a11, a12, some (.cel l), some (.lst ((lot ns.length m).map fillT)), some (.cel l'), some (.lst ((lot ns.length m').map fillT))]
theorem eqB_ev {a b : Bool} : Ev (eqvD true (.bl a) (.bl b)) S E Q = Q (.bl (!(a == b))) S := by rw [ev_eqB]; rfl
theorem same_iff {n m m' : Nat} (lo : Low n m) (lo' : Low n m') : decide (m = m') = decide (lot n m = lot n m') := by
  rw [Bool.eq_iff_iff, decide_eq_true_iff, decide_eq_true_iff]
  exact ⟨fun e => by rw [e], fun e => lot_ext lo lo' fun f => by rw [e]⟩
theorem same_iff' {n m m' : Nat} (lo : Low n m) (lo' : Low n m') : decide (m' = m) = decide (lot n m = lot n m') := by
  rw [← same_iff lo lo', Bool.eq_iff_iff, decide_eq_true_iff, decide_eq_true_iff]
  exact eq_comm
theorem alike_ev (lt : IsLot S l ns m) (lt' : IsLot S l' ns m') (lo : Low ns.length m) (lo' : Low ns.length m') (q : PR (.nx (fr n l l' m m' ns a0 a1 a4 a5 a6 a7 a8 a9 a10 a11 a12)) S) : EvR (alikeM (fr n l l' m m' ns a0 a1 a4 a5 a6 a7 a8 a9 a10 a11 a12) S) ER PR := by
  unfold alikeM
  simp [fr]
  refine same_lot lt lt' ?_
  rw [eq_fills_ev (f := lot ns.length m) (g := lot ns.length m') rfl rfl]
  rw [same_iff lo lo']
  simp
  refine same_lot lt' lt ?_
  rw [eq_fills_ev (f := lot ns.length m) (g := lot ns.length m') rfl rfl]
  rw [same_iff' lo lo']
  simp
  exact q
theorem pair_ev {l m : Nat} (hl : ns.length ≤ 6) (lt : IsLot S l ns m) (lo : Low ns.length m) {τ : DSt} (h10 : τ[10]? = some (some (.cel l))) (h11 : τ[11]? = some (some (.lst ((lot ns.length m).map fillT)))) (h9 : τ[9]? = some (some (.int ((2 ^ ns.length : Nat) : Int)))) (q : ∀ T, PR (.nx τ) (S ++ T)) :
    EvR ((sIf (mTOr (mAsT (mBin (eqvD true) (mCall (txtOD "Lot" m_Lot____str__) (mCons (mVar 10) mNil)) (mCall (arity 1 m_law_text) (mCons (mVar 11) mNil)))) (mAsT (mBin (eqvD true) (mCall (txtOD "Lot" m_Lot____repr__) (mCons (mVar 10) mNil)) (jsL [(mC (.str "Lot(")), (mFmt (mCall lenSD (mCons (mVar 11) mNil))), (mC (.str " of ")), (mFmt (mVar 9)), (mC (.str ")"))] Str.empty)))) (sRet (mC (.bl false))) sSkip) τ S) ER PR := by
  have hlen := lot_len_lt ns.length m (by omega)
  have p6 : 2 ^ ns.length ≤ 64 := Nat.le_trans (Nat.pow_le_pow_right (by decide) hl) (by decide)
  have hle := lot_len ns.length m
  simp [h10, h11]
  rw [txtO_ev lt]
  refine ev_noErr (str_ev (by omega) lt lo fun T => ?_)
  rw [ev_txtOf]
  refine law_text_ev hlen (fun f hf => by rw [lot_fill hf]; omega) ?_
  rw [ev_eqS]
  simp
  have lt1 := lotApp lt T
  rw [txtO_ev lt1]
  refine ev_noErr (repr_lot_ev hl lt1 fun T2 => ?_)
  rw [ev_txtOf]
  refine js_repr (a := (lot ns.length m).length) (b := 2 ^ ns.length) (S1 := S ++ T ++ T2) (S2 := S ++ T ++ T2) (by omega) (by omega) (fun E Q q => ?_) (fun E Q q => ?_) ?_
  · simp [h11]
    simpa using q
  · rw [ev_var, h9]
    exact q
  · rw [ev_eqS]
    simp
    exact q _
theorem str_M_ev (hl : ns.length ≤ 6) (lt : IsLot S l ns m) (lt' : IsLot S l' ns m') (lo : Low ns.length m) (lo' : Low ns.length m') (h9 : a9 = some (.int ((2 ^ ns.length : Nat) : Int))) (q : ∀ T a10 a11, PR (.nx (fr n l l' m m' ns a0 a1 a4 a5 a6 a7 a8 a9 a10 a11 a12)) (S ++ T)) : EvR (strM (fr n l l' m m' ns a0 a1 a4 a5 a6 a7 a8 a9 a10 a11 a12) S) ER PR := by
  unfold strM
  have z : 10000 < sizeLine := by rw [sizeLine_eq]; decide
  simp [fr]
  refine ⟨by omega, ?_⟩
  refine evr_loop (fun k τ S' => ∃ T b10 b11, S' = S ++ T ∧ τ = fr n l l' m m' ns a0 a1 a4 a5 a6 a7 a8 a9 b10 b11 a12) (k := 0) ⟨[], a10, a11, by simp, rfl⟩ (fun i d0 τ S' h0 hi => ?_) (fun τ S' hi => ?_)
  · obtain ⟨T, b10, b11, rfl, rfl⟩ := hi
    have hd : d0 = .tup [.cel l, .lst ((lot ns.length m).map fillT)] ∨ d0 = .tup [.cel l', .lst ((lot ns.length m').map fillT)] := by
      have := List.mem_of_getElem? h0
      simpa using this
    rcases hd with rfl | rfl
    · refine ⟨_, bind_tup2, pair_ev hl (lotApp lt T) lo rfl rfl (by rw [h9]; rfl) fun T2 => ⟨T ++ T2, _, _, List.append_assoc _ _ _, rfl⟩⟩
    · refine ⟨_, bind_tup2, pair_ev hl (lotApp lt' T) lo' rfl rfl (by rw [h9]; rfl) fun T2 => ⟨T ++ T2, _, _, List.append_assoc _ _ _, rfl⟩⟩
  · obtain ⟨T, b10, b11, rfl, rfl⟩ := hi
    exact q T _ _
theorem named_ev {ns' : List Str} (hns : Names ns) (hl : ns.length ≤ 10) (hns' : Names ns') (hl' : ns'.length ≤ 10) (h8 : a8 = some (.tup (ns'.map D.str))) (q : ∀ T, PR (.nx (fr n l l' m m' ns a0 a1 a4 a5 a6 a7 a8 a9 a10 a11 a12)) (S ++ T)) : EvR (namedM (fr n l l' m m' ns a0 a1 a4 a5 a6 a7 a8 a9 a10 a11 a12) S) ER PR := by
  unfold namedM
  subst h8
  simp [fr]
  refine new_ev hns' hl' ?_
  refine new_ev hns hl ?_
  have i1 : IsLot (S ++ [lotCell ns' (full ns')] ++ [lotCell ns (full ns)]) S.length ns' (full ns') := (IsLot.new ns' _).snoc _
  have i2 : IsLot (S ++ [lotCell ns' (full ns')] ++ [lotCell ns (full ns)]) (S ++ [lotCell ns' (full ns')]).length ns (full ns) := IsLot.new ns _
  rw [eqO_ev i1 i2]
  refine ev_noErr (lot_eq_ev i1 i2 ?_)
  rw [ev_asB, eq_names_ev]
  have e : decide (ns' = ns ∧ full ns' = full ns) = decide (ns' = ns) := by
    rw [Bool.eq_iff_iff, decide_eq_true_iff, decide_eq_true_iff]
    exact ⟨fun h => h.1, fun h => ⟨h, by rw [h]⟩⟩
  rw [e]
  simp
  have := q ([lotCell ns' (full ns')] ++ [lotCell ns (full ns)])
  simpa [fr] using this
theorem pl_fills {L : List (List Bool)} : Pl S (.lst (L.map fillT)) := ⟨(fun C fs h => by cases h), ⟨_, rfl⟩, ⟨_, pyD_fills (fs := L) rfl⟩⟩
theorem pl_str {x : Str} : Pl S (.str x) := ⟨(fun C fs h => by cases h), ⟨_, rfl⟩, ⟨_, rfl⟩⟩
theorem any_ev4 (hl : ns.length ≤ 10) (b : Bag S n) (lt : IsLot S l ns m) (ne : l ≠ n) (lo : Low ns.length m) (q : ∀ S', (∀ j k, IsLot S j ns k → j ≠ n → IsLot S' j ns k) → PR (.nx (fr n l l' m m' ns a0 a1 a4 a5 a6 a7 a8 a9 a10 a11 a12)) S') : EvR (anyM (fr n l l' m m' ns a0 a1 a4 a5 a6 a7 a8 a9 a10 a11 a12) S) ER PR := by
  unfold anyM
  simp [fr]
  refine any_pl b fun d S2 pl b2 o2 => ?_
  have lt2 := lt.onl o2 ne
  refine eqA_no lt2 pl ?_
  simp
  refine eqA_no lt2 pl_fills ?_
  simp
  rw [txtO_ev lt2]
  refine ev_noErr (str_ev hl lt2 lo fun T => ?_)
  rw [ev_txtOf]
  refine eqA_no (lotApp lt2 T) pl_str ?_
  simp
  exact q _ fun j k h hj => lotApp (h.onl o2 hj) T
theorem last_ev {ts : List (List (Str × Bool))} (hns : Names ns) (hl : ns.length ≤ 10) (lt : IsLot S l ns (maskT ns ts)) (gt : GoodT ns ts) (h4 : a4 = some (.lst (ts.map pairsT))) (q : ∀ T, PR (.nx (fr n l l' (maskT ns ts) m' ns a0 a1 a4 a5 a6 a7 a8 a9 a10 a11 a12)) (S ++ T)) : EvR (lastM (fr n l l' (maskT ns ts) m' ns a0 a1 a4 a5 a6 a7 a8 a9 a10 a11 a12) S) ER PR := by
  unfold lastM
  subst h4
  simp [fr]
  refine lot4_ev hns hl gt fun T la _ lta => ?_
  simp
  refine eqA_lot (lotApp lt T) lta ?_
  simp
  exact q T
end
def TiI (n : Nat) (S : Store) (ns : List Str) (k : Nat) (acc : List D) (S' : Store) : Prop := ∃ ts : List (List (Str × Bool)), acc = ts.map pairsT ∧ ts.length ≤ k ∧ GoodT ns ts ∧ Bag S' n ∧ Onl n S S'
theorem ties_ev {t : Tg} {τ : DSt} {n k : Nat} {ns : List Str} {PL : List D → Store → Prop} (hns : Names ns) (hl : ns.length ≤ 10) (hk : k ≤ 10) (b : Bag S n) (hb : ∀ x : D, ∃ τ1, t.bind x τ = some τ1 ∧ τ1[2]? = some (some (.cel n)) ∧ τ1[3]? = some (some (.tup (ns.map D.str))))
    (q : ∀ ts S', GoodT ns ts → ts.length ≤ k → Bag S' n → Onl n S S' → PL (ts.map pairsT) S') :
    Ev (noErr (compL t (mAsT (mBin (eqvD true) (mVar 3) (mTup mNil))) (mCall (arity 4 m_law_pairs) (mCons (mVar 2) (mCons (mVar 3) (mCons (mC (.int 1)) (mCons (mC (.int 4)) mNil))))) τ (intsD 0 k) [])) S E PL := by
  have z : 10000 < sizeLine := by rw [sizeLine_eq]; decide
  refine ev_noErr (ev_compL (TiI n S ns) (k := 0) ⟨[], rfl, Nat.le_refl _, fun p hp => absurd hp List.not_mem_nil, b, Onl.refl⟩ (fun i x acc S' hx hi => ?_) (fun acc S' hi => ?_))
  · obtain ⟨ts, rfl, hlen, gt, b1, o1⟩ := hi
    have hik := (intsD_at hx).2
    obtain ⟨τ1, e1, h2, h3⟩ := hb x
    refine ⟨τ1, e1, ?_⟩
    simp only [ev_asT, ev_bin, ev_var, h3, varP_some, ev_tup, ev_nil, List.length_nil]
    refine ⟨by omega, ?_⟩
    rw [names0_ev, ev_asB]
    by_cases h0 : ns = []
    · rw [decide_eq_true h0]
      simp only [Bool.not_true, if_true, Bool.false_eq_true, if_false]
      exact ⟨ts, rfl, by omega, gt, b1, o1⟩
    · rw [decide_eq_false h0]
      simp only [Bool.not_false, if_true, ev_call, ev_cons, ev_nil, ev_var, ev_c, h2, h3, varP_some, ev_arity, List.length_cons, List.length_nil]
      refine ⟨trivial, pairs_ev b1 hns (List.length_pos_iff.mpr h0) (by omega) (by omega) (by omega) fun ps S2 b2 o2 pr _ hp => ?_⟩
      refine ⟨by simp; omega, ts ++ [ps], by simp, by simp; omega, fun p hp' => ?_, b2, o1.trans o2⟩
      rcases List.mem_append.mp hp' with h | h
      · exact gt p h
      · rw [List.mem_singleton.mp h]; exact ⟨pr, hp⟩
  · obtain ⟨ts, rfl, hlen, gt, b1, o1⟩ := hi
    rw [intsD_len] at hlen
    exact q ts S' gt (by omega) b1 o1
theorem cut_map {α β : Type} (f : α → β) (xs : List α) (lo hi : Option Int) : cut (xs.map f) lo hi = (cut xs lo hi).map f := by
  unfold cut
  simp [List.map_take, List.map_drop]
theorem ndrev {α : Type} {l : List α} (h : l.Nodup) : l.reverse.Nodup := (List.reverse_perm l).nodup_iff.mpr h
abbrev zz : Str := "zzzzzzzz"
theorem names_more {ns : List Str} (h : Names ns) : Names (ns ++ (if zz ∈ ns then [] else [zz])) := by
  split
  · simpa using h
  · rename_i no
    refine ⟨fun x hx => ?_, List.nodup_append.mpr ⟨h.2, by simp, fun a ha b hb e => ?_⟩⟩
    · rcases List.mem_append.mp hx with hx | hx
      · exact h.1 x hx
      · rw [List.mem_singleton.mp hx]
        exact ⟨fun c hc => by revert c; decide +kernel, by decide +kernel, by decide +kernel⟩
    · rw [List.mem_singleton.mp hb] at e
      exact no (e ▸ ha)
theorem nm1 : Names ["a"] := ⟨fun x hx => by
  rw [List.mem_singleton.mp hx]
  exact ⟨fun c hc => by revert c; decide +kernel, by decide +kernel, by decide +kernel⟩, by simp⟩
theorem binds4 {i j k l : Nat} {a b c d : D} {τ : DSt} : Tg.binds [.tp [.nm i, .nm j], .tp [.nm k, .nm l]] [.tup [a, b], .tup [c, d]] τ = some ((((τ.set i (some a)).set j (some b)).set k (some c)).set l (some d)) := by
  rw [Tg.binds, bind_tup2]
  dsimp only
  rw [Tg.binds, bind_tup2]
  dsimp only
  rw [binds_nil]
theorem law_ev {xs : List Int} (q : ∀ S', Q (.bl true) S') : Ev (m_law [.rol (xs.map D.int)]) S E Q := by
  unfold m_law
  rw [ev_fn]
  rw [b_law_eq]
  simp [startD]
  generalize hN : (if 1 < if (xs.length : Int) < 6 then (xs.length : Int) else 6 then if (xs.length : Int) < 6 then (xs.length : Int) else 6 else 1) = N
  have hN6 : 0 ≤ N ∧ N ≤ 6 := by
    rw [← hN]
    split <;> (try split) <;> omega
  refine ⟨by omega, ?_⟩
  have z : 10000 < sizeLine := by rw [sizeLine_eq]; decide
  refine evr_loop (fun i τ S' => ∃ v1 v2 v3 v4 v5 v6 v7 v8 v9 v10 v11 v12 v13 v14 v15 v16, τ = [some (D.rol (List.map D.int xs)), v1, v2, v3, v4, v5, v6, v7, v8, v9, v10, v11, v12, v13, v14, v15, v16]) (k := 0) ⟨none, none, none, none, none, none, none, none, none, none, none, none, none, none, none, none, rfl⟩ (fun i x τ S1 hx hi => ?_) (fun τ S1 hi => ?_)
  · obtain ⟨v1, v2, v3, v4, v5, v6, v7, v8, v9, v10, v11, v12, v13, v14, v15, v16, rfl⟩ := hi
    refine ⟨_, bind_nm, ?_⟩
    obtain ⟨rfl, hi6⟩ := intsD_at hx
    simp
    refine bag_ev (by omega) (by omega) fun g x g0 x0 x1 => ?_
    have b1 : Bag (S1 ++ [.lst [.int g, .int x]]) S1.length := ⟨g, x, by simp, g0, x0, x1⟩
    refine takeB b1 (by omega) (by omega) fun t6 S2 b2 o2 t60 t61 => ?_
    refine names_ev b2 t60 (by omega) fun ns S4 b4 e4 hns hnl => ?_
    have hl : ns.length ≤ 5 := by omega
    have nd : ns.Nodup := hns.2
    generalize S1.length = n at *
    refine takeB b4 (by omega) (by omega) fun t5 S5 b5 o5 t50 t51 => ?_
    obtain ⟨k5, rfl⟩ := Int.eq_ofNat_of_zero_le t50
    rw [ev_rngN (by omega)]
    refine ties_ev hns (by omega) (by omega) b5 (fun x => ⟨_, bind_nm, rfl, rfl⟩) fun ts S6 gt hts b6 o6 => ?_
    refine takeB b6 (by omega) (by omega) fun t7 S7 b7 o7 t70 t71 => ?_
    obtain ⟨k7, rfl⟩ := Int.eq_ofNat_of_zero_le t70
    rw [ev_rngN (by omega)]
    refine ties_ev hns (by omega) (by omega) b7 (fun x => ⟨_, bind_nm, rfl, rfl⟩) fun ms S8 gm hms b8 o8 => ?_
    have c1 : (cut ts none (some 1)).length ≤ ts.length := cut_len
    have c2 : (cut ms none (some 1)).length ≤ ms.length := cut_len
    refine ⟨by rw [cut_map]; simp; omega, by rw [cut_map]; simp; omega, by omega, ?_⟩
    refine takeB b8 (by omega) (by omega) fun r4 S9 b9 o9 r40 r41 => ?_
    obtain ⟨os, go, hos⟩ : ∃ os, GoodT ns os ∧ atI [D.lst ((ts.map pairsT).reverse ++ cut (ts.map pairsT) none (some 1)), D.lst (ms.map pairsT), D.lst (ts.map pairsT ++ cut (ms.map pairsT) none (some 1)), D.lst (cut (ts.map pairsT) (some 1) none)] r4 = some (.lst (os.map pairsT)) := by
      have : r4 = 0 ∨ r4 = 1 ∨ r4 = 2 ∨ r4 = 3 := by omega
      rcases this with rfl | rfl | rfl | rfl
      · refine ⟨ts.reverse ++ cut ts none (some 1), fun p hp => ?_, ?_⟩
        · rcases List.mem_append.mp hp with h | h
          · exact gt p (List.mem_reverse.mp h)
          · exact gt p (cut_mem h)
        · simp only [cut_map, ← List.map_reverse, ← List.map_append]; rfl
      · exact ⟨ms, gm, rfl⟩
      · refine ⟨ts ++ cut ms none (some 1), fun p hp => ?_, ?_⟩
        · rcases List.mem_append.mp hp with h | h
          · exact gt p h
          · exact gm p (cut_mem h)
        · simp only [cut_map, ← List.map_reverse, ← List.map_append]; rfl
      · refine ⟨cut ts (some 1) none, fun p hp => gt p (cut_mem hp), ?_⟩
        simp only [cut_map, ← List.map_reverse, ← List.map_append]; rfl
    rw [ev_ixL]
    refine ⟨_, hos, by omega, ?_⟩
    refine ev_compG (fun d => match d with
      | .str x => !decide (x ∈ ns)
      | _ => false) id (by simp; omega) (fun d hd => ?_) ?_
    · obtain rfl := List.mem_singleton.mp hd
      refine ⟨_, bind_nm, fun PB q => ?_, fun _ Q q => ?_⟩
      · simp [wipeD]
        rw [in_names_ev]
        simpa using q
      · simpa [wipeD] using q
    · have e : List.map id (List.filter (fun d => match d with
        | .str x => !decide (x ∈ ns)
        | _ => false) [D.str (Str.ofString "zzzzzzzz")]) = (if zz ∈ ns then [] else [zz]).map D.str := by
        by_cases h : zz ∈ ns
        · simp [h]
        · simp [h]
      rw [e]
      have nm := names_more hns
      have lz : (if zz ∈ ns then [] else [zz]).length ≤ 1 := by split <;> simp
      generalize (if zz ∈ ns then [] else [zz]) = zs at *
      rw [ev_revT, ev_addT, ← List.map_append, ← List.map_reverse]
      refine ⟨by simp; omega, by omega, ?_⟩
      refine takeB b9 (by omega) (by omega) fun r5 S10 b10 o10 r50 r51 => ?_
      obtain ⟨ns', hns', hl', hnm⟩ : ∃ ns', Names ns' ∧ ns'.length ≤ 10 ∧ atI [D.tup (ns.map D.str), D.tup (ns.map D.str), D.tup (ns.map D.str), D.tup (ns.reverse.map D.str), D.tup ((ns ++ zs).map D.str)] r5 = some (.tup (ns'.map D.str)) := by
        have : r5 = 0 ∨ r5 = 1 ∨ r5 = 2 ∨ r5 = 3 ∨ r5 = 4 := by omega
        rcases this with rfl | rfl | rfl | rfl | rfl
        · exact ⟨ns, hns, by omega, rfl⟩
        · exact ⟨ns, hns, by omega, rfl⟩
        · exact ⟨ns, hns, by omega, rfl⟩
        · exact ⟨ns.reverse, ⟨fun x hx => hns.1 x (List.mem_reverse.mp hx), ndrev nd⟩, by simp; omega, rfl⟩
        · exact ⟨ns ++ zs, nm, by simp; omega, rfl⟩
      rw [ev_ixL]
      refine ⟨_, hnm, ?_⟩
      simp
      refine law_fillings_ev (by omega) ?_
      simp [fills_length]
      refine lot4_ev hns (by omega) gt fun T l hle lt => ?_
      refine lot4_ev hns (by omega) go fun T2 l2 hle2 lt2 => ?_
      have bT : Bag (S10 ++ T ++ T2) n := bagApp (bagApp b10 T) T2
      have ltT := lotApp lt T2
      have nl : l ≠ n := by have := b10.lt; omega
      have nl2 : l2 ≠ n := by have := b10.lt; have : S10.length ≤ (S10 ++ T).length := by simp
                              omega
      generalize S10 ++ T ++ T2 = S11 at *
      refine ⟨by omega, ?_⟩
      rw [binds4]
      simp only [asgP_some, thenP_nx, evr_then, List.set_cons_zero, List.set_cons_succ]
      refine alike_ev ltT lt2 (low_T ns ts) (low_T ns os) ?_
      rw [thenP_nx, evr_then]
      refine str_M_ev (by omega) ltT lt2 (low_T ns ts) (low_T ns os) (by simp) fun T3 b10' b11' => ?_
      have bT3 := bagApp bT T3
      have ltT3 := lotApp ltT T3
      generalize S11 ++ T3 = S12 at *
      rw [thenP_nx, evr_then]
      refine named_ev hns (by omega) hns' hl' rfl fun T4 => ?_
      have bT4 := bagApp bT3 T4
      have ltT4 := lotApp ltT3 T4
      generalize S12 ++ T4 = S13 at *
      rw [thenP_nx, evr_then]
      refine any_ev4 (by omega) bT4 ltT4 nl (low_T ns ts) fun S14 keep => ?_
      rw [thenP_nx]
      refine last_ev hns (by omega) (keep l _ ltT4 nl) gt rfl fun T5 => ?_
      exact ⟨_, _, _, _, _, _, _, _, _, _, _, _, _, _, _, _, rfl⟩
  · obtain ⟨v1, v2, v3, v4, v5, v6, v7, v8, v9, v10, v11, v12, v13, v14, v15, v16, rfl⟩ := hi
    unfold endM
    simp
    have nm0 : Names [] := ⟨by simp, List.nodup_nil⟩
    have f0 : lot ([] : List Str).length (full []) = [[]] := by rw [lot_full]; rfl
    refine new_ev (ns := []) nm0 (by simp) ?_
    have l1 : IsLot (S1 ++ [lotCell [] (full [])]) S1.length [] (full []) := IsLot.new [] _
    generalize S1 ++ [lotCell [] (full [])] = S2 at *
    generalize S1.length = k1 at *
    rw [txtO_ev l1]
    refine ev_noErr (str_ev (ns := []) (by simp) l1 (low_full []) fun T => ?_)
    rw [ev_txtOf, f0, show txtL [[]] = Str.ofString "." from by decide +kernel, ev_eqS]
    simp
    generalize S2 ++ T = S3
    refine new_ev (ns := []) nm0 (by simp) ?_
    have l3 : IsLot (S3 ++ [lotCell [] (full [])]) S3.length [] (full []) := IsLot.new [] _
    generalize S3 ++ [lotCell [] (full [])] = S4 at *
    generalize S3.length = k3 at *
    rw [txtO_ev l3]
    refine ev_noErr (repr_lot_ev (ns := []) (by simp) l3 fun T => ?_)
    rw [ev_txtOf, f0, show reprT ([[]] : List (List Bool)).length (2 ^ ([] : List Str).length) = Str.ofString "Lot(1 of 1)" from by decide +kernel, ev_eqS]
    simp
    generalize S4 ++ T = S5
    rw [ev_methC (n := 0)]
    simp
    refine ⟨by omega, new_ev (ns := ["a"]) nm1 (by simp) ?_⟩
    have l5 : IsLot (S5 ++ [lotCell ["a"] (full ["a"])]) S5.length ["a"] (full ["a"]) := IsLot.new _ _
    generalize S5 ++ [lotCell ["a"] (full ["a"])] = S6 at *
    generalize S5.length = k5 at *
    rw [ev_isObj l5 rfl]
    refine fitted_ev (ps := []) nm1 (by simp) l5 List.nodup_nil ?_
    have ndA : (["a"] : List Str).Nodup := by simp
    have lf := lot_fitted ndA (Pairs.nil ["a"]) (full ["a"])
    have lo6 := low_fitted (low_full ["a"]) (maskN (wants ["a"] []))
    generalize (full ["a"] &&& maskN (wants ["a"] [])) = m6 at *
    have l6 : IsLot (S6 ++ [lotCell ["a"] m6]) S6.length ["a"] m6 := IsLot.new _ _
    generalize S6 ++ [lotCell ["a"] m6] = S7 at *
    generalize S6.length = k6 at *
    rw [txtO_ev l6]
    refine ev_noErr (str_ev (ns := ["a"]) (by simp) l6 lo6 fun T => ?_)
    have e6 : txtL (lot (["a"] : List Str).length m6) = Str.ofString "n y" := by
      rw [lf, lot_full]
      decide +kernel
    rw [ev_txtOf, e6, ev_eqS]
    simp
    exact q _
theorem law_true (ns : List Int) (_ : ns.length ≤ 63) : ∃ S, m_law [.rol (ns.map D.int)] [] = .ok (.bl true) S := by
  have h := law_ev (S := []) (E := fun _ _ _ => False) (Q := fun d _ => d = .bl true) (xs := ns) fun _ => rfl
  unfold Ev at h
  cases e : m_law [.rol (ns.map D.int)] [] with
  | ok d S => rw [e] at h; dsimp only at h; rw [h]; exact ⟨S, rfl⟩
  | err C fs S => rw [e] at h; exact h.elim
  | bad => rw [e] at h; exact h.elim
end
end K04
set_option maxHeartbeats 0
namespace HX
open PySem L2
open He (ga eqO eqO_ok ba)
def tailOf (C : Addr) : List Value → Option (List Value)
  | .ref D :: more => if D = C then some more else none
  | _ => none
theorem tailOf_is {C : Addr} : ∀ {l more : List Value}, tailOf C l = some more → l = .ref C :: more
  | .ref D :: more, t, e => by
    have e : (if D = C then some more else none) = some t := e
    by_cases h : D = C
    · rw [if_pos h] at e; cases e; rw [h]
    · rw [if_neg h] at e; cases e
def sixOf : List (Option Value) → Option (Option Value × Option Value × Option Value × Option Value × Option Value)
  | [a, b, c, d, some (.builtin n), f] => if n = "ValueError.__new__" then some (a, b, c, d, f) else none
  | _ => none
theorem sixOf_is {l : List (Option Value)} {a b c d f : Option Value} (e : sixOf l = some (a, b, c, d, f)) : l = [a, b, c, d, some (.builtin "ValueError.__new__"), f] := by
  unfold sixOf at e
  split at e
  · rename_i n _
    by_cases h : n = "ValueError.__new__"
    · rw [if_pos h] at e; cases e; rw [h]
    · rw [if_neg h] at e; cases e
  · cases e
def clsB (K : PySem.W.Frag) (C : Addr) : Bool := match K.lookup C with
  | some ⟨cl, _, .cls cd, sl⟩ => decide (cl = .type "type") && (!cd.hasDel && (cd.hasDict && ((sixOf sl.toList).isSome && (match tailOf C cd.mro with
    | some more => PySem.HandSPX.refsVE more
    | none => false))))
  | _ => false
theorem clsB_ok {K : PySem.W.Frag} {C : Addr} (h : clsB K C = true) : ∃ nm qn N bs bm sn sub ab col dd k0 k1 k2 k3 k5, K.lookup C = some (excClassObj nm qn C N bs bm true sn sub ab col dd k0 k1 k2 k3 k5 "ValueError.__new__") ∧ PySem.HandSPX.refsVE bm = true := by
  unfold clsB at h
  split at h
  case h_2 => cases h
  case h_1 cl dd cd sl look =>
    obtain ⟨nm, bs, mro, N, qn, hasD, sn, sub, ab, col, del⟩ := cd
    obtain ⟨sl⟩ := sl
    obtain ⟨h1, h⟩ := ba h
    obtain ⟨h2, h⟩ := ba h
    obtain ⟨h3, h⟩ := ba h
    obtain ⟨h4, h5⟩ := ba h
    obtain rfl := of_decide_eq_true h1
    obtain ⟨⟨a, b, c, d, f⟩, six⟩ := Option.isSome_iff_exists.mp h4
    have hsl := sixOf_is six
    cases del with
    | true => cases h2
    | false =>
      cases hasD with
      | false => cases h3
      | true =>
        cases tl : tailOf C mro with
        | none => rw [tl] at h5; cases h5
        | some more =>
          rw [tl] at h5
          have hm := tailOf_is tl
          dsimp only at hsl
          subst hm hsl
          exact ⟨nm, qn, N, bs, more, sn, sub, ab, col, dd, a, b, c, d, f, look, h5⟩
theorem bareDef {K : PySem.W.Frag} {x qual : Str} {params : Arguments} {body : List Stmt} {scope : Scope} {kws : List (Str × V)} {f : Addr} {fd : FuncData} (F : FunD K x qual params body scope [] kws f fd) :
    ∃ (cl : Value) (own : Option Addr) (kwV docV modV : Value) (ann : Option Addr) (code typ : Value) (slots : Array (Option Value)), fd = PySem.W.fnOf x qual params body scope .none kwV docV modV ann code typ ∧ K.lookup f = some ⟨cl, own, .func fd, slots⟩ ∧ PySem.W.codeIn K code qual = true :=
  match F.ex with
  | ⟨cl, own, _, kwV, docV, modV, ann, code, typ, slots, isFd, look, isCode, .inl ⟨_, bare⟩, _⟩ => ⟨cl, own, kwV, docV, modV, ann, code, typ, slots, by rw [isFd, bare], look, isCode⟩
  | ⟨_, _, _, _, _, _, _, _, _, _, _, _, _, .inr ⟨nonempty, _⟩, _⟩ => absurd rfl nonempty
def errB (K : PySem.W.Frag) (nm fl : Str) : Bool := clsB K (ga K nm) && (
  eqO (PySem.W.findIn K (.ref (ga K nm)) "__setattr__") (some (some (.builtin "object.__setattr__"))) && (
  eqO (PySem.W.findIn K (.ref (ga K nm)) "__getattribute__") (some (some (.builtin "BaseException.__getattribute__"))) && (
  eqO (PySem.W.findIn K (.ref (ga K nm)) "__getattr__") (some none) && (
  eqO (PySem.W.findIn K (.ref (ga K nm)) fl) (some none) && (
  eqO (PySem.W.findIn K (.ref (ga K nm)) "__class__") (some (some (.builtin "object.__class__"))) && (
  decide (PySem.W.specialIn K (.builtin "object.__class__") "__get__" = some (some (.builtin "getset_descriptor.__get__"))) && (
  decide (PySem.W.takesIn K (.builtin "object.__class__") = some true) && (
  decide (PySem.W.mroIn K (ga K nm) (.type "object") = some true) && (
  eqO (PySem.W.findIn K (.ref (ga K nm)) "__init__") (some (some (.ref (He.fAd K (nm, some "__init__"))))) && (
  decide (PySem.W.typeIn K (.ref (He.fAd K (nm, some "__init__"))) = some (.type "function")) && (
  PySem.W.keepIn K (.ref (ga K nm)) && (
  decide (PySem.W.subIn K (.ref (ga K nm)) (.type "BaseException") = some true) && (
  decide (PySem.W.typeIn K (.ref (ga K nm)) = some (.type "type")) && (
  PySem.W.hasDictIn K (ga K nm) && decide (PySem.W.exmOne K (.ref (ga K nm)) (.ref (ga K nm)) = some true)))))))))))))))
theorem err_of {K : PySem.W.Frag} {h : Heap} {mg : Str → Option Value} {nm qn fl : Str} {params : Arguments} {body : List Stmt} {scope : Scope} {fd : FuncData} (X : K.In h) (G : h.Ns mainGlobals mg) (cg : (He.Fa.glo nm).ok K = true) (c : errB K nm fl = true)
    (F : FunD K "__init__" qn params body scope [] [] (He.fAd K (nm, some "__init__")) fd) (hA : ∃ p1 p2, params = PySem.ErrX.iA fl p1 p2) (hB : ∃ q1 q2 q3 q4, body = PySem.ErrX.iB fl q1 q2 q3 q4) (hS : scope = PySem.ErrX.iS fl)
    (nsf : (fl == ("self" : Str)) = false) (ndb : (fl == ("__debug__" : Str)) = false)
    (bd : ∀ (kV doc pm : Value) (an : Option Addr) (cdv ct : Value) (p1 p2 q1 q2 q3 q4 : Pos) (x v : Value), bindArgs (PySem.W.fnOf "__init__" qn (PySem.ErrX.iA fl p1 p2) (PySem.ErrX.iB fl q1 q2 q3 q4) (PySem.ErrX.iS fl) .none kV doc pm an cdv ct) ⟨[x, v], []⟩ = pure [(("self" : Str), x), (fl, v)]) :
    PySem.ErrX.ErrTxt K mg nm qn fl (ga K nm) (He.fAd K (nm, some "__init__")) := by
  obtain ⟨c1, c⟩ := ba c
  obtain ⟨c2, c⟩ := ba c
  obtain ⟨c3, c⟩ := ba c
  obtain ⟨c4, c⟩ := ba c
  obtain ⟨c5, c⟩ := ba c
  obtain ⟨c6, c⟩ := ba c
  obtain ⟨c7, c⟩ := ba c
  obtain ⟨c8, c⟩ := ba c
  obtain ⟨c9, c⟩ := ba c
  obtain ⟨c10, c⟩ := ba c
  obtain ⟨c11, c⟩ := ba c
  obtain ⟨c12, c⟩ := ba c
  obtain ⟨c13, c⟩ := ba c
  obtain ⟨c14, c⟩ := ba c
  obtain ⟨c15, c16⟩ := ba c
  obtain ⟨cl, own, kwV, docV, modV, ann, code, typ, slots, rfl, look, isCode⟩ := bareDef F
  obtain ⟨p1, p2, rfl⟩ := hA
  obtain ⟨q1, q2, q3, q4, rfl⟩ := hB
  subst hS
  exact { gC := He.glo_ok X G cg, cls := clsB_ok c1, sa := eqO_ok c2, ga := eqO_ok c3, gg := eqO_ok c4, noN := eqO_ok c5, nsf := nsf, ndb := ndb, ca := eqO_ok c6, cn := of_decide_eq_true c7, ct := of_decide_eq_true c8, cm := of_decide_eq_true c9,
          bd := bd, iC := eqO_ok c10, tC := of_decide_eq_true c11, kC := c12, exC := of_decide_eq_true c13, tyC := of_decide_eq_true c14, hdC := c15, te := of_decide_eq_true c16, fn := ⟨cl, own, kwV, docV, modV, ann, code, typ, slots, p1, p2, q1, q2, q3, q4, look, isCode⟩ }
theorem kbA {K : PySem.W.Frag} {x qual : Str} {params : Arguments} {body : List Stmt} {scope : Scope} {kws : List (Str × V)} {f : Addr} {fd : FuncData} {ps ks : List Str} (F : FunD K x qual params body scope [] kws f fd)
    (h : ∀ (kV doc pm : Value) (an : Option Addr) (cdv ct : Value) (z : Value) (ws : List Value), ws.length = ks.length → bindArgs (PySem.W.fnOf x qual params body scope .none kV doc pm an cdv ct) ⟨[z], ks.zip ws⟩ = pure (ps.zip (z :: ws))) :
    ∀ (s : Shared) (z : Value) (ws : List Value), K.In s.heap → ws.length = ks.length → BindsTo s fd ⟨[z], ks.zip ws⟩ (ps.zip (z :: ws)) := by
  obtain ⟨_, _, kwV, docV, modV, ann, code, typ, _, rfl, _, _⟩ := bareDef F
  exact fun s z ws _ hl => .of_eq (h kwV docV modV ann code typ z ws hl)
theorem calm {P : Program} {w : World} {K : PySem.W.Frag} {mg : Str → Option Value} {base : Heap} {k : Nat} {f : Addr} {fd : FuncData} {ps : List Str} {sp : Sp} (F : FnG P w K mg base (L2.CX P w) k f fd ps sp) :
    FnG P w K mg base CX0 k f fd ps (fun vs H Q _ => sp vs H Q fun _ _ _ => False) := by
  refine ⟨fun vs H Q E h => F.len vs H Q _ h, fun A outer s H args bs vs Q E hr he hb r h => ?_⟩
  refine codeAny_mono (F.run A outer s H args bs vs Q _ hr he hb r h) fun r s' hq => ?_
  cases r with
  | error e =>
    obtain ⟨_, _, _, _, _, _, _, _, _, _, _, _, z⟩ := hq
    exact z.elim
  | ok fl =>
    cases fl with
    | ret u => exact hq
    | next => exact hq
    | brk => exact hq
    | cont => exact hq
open ND in
theorem law_sp {P : Program} {w : World} {K : PySem.W.Frag} {mg : Str → Option Value} {m : List D → M D} {n : Nat} (h : ∀ ns : List Int, ns.length ≤ n → ∃ S, m [.rol (ns.map D.int)] [] = .ok (.bl true) S) (H : Hp) (a : Addr) (ns : List Int) (hl : ns.length ≤ n) (hS : SqL K H a (ns.map V.int)) :
    spD K mg P w 1 m [.ref a] H (fun v _ => v = .bl true) fun _ _ _ => False := by
  obtain ⟨S', e⟩ := h ns hl
  have ef : frz ⟨K, mg, P, w, none, []⟩ [] [] H = H := by
    funext b
    rw [frz_in (by simp [live]) (by simp)]
  have vl : ∀ ns : List Int, Vls ⟨K, mg, P, w, none, []⟩ H [] (ns.map V.int) (ns.map D.int) := fun ns => by
    induction ns with
    | nil => exact .nil
    | cons n ns ih => exact .cons (.int n) ih
  refine ⟨[], [], [], [.rol (ns.map D.int)], ⟨rfl, by simp [live], by simp [live], by simp, fun q e => absurd (show (none : Option CuE) = some q from e) (fun z => by injection z), fun n a x h => by simp at h⟩, ?_, rfl, ?_⟩
  · rw [ef]
    exact .cons (.rol hS (vl ns)) .nil
  · rw [e]
    exact fun H' c' f v hv => by cases hv; rfl
end HX
set_option maxHeartbeats 0
namespace K04
open PySem PySem.Spec PyProof.Rows L2 ND
def fn_0 : List He.DefD := [⟨("is_name", none), "is_name", "is_name", defArgs (top 7), defBody (top 7), defScope (top 7), [], []⟩, ⟨("are_names", none), "are_names", "are_names", defArgs (top 8), defBody (top 8), defScope (top 8), [], []⟩, ⟨("mask_of", none), "mask_of", "mask_of", defArgs (top 9), defBody (top 9), defScope (top 9), [], []⟩, ⟨("filling_at", none), "filling_at", "filling_at", defArgs (top 10), defBody (top 10), defScope (top 10), [], []⟩, ⟨("written", none), "written", "written", defArgs (top 11), defBody (top 11), defScope (top 11), [], []⟩, ⟨("Lot", some "__init__"), "__init__", "Lot.__init__", defArgs (inClass (top 12) 0), defBody (inClass (top 12) 0), defScope (inClass (top 12) 0), [], []⟩, ⟨("lot_of", none), "lot_of", "lot_of", defArgs (top 13), defBody (top 13), defScope (top 13), [], []⟩, ⟨("Lot", some "__eq__"), "__eq__", "Lot.__eq__", defArgs (inClass (top 12) 1), defBody (inClass (top 12) 1), defScope (inClass (top 12) 1), [], []⟩, ⟨("Lot", some "fillings"), "fillings", "Lot.fillings", defArgs (inClass (top 12) 8), defBody (inClass (top 12) 8), defScope (inClass (top 12) 8), [], []⟩, ⟨("Lot", some "__len__"), "__len__", "Lot.__len__", defArgs (inClass (top 12) 2), defBody (inClass (top 12) 2), defScope (inClass (top 12) 2), [], []⟩, ⟨("Lot", some "__str__"), "__str__", "Lot.__str__", defArgs (inClass (top 12) 3), defBody (inClass (top 12) 3), defScope (inClass (top 12) 3), [], []⟩, ⟨("Lot", some "__repr__"), "__repr__", "Lot.__repr__", defArgs (inClass (top 12) 4), defBody (inClass (top 12) 4), defScope (inClass (top 12) 4), [], []⟩, ⟨("Lot", some "barred"), "barred", "Lot.barred", defArgs (inClass (top 12) 5), defBody (inClass (top 12) 5), defScope (inClass (top 12) 5), [], []⟩, ⟨("Lot", some "fitted"), "fitted", "Lot.fitted", defArgs (inClass (top 12) 6), defBody (inClass (top 12) 6), defScope (inClass (top 12) 6), [], []⟩, ⟨("_law_bag", none), "_law_bag", "_law_bag", defArgs (top 15), defBody (top 15), defScope (top 15), [], []⟩, ⟨("_law_take", none), "_law_take", "_law_take", defArgs (top 16), defBody (top 16), defScope (top 16), [], []⟩, ⟨("_law_names", none), "_law_names", "_law_names", defArgs (top 17), defBody (top 17), defScope (top 17), [], []⟩, ⟨("_law_pairs", none), "_law_pairs", "_law_pairs", defArgs (top 18), defBody (top 18), defScope (top 18), [], []⟩, ⟨("_law_fillings", none), "_law_fillings", "_law_fillings", defArgs (top 19), defBody (top 19), defScope (top 19), [], []⟩, ⟨("_law_fits", none), "_law_fits", "_law_fits", defArgs (top 20), defBody (top 20), defScope (top 20), [], []⟩, ⟨("_law_any", none), "_law_any", "_law_any", defArgs (top 21), defBody (top 21), defScope (top 21), [], []⟩, ⟨("_law_lot", none), "_law_lot", "_law_lot", defArgs (top 22), defBody (top 22), defScope (top 22), [], []⟩, ⟨("_law_text", none), "_law_text", "_law_text", defArgs (top 23), defBody (top 23), defScope (top 23), [], []⟩, ⟨("law", none), "law", "law", defArgs (top 24), defBody (top 24), defScope (top 24), [], []⟩, ⟨("NoHouse", some "__init__"), "__init__", "NoHouse.__init__", defArgs (inClass (top 2) 0), defBody (inClass (top 2) 0), defScope (inClass (top 2) 0), [], []⟩]
def fn : List He.DefD := fn_0
def fa_0 : List He.Fa := [.glo "is_name", .glo "are_names", .glo "mask_of", .glo "filling_at", .glo "written", .glo "lot_of", .glo "_law_bag", .glo "_law_take", .glo "_law_names", .glo "_law_pairs", .glo "_law_fillings", .glo "_law_fits", .glo "_law_any", .glo "_law_lot", .glo "_law_text", .glo "law", .glo "NoHouse", .glo "Lot", .cls "Lot", .mkr "Lot", .noat "Lot" "__bool__", .noat "Lot" "mask", .noat "Lot" "names", .meth "Lot" "__eq__", .meth "Lot" "__len__", .meth "Lot" "__repr__", .meth "Lot" "__str__", .meth "Lot" "barred", .meth "Lot" "fillings", .meth "Lot" "fitted"]
def fa_1 : List He.Fa := [.free "abs", .free "all", .free "dict", .free "isinstance", .free "len", .free "list", .free "max", .free "min", .free "range", .free "repr", .free "set", .free "sorted", .free "str", .free "tuple", .free "zip", .str "LETTERS" "abcdefghijklmnopqrstuvwxyz", .int "MOST_NAMES" 10, .int "MOST_SIGNS" 8]
def fa : List He.Fa := fa_0 ++ fa_1
def loose_0 : List Str := ["_wall", "__name__", "NoHouse", "LETTERS", "MOST_SIGNS", "MOST_NAMES", "is_name", "are_names", "mask_of", "filling_at", "written", "Lot", "lot_of", "_law_bag", "_law_take", "_law_names", "_law_pairs", "_law_fillings", "_law_fits", "_law_any", "_law_lot", "_law_text"]
def loose : List Str := loose_0
def ex (K : PySem.W.Frag) : Bool := HX.errB K "NoHouse" "part" && (icB K (He.ga K "Lot"))
abbrev R : PySem.W.OpenRow := PySem.W.OpenLaw.row PySem.Challenge.rw_newsahead_k04_lots_alike_and_written
abbrev hk : PySem.W.Hook := He.hookX 4 fa fn [] [] ex
def ob (s : PySem.W.SharedT) : He.AlX := He.obsX 4 fa fn [] [] ex (HandSHeadRun.getT s)
theorem ob_eq (s : PySem.W.SharedT) : ob s = hk.obs s.abs := He.obsX_eq (HandSHeadRun.getT_eq s)
theorem run (w : World) : HandSHeadRun.RunEq R (PySem.W.view R.prog [24]) hk ob 3000 loose w := by
  intro os
  kernel_rfl
theorem facts {K : PySem.W.Frag} {h : Heap} {mg : Str → Option Value} {f : Addr} (X : K.In h) (G : h.Ns mainGlobals mg) (hfa : mg ("law" : Str) = some (.ref f)) (c : He.SaysD fa fn K) (e : ex K = true) : ∃ T : Txt K mg, T.a_law = f := by
  obtain ⟨fd_is_name, F_is_name⟩ := c.def_ 0 (d := _) rfl
  obtain ⟨fd_are_names, F_are_names⟩ := c.def_ 1 (d := _) rfl
  obtain ⟨fd_mask_of, F_mask_of⟩ := c.def_ 2 (d := _) rfl
  obtain ⟨fd_filling_at, F_filling_at⟩ := c.def_ 3 (d := _) rfl
  obtain ⟨fd_written, F_written⟩ := c.def_ 4 (d := _) rfl
  obtain ⟨fd_Lot____init__, F_Lot____init__⟩ := c.def_ 5 (d := _) rfl
  obtain ⟨fd_lot_of, F_lot_of⟩ := c.def_ 6 (d := _) rfl
  obtain ⟨fd_Lot____eq__, F_Lot____eq__⟩ := c.def_ 7 (d := _) rfl
  obtain ⟨fd_Lot__fillings, F_Lot__fillings⟩ := c.def_ 8 (d := _) rfl
  obtain ⟨fd_Lot____len__, F_Lot____len__⟩ := c.def_ 9 (d := _) rfl
  obtain ⟨fd_Lot____str__, F_Lot____str__⟩ := c.def_ 10 (d := _) rfl
  obtain ⟨fd_Lot____repr__, F_Lot____repr__⟩ := c.def_ 11 (d := _) rfl
  obtain ⟨fd_Lot__barred, F_Lot__barred⟩ := c.def_ 12 (d := _) rfl
  obtain ⟨fd_Lot__fitted, F_Lot__fitted⟩ := c.def_ 13 (d := _) rfl
  obtain ⟨fd_law_bag, F_law_bag⟩ := c.def_ 14 (d := _) rfl
  obtain ⟨fd_law_take, F_law_take⟩ := c.def_ 15 (d := _) rfl
  obtain ⟨fd_law_names, F_law_names⟩ := c.def_ 16 (d := _) rfl
  obtain ⟨fd_law_pairs, F_law_pairs⟩ := c.def_ 17 (d := _) rfl
  obtain ⟨fd_law_fillings, F_law_fillings⟩ := c.def_ 18 (d := _) rfl
  obtain ⟨fd_law_fits, F_law_fits⟩ := c.def_ 19 (d := _) rfl
  obtain ⟨fd_law_any, F_law_any⟩ := c.def_ 20 (d := _) rfl
  obtain ⟨fd_law_lot, F_law_lot⟩ := c.def_ 21 (d := _) rfl
  obtain ⟨fd_law_text, F_law_text⟩ := c.def_ 22 (d := _) rfl
  obtain ⟨fd_law, F_law⟩ := c.def_ 23 (d := _) rfl
  obtain ⟨fd_NoHouse, F_NoHouse⟩ := c.def_ 24 (d := _) rfl
  refine ⟨{ a_is_name := _, fd_is_name := fd_is_name, F_is_name := F_is_name, B_is_name := F_is_name.bindsN (fun _ _ _ _ _ _ us hl => match us, hl with | [_], _ => rfl), g_is_name := He.glo_ok X G (c.fact 0 (f := .glo "is_name") rfl), a_are_names := _, fd_are_names := fd_are_names, F_are_names := F_are_names, B_are_names := F_are_names.bindsN (fun _ _ _ _ _ _ us hl => match us, hl with | [_], _ => rfl), g_are_names := He.glo_ok X G (c.fact 1 (f := .glo "are_names") rfl), a_mask_of := _, fd_mask_of := fd_mask_of, F_mask_of := F_mask_of, B_mask_of := F_mask_of.bindsN (fun _ _ _ _ _ _ us hl => match us, hl with | [_, _], _ => rfl), g_mask_of := He.glo_ok X G (c.fact 2 (f := .glo "mask_of") rfl), a_filling_at := _, fd_filling_at := fd_filling_at, F_filling_at := F_filling_at, B_filling_at := F_filling_at.bindsN (fun _ _ _ _ _ _ us hl => match us, hl with | [_, _], _ => rfl), g_filling_at := He.glo_ok X G (c.fact 3 (f := .glo "filling_at") rfl), a_written := _, fd_written := fd_written, F_written := F_written, B_written := F_written.bindsN (fun _ _ _ _ _ _ us hl => match us, hl with | [_], _ => rfl), g_written := He.glo_ok X G (c.fact 4 (f := .glo "written") rfl), a_Lot____init__ := _, fd_Lot____init__ := fd_Lot____init__, F_Lot____init__ := F_Lot____init__, B_Lot____init__ := F_Lot____init__.bindsN (fun _ _ _ _ _ _ us hl => match us, hl with | [_, _], _ => rfl), a_lot_of := _, fd_lot_of := fd_lot_of, F_lot_of := F_lot_of, B_lot_of := F_lot_of.bindsN (fun _ _ _ _ _ _ us hl => match us, hl with | [_, _], _ => rfl), g_lot_of := He.glo_ok X G (c.fact 5 (f := .glo "lot_of") rfl), a_Lot____eq__ := _, fd_Lot____eq__ := fd_Lot____eq__, F_Lot____eq__ := F_Lot____eq__, B_Lot____eq__ := F_Lot____eq__.bindsN (fun _ _ _ _ _ _ us hl => match us, hl with | [_, _], _ => rfl), a_Lot__fillings := _, fd_Lot__fillings := fd_Lot__fillings, F_Lot__fillings := F_Lot__fillings, B_Lot__fillings := F_Lot__fillings.bindsN (fun _ _ _ _ _ _ us hl => match us, hl with | [_], _ => rfl), a_Lot____len__ := _, fd_Lot____len__ := fd_Lot____len__, F_Lot____len__ := F_Lot____len__, B_Lot____len__ := F_Lot____len__.bindsN (fun _ _ _ _ _ _ us hl => match us, hl with | [_], _ => rfl), a_Lot____str__ := _, fd_Lot____str__ := fd_Lot____str__, F_Lot____str__ := F_Lot____str__, B_Lot____str__ := F_Lot____str__.bindsN (fun _ _ _ _ _ _ us hl => match us, hl with | [_], _ => rfl), a_Lot____repr__ := _, fd_Lot____repr__ := fd_Lot____repr__, F_Lot____repr__ := F_Lot____repr__, B_Lot____repr__ := F_Lot____repr__.bindsN (fun _ _ _ _ _ _ us hl => match us, hl with | [_], _ => rfl), a_Lot__barred := _, fd_Lot__barred := fd_Lot__barred, F_Lot__barred := F_Lot__barred, B_Lot__barred := F_Lot__barred.bindsN (fun _ _ _ _ _ _ us hl => match us, hl with | [_, _], _ => rfl), a_Lot__fitted := _, fd_Lot__fitted := fd_Lot__fitted, F_Lot__fitted := F_Lot__fitted, B_Lot__fitted := F_Lot__fitted.bindsN (fun _ _ _ _ _ _ us hl => match us, hl with | [_, _], _ => rfl), a_law_bag := _, fd_law_bag := fd_law_bag, F_law_bag := F_law_bag, B_law_bag := F_law_bag.bindsN (fun _ _ _ _ _ _ us hl => match us, hl with | [_, _], _ => rfl), g_law_bag := He.glo_ok X G (c.fact 6 (f := .glo "_law_bag") rfl), a_law_take := _, fd_law_take := fd_law_take, F_law_take := F_law_take, B_law_take := F_law_take.bindsN (fun _ _ _ _ _ _ us hl => match us, hl with | [_, _], _ => rfl), g_law_take := He.glo_ok X G (c.fact 7 (f := .glo "_law_take") rfl), a_law_names := _, fd_law_names := fd_law_names, F_law_names := F_law_names, B_law_names := F_law_names.bindsN (fun _ _ _ _ _ _ us hl => match us, hl with | [_, _], _ => rfl), g_law_names := He.glo_ok X G (c.fact 8 (f := .glo "_law_names") rfl), a_law_pairs := _, fd_law_pairs := fd_law_pairs, F_law_pairs := F_law_pairs, B_law_pairs := F_law_pairs.bindsN (fun _ _ _ _ _ _ us hl => match us, hl with | [_, _, _, _], _ => rfl), g_law_pairs := He.glo_ok X G (c.fact 9 (f := .glo "_law_pairs") rfl), a_law_fillings := _, fd_law_fillings := fd_law_fillings, F_law_fillings := F_law_fillings, B_law_fillings := F_law_fillings.bindsN (fun _ _ _ _ _ _ us hl => match us, hl with | [_], _ => rfl), g_law_fillings := He.glo_ok X G (c.fact 10 (f := .glo "_law_fillings") rfl), a_law_fits := _, fd_law_fits := fd_law_fits, F_law_fits := F_law_fits, B_law_fits := F_law_fits.bindsN (fun _ _ _ _ _ _ us hl => match us, hl with | [_, _, _], _ => rfl), g_law_fits := He.glo_ok X G (c.fact 11 (f := .glo "_law_fits") rfl), a_law_any := _, fd_law_any := fd_law_any, F_law_any := F_law_any, B_law_any := F_law_any.bindsN (fun _ _ _ _ _ _ us hl => match us, hl with | [_], _ => rfl), g_law_any := He.glo_ok X G (c.fact 12 (f := .glo "_law_any") rfl), a_law_lot := _, fd_law_lot := fd_law_lot, F_law_lot := F_law_lot, B_law_lot := F_law_lot.bindsN (fun _ _ _ _ _ _ us hl => match us, hl with | [_, _], _ => rfl), g_law_lot := He.glo_ok X G (c.fact 13 (f := .glo "_law_lot") rfl), a_law_text := _, fd_law_text := fd_law_text, F_law_text := F_law_text, B_law_text := F_law_text.bindsN (fun _ _ _ _ _ _ us hl => match us, hl with | [_], _ => rfl), g_law_text := He.glo_ok X G (c.fact 14 (f := .glo "_law_text") rfl), a_law := _, fd_law := fd_law, F_law := F_law, B_law := F_law.bindsN (fun _ _ _ _ _ _ us hl => match us, hl with | [_], _ => rfl), g_law := He.glo_ok X G (c.fact 15 (f := .glo "law") rfl), C_NoHouse := _, f_NoHouse := _, e_NoHouse := HX.err_of X G (c.fact 16 (f := .glo "NoHouse") rfl) (He.ba e).1 F_NoHouse ⟨_, _, rfl⟩ ⟨_, _, _, _, rfl⟩ rfl (by decide) (by decide) (fun _ _ _ _ _ _ _ _ _ _ _ _ _ _ => rfl), C_Lot := He.ga K "Lot", gC_Lot := He.glo_ok X G (c.fact 17 (f := .glo "Lot") rfl), cls_Lot := He.cls_ok (c.fact 18 (f := .cls "Lot") rfl), mk_Lot := He.mkr_ok (c.fact 19 (f := .mkr "Lot") rfl), na_Lot___bool__ := He.noat_ok (c.fact 20 (f := .noat "Lot" "__bool__") rfl), na_Lot_mask := He.noat_ok (c.fact 21 (f := .noat "Lot" "mask") rfl), na_Lot_names := He.noat_ok (c.fact 22 (f := .noat "Lot" "names") rfl), mt_Lot____eq__ := He.meth_ok (c.fact 23 (f := .meth "Lot" "__eq__") rfl), mt_Lot____len__ := He.meth_ok (c.fact 24 (f := .meth "Lot" "__len__") rfl), mt_Lot____repr__ := He.meth_ok (c.fact 25 (f := .meth "Lot" "__repr__") rfl), mt_Lot____str__ := He.meth_ok (c.fact 26 (f := .meth "Lot" "__str__") rfl), mt_Lot__barred := He.meth_ok (c.fact 27 (f := .meth "Lot" "barred") rfl), mt_Lot__fillings := He.meth_ok (c.fact 28 (f := .meth "Lot" "fillings") rfl), mt_Lot__fitted := He.meth_ok (c.fact 29 (f := .meth "Lot" "fitted") rfl), ic_Lot := icB_ok (He.ba e).2, n_abs := He.free_ok X G (c.fact 30 (f := .free "abs") rfl), n_all := He.free_ok X G (c.fact 31 (f := .free "all") rfl), n_dict := He.free_ok X G (c.fact 32 (f := .free "dict") rfl), n_isinstance := He.free_ok X G (c.fact 33 (f := .free "isinstance") rfl), n_len := He.free_ok X G (c.fact 34 (f := .free "len") rfl), n_list := He.free_ok X G (c.fact 35 (f := .free "list") rfl), n_max := He.free_ok X G (c.fact 36 (f := .free "max") rfl), n_min := He.free_ok X G (c.fact 37 (f := .free "min") rfl), n_range := He.free_ok X G (c.fact 38 (f := .free "range") rfl), n_repr := He.free_ok X G (c.fact 39 (f := .free "repr") rfl), n_set := He.free_ok X G (c.fact 40 (f := .free "set") rfl), n_sorted := He.free_ok X G (c.fact 41 (f := .free "sorted") rfl), n_str := He.free_ok X G (c.fact 42 (f := .free "str") rfl), n_tuple := He.free_ok X G (c.fact 43 (f := .free "tuple") rfl), n_zip := He.free_ok X G (c.fact 44 (f := .free "zip") rfl), c_LETTERS := He.str_ok X G (c.fact 45 (f := .str "LETTERS" "abcdefghijklmnopqrstuvwxyz") rfl), c_MOST_NAMES := He.int_ok X G (c.fact 46 (f := .int "MOST_NAMES" 10) rfl), c_MOST_SIGNS := He.int_ok X G (c.fact 47 (f := .int "MOST_SIGNS" 8) rfl) }, ?_⟩
  have z := hfa.symm.trans (He.glo_ok X G (c.fact 15 (f := .glo "law") rfl))
  cases z
  rfl
end K04
open PySem PySem.W PySem.Calls PyProof.Rows
theorem PySem.Challenge.cw_newsahead_k04_lots_alike_and_written_holds : PySem.Challenge.rw_newsahead_k04_lots_alike_and_written.Holds := by
  w_on; o_law
  refine HandSHeadRun.head_any (r := OpenLaw.row PySem.Challenge.rw_newsahead_k04_lots_alike_and_written) (q := view (OpenLaw.row PySem.Challenge.rw_newsahead_k04_lots_alike_and_written).prog [24]) (H := K04.hk) (ob := K04.ob) (M := 3000) (loose := K04.loose) (d := HandSHeadRun.topDef (OpenLaw.row PySem.Challenge.rw_newsahead_k04_lots_alike_and_written).prog 24) (kwd := []) K04.ob_eq
    (by kernel_rfl) (fun s => by kernel_rfl) K04.run (by kernel_rfl) (by kernel_rfl) (by kernel_rfl) (by rfl) (by first | assumption | decide +kernel) (by decide +kernel) ⟨rfl, rfl, rfl, rfl, rfl, by decide +kernel⟩ ?hw ?hc
  case hw => w_witness2
  case hc =>
    refine L2.walkG (l := PySem.Challenge.rw_newsahead_k04_lots_alike_and_written) (n := 63) (k := 8) (x := "_law_script") (CX := L2.CX0) rfl (by decide) (by kernel_rfl) ⟨⟨rfl, by decide, by decide⟩, rfl⟩ ?F (fun _ _ _ _ z => z)
    intro w mg fa h Y G hmg0
    obtain ⟨K, KX, says⟩ := Y
    have c := says.t.d
    have e := says.more
    have hmg : mg ("law" : PySem.Str) = some (.ref fa) := by
      have e : (HandSHeadRun.topDef (OpenLaw.row PySem.Challenge.rw_newsahead_k04_lots_alike_and_written).prog 24).name = ("law" : PySem.Str) := by kernel_rfl
      rw [← e]
      exact hmg0
    obtain ⟨T, rfl⟩ := K04.facts KX G hmg c e
    refine ⟨K, T.fd_law, _, KX, fun s u => L2.FunD.bindsA (ps := ["_law_script"]) T.F_law (fun _ _ _ _ _ _ us hl => match us, hl with | [_], _ => rfl) s [u] rfl, ?_, fun base _ _ => HX.calm (K04.ok_law (P := (PySem.Challenge.rw_newsahead_k04_lots_alike_and_written).prog) (w := w) (base := base) T)⟩
    intro H a ns hl _ hS
    exact HX.law_sp K04.law_true H a ns hl hS
