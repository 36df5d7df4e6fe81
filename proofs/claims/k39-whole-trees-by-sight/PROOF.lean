import PyProof.Rows.All
import Wide.All
import OpenK.AllK
import Wide.FinOn
import HandS.ForMost
import HandS.Exc
import HandS.ExcOwn
import HandS.WordsExc
import HandS.IsInst
import HandS.Zip
import HandS.Conv
import HandS.Strs
import HandS.TupAny
import HandS.TupMul
import HandS.TupLe
import HandS.Deep
import HandS.ExcCtx
import HandS.HotCalls
import HandS.ExcIs
import HandS.Style
import HandS.Dict
import KE.DataFind
import HandS.Zip0
import HandS.TupSets
import PyProof.TupleOfSeq
import HandS.Text
import HandS.RaiseMore
import HandS.List
import HandS.SetTxt0
import HandS.SetFor
import PyProof.ListStr
import HandS.Replace
import HandS.Iter
import HandS.DictTup
import KE.KDictSum
import KE.KDictCopyH
import KE.KDictPairs
import KE.DataMinMax
import HandS.SortRule
import HandS.SortInts
import HandS.DeepEq
import KE.KSortTupAny
import KE.LtData
import PyProof.P3Eq
import HandS.ListItems
import PyProof.FactsAll.dict_items_1
import PySem.Challenge.RW_hillarms_k39_whole_trees_by_sight
set_option Elab.async false
set_option linter.all false
set_option maxRecDepth 100000
set_option maxHeartbeats 4000000
/-! tuples of words are known to have no dict: they are laid as known objects, so that their methods may be called -/
namespace Hz
open PySem PySem.Spec PyProof.Rows L2
def resW : List Str := ["begin", "end", "halt", "spell", "strike", "word", "rest"]
def isSV : V → Bool
  | .str _ => true
  | _ => false
def needNV : List V → Bool
  | .str x :: vs => !decide (x ∈ resW) && vs.all isSV
  | _ => false
def tupO (ob : Obj) (xs : List V) : HO := if needNV xs = true then .frz ob (.tup xs) else .tup xs
theorem tupO_sq {K : PySem.W.Frag} {H : Hp} {a : Addr} {ob : Obj} {xs : List V} (h : H a = some (tupO ob xs)) : SqT K H a xs := by
  unfold tupO at h
  split at h
  · exact .inl (.inr ⟨ob, h⟩)
  · exact .inl (.inl h)
def NoD (K : PySem.W.Frag) (H : Hp) (a : Addr) : Prop := (∃ (o : Obj) (xs : List V), H a = some (.frz o (.tup xs)) ∧ o.dict = none) ∨ ∃ o : Obj, K.lookup a = some o ∧ o.cls = .type "tuple" ∧ o.dict = none
theorem tupO_nd {K : PySem.W.Frag} {H : Hp} {a : Addr} {ob : Obj} {xs : List V} (h : H a = some (tupO ob xs)) (hd : ob.dict = none) (hn : needNV xs = true) : NoD K H a := by
  unfold tupO at h
  rw [if_pos hn] at h
  exact .inl ⟨ob, _, h, hd⟩
theorem tupO_ok {P : Program} {w : World} {H : Hp} {h : Heap} {a : Addr} {ob : Obj} {xs : List V} (hg : h.get? a = some ob) (hk : ObjOk P w H h a (.tup xs)) : ObjOk P w H h a (tupO ob xs) := by
  unfold tupO
  split
  · exact ⟨hg, hk⟩
  · exact hk
section
variable {X : Cx} {es : List Expr} {t : TA} {pos : Pos}
def tTupP (t : TA) : TE := fun σ H Q => t σ H fun xs H1 => xs.length ≤ sizeLine ∧ ∀ p ob, H1 p = none → ob.dict = none → Q (.ref p) (upd H1 p (tupO ob xs))
theorem pe_tupP {k : Nat} (h : PA X es t) : PE X (.Tuple es k pos) (tTupP t) := by
  refine ⟨fun pins s σ H Q I hq => ?_⟩
  refine wpAny_Tuple_spliced (thn (h.run pos pins s σ H _ I hq) fun us s1 hx => ?_)
  obtain ⟨xs, H1, I1, r, z, q⟩ := hx
  refine ⟨by rw [← r.length]; exact z, ?_⟩
  have fresh : H1 s1.heap.objs.size = none := I1.hok.fresh (Nat.le_refl _)
  have new : (s1.heap.push { cls := .type "tuple", data := .seq us.toArray }).get? s1.heap.objs.size = some { cls := .type "tuple", data := .seq us.toArray } := Heap.get?_push_size _ rfl
  exact ⟨.ref s1.heap.objs.size, _, I1.laid (t' := s1.toks) (fun b u e => Heap.get?_push_of_some _ e) (Nat.le_refl _) (tupO_ok new ⟨z, us, r, ⟨_, new, rfl, _, rfl⟩⟩), rfl, q _ _ fresh rfl⟩
def rCatP (K : PySem.W.Frag) : R2 := fun x y H Q => ∃ a b xs ys, x = .ref a ∧ y = .ref b ∧ SqT K H a xs ∧ SqT K H b ys ∧ xs.length + ys.length ≤ sizeLine ∧
  (xs = [] → Q (.ref b) H) ∧ (xs ≠ [] → ys = [] → Q (.ref a) H) ∧ (xs ≠ [] → ys ≠ [] → ∀ p ob, H p = none → ob.dict = none → Q (.ref p) (upd H p (tupO ob (xs ++ ys))))
theorem op_catP : OpR X (binaryOp .Add) (rCatP X.K) := by
  intro pins s σ H x y v u Q I rx ry hh
  obtain ⟨a, b, xs, ys, rfl, rfl, ha, hb, hz, q0, q1, q2⟩ := hh
  by_cases hx : xs = []
  · exact op_catA pins s σ H _ _ v u Q I rx ry ⟨a, b, xs, ys, rfl, rfl, ha, hb, hz, q0, q1, fun h => absurd hx h⟩
  by_cases hy : ys = []
  · exact op_catA pins s σ H _ _ v u Q I rx ry ⟨a, b, xs, ys, rfl, rfl, ha, hb, hz, q0, q1, fun _ h => absurd hy h⟩
  cases rx
  cases ry
  obtain ⟨ia, r1, p1, _⟩ := I.tuple ha
  obtain ⟨ib, r2, p2, _⟩ := I.tuple hb
  refine HT.cat_tup p1 p2 (fun z => hx (r1.nil_iff.mp z)) (fun z => absurd (r2.nil_iff.mp z) hy) (fun z => ?_) (by rw [← r1.length, ← r2.length]; exact hz)
  have hzz : (xs ++ ys).length ≤ sizeLine := by rw [List.length_append]; exact hz
  exact ⟨.ref s.heap.objs.size, _, I.laid (t' := s.toks) (fun b ob q => Heap.get?_push_of_some _ q) (Nat.le_refl _) (tupO_ok (Heap.get?_push_size _ rfl) ⟨hzz, _, r1.append r2, IsTup.new _ _⟩), rfl, q2 hx hy _ _ (I.hok.fresh (Nat.le_refl _)) rfl⟩
def rSlP (K : PySem.W.Frag) : V → Option Int → Option Int → Hp → VK → Prop := fun x lo hi H Q => ∃ a xs, x = .ref a ∧ SqT K H a xs ∧
  (HT.sIx xs.length 0 lo = 0 ∧ HT.sIx xs.length xs.length hi = xs.length → Q (.ref a) H) ∧ (¬ (HT.sIx xs.length 0 lo = 0 ∧ HT.sIx xs.length xs.length hi = xs.length) → ∀ p ob, H p = none → ob.dict = none → Q (.ref p) (upd H p (tupO ob (cutV xs lo hi))))
theorem sl_tupP : SlR X (rSlP X.K) := by
  intro pins s σ H x v vl vu lo hi sl Q I rx hs pl pu hh
  obtain ⟨a, xs, rfl, hx, q1, q2⟩ := hh
  by_cases hw : HT.sIx xs.length 0 lo = 0 ∧ HT.sIx xs.length xs.length hi = xs.length
  · exact sl_tupA pins s σ H _ v vl vu lo hi sl Q I rx hs pl pu ⟨a, xs, rfl, hx, q1, fun z => absurd hw z⟩
  cases rx
  obtain ⟨its, r, ht, hz⟩ := I.tuple hx
  have hlen : its.toArray.size = xs.length := by rw [List.size_toArray]; exact r.length.symm
  refine ⟨"tuple", _, PyProof.Rows.slot_tuple_getitem.lookup, ht.typeIs, ?_⟩
  refine HT.getItem_tuple_cut ht hs pl pu (by rw [hlen]; exact hw) ?_ (by rw [hlen]; exact hz)
  rw [hlen]
  have hcl := cutV_length xs lo hi
  exact ⟨.ref s.heap.objs.size, _, I.laid (t' := s.toks) (fun b ob q => Heap.get?_push_of_some _ q) (Nat.le_refl _) (tupO_ok (Heap.get?_push_size _ rfl) ⟨Nat.le_trans hcl hz, _, (r.drop (HT.sIx xs.length 0 lo)).take (HT.sIx xs.length xs.length hi - HT.sIx xs.length 0 lo), IsTup.new _ _⟩), rfl, q2 hw _ _ (I.hok.fresh (Nat.le_refl _)) rfl⟩
def rTupOfP (K : PySem.W.Frag) : List V → Hp → VK → Prop := fun xs H Q => ∃ p ys, xs = [V.ref p] ∧ ((SqL K H p ys ∧ ∀ l ob, H l = none → ob.dict = none → Q (.ref l) (upd H l (tupO ob ys))) ∨ (SqT K H p ys ∧ Q (.ref p) H))
theorem call_tuple_ofP : CallR X (.type "tuple") (rTupOfP X.K) := by
  intro pins s σ H xs us Q I r hh
  obtain ⟨p, ys, rfl, hh⟩ := hh
  rcases hh with ⟨hq, q⟩ | ⟨hq, q⟩
  · obtain ⟨u, rfl, rx⟩ := vals1 r
    cases rx
    obtain ⟨its, r', pl, hz⟩ := I.list hq
    have hlen := r'.length
    refine call_tuple_list pl.isList (fun h' kp => ?_) (by simp only [List.size_toArray] <;> omega)
    have I1 : Inv X pins σ H { s with heap := h' } := I.kept (t' := s.toks) kp
    exact ⟨.ref h'.objs.size, _, I1.laid (t' := s.toks) (fun b o e => Heap.get?_push_of_some _ e) (Nat.le_refl _) (tupO_ok (Heap.get?_push_size _ rfl) ⟨hz, its, r', IsTup.new _ _⟩), rfl, q _ _ (I1.hok.fresh (Nat.le_refl _)) rfl⟩
  · exact call_tuple_of pins s σ H _ us Q I r ⟨p, ys, rfl, .inr ⟨hq, q⟩⟩
end
end Hz

/-! Hz: plain data, what stands for it in a heap, and judgements that tie a piece of text to a function on plain data. -/
namespace Hz
open PySem PySem.Spec PyProof.Rows L2

abbrev D := PyData
inductive R (α : Type) where
  | ok (a : α) | err (c : Nat) | bad
def R.bind {α β : Type} (r : R α) (k : α → R β) : R β := match r with
  | .ok a => k a
  | .err c => .err c
  | .bad => .bad
def Ans {α : Type} (r : R α) (f : α → Prop) (e : Nat → Prop) : Prop := match r with
  | .ok a => f a
  | .err c => e c
  | .bad => False
theorem Ans.bind {α β : Type} {r : R α} {k : α → R β} {f : β → Prop} {e : Nat → Prop} (h : Ans (r.bind k) f e) : Ans r (fun a => Ans (k a) f e) e := by
  cases r <;> exact h
theorem Ans.mono {α : Type} {r : R α} {f g : α → Prop} {e e' : Nat → Prop} (h : Ans r f e) (hf : ∀ a, f a → g a) (he : ∀ c, e c → e' c) : Ans r g e' := by
  cases r with
  | ok a => exact hf a h
  | err c => exact he c h
  | bad => exact h
@[simp] theorem bind_ok {α β : Type} (a : α) (k : α → R β) : (R.ok a).bind k = k a := id rfl
@[simp] theorem bind_err {α β : Type} (c : Nat) (k : α → R β) : (R.err c : R α).bind k = .err c := id rfl
@[simp] theorem bind_bad {α β : Type} (k : α → R β) : (R.bad : R α).bind k = .bad := id rfl

def kD : Key → D
  | .inl i => .int i
  | .inr x => .str x

def isSD : D → Bool
  | .str _ => true
  | _ => false
def needN : List D → Bool
  | .str x :: ds => !decide (x ∈ resW) && ds.all isSD
  | _ => false
def isPr : List D → Bool
  | [.int _, .int _] => true
  | _ => false
theorem isPr_eq {ds : List D} (h : isPr ds = true) : ∃ x y, ds = [.int x, .int y] := by
  unfold isPr at h
  split at h
  · exact ⟨_, _, rfl⟩
  · cases h
def fK (fs : List (Str × V)) : List (Key × V) := fs.map fun p => (.inr p.1, p.2)
def PostC (K : PySem.W.Frag) (C : Addr) : Prop := PySem.W.nsIn K mainGlobals "Post" = some (some (.ref C))
/-! ### what stands for plain data -/
mutual
inductive Rp (K : PySem.W.Frag) (G : Hp) : V → D → Prop
  | non : Rp K G .non .none
  | bl (b : Bool) : Rp K G (.bl b) (.bool b)
  | int (i : Int) : Rp K G (.int i) (.int i)
  | str (x : Str) : Rp K G (.str x) (.str x)
  | lst {a : Addr} {xs : List V} {ds : List D} : G a = some (.lst xs) → RpA K G xs ds → Rp K G (.ref a) (.list ds)
  | scr {a : Addr} {ns : List Int} : SqL K G a (ns.map V.int) → Rp K G (.ref a) (.dict [(.none, .list (ns.map PyData.int))])
  | tup {a : Addr} {xs : List V} {ds : List D} : SqT K G a xs → RpA K G xs ds → (needN ds = true → NoD K G a) ∧ (isPr ds = true → G a = some (.tup xs)) → Rp K G (.ref a) (.tuple ds)
  | dic {a : Addr} {kvs : List (Key × V)} {ds : List (D × D)} : Rd G a (.dK kvs) → RpK K G kvs ds → Rp K G (.ref a) (.dict ds)
  | dit {a : Addr} {kvs : List (List Key × V)} {ds : List (D × D)} : G a = some (.dT kvs) → RpT K G kvs ds → Rp K G (.ref a) (.dict ((.bool true, .none) :: ds))
  | ins {a C dx : Addr} {fs : List (Str × V)} {ds : List (D × D)} : G a = some (.ins C dx fs) → PostC K C → RpK K G (fK fs) ds → Rp K G (.ref a) (.dict [(.bool false, .dict ds)])
  | rcd {a : Addr} {kvs : List (Key × V)} {ds : List (D × D)} : Rd G a (.dK kvs) → RpK K G kvs ds → Rp K G (.ref a) (.dict ((.bool false, .int 1) :: ds))
inductive RpA (K : PySem.W.Frag) (G : Hp) : List V → List D → Prop
  | nil : RpA K G [] []
  | cons {v : V} {vs : List V} {d : D} {ds : List D} : Rp K G v d → RpA K G vs ds → RpA K G (v :: vs) (d :: ds)
inductive RpK (K : PySem.W.Frag) (G : Hp) : List (Key × V) → List (D × D) → Prop
  | nil : RpK K G [] []
  | cons {k : Key} {v : V} {kvs : List (Key × V)} {d : D} {ds : List (D × D)} : Rp K G v d → RpK K G kvs ds → RpK K G ((k, v) :: kvs) ((kD k, d) :: ds)
inductive RpT (K : PySem.W.Frag) (G : Hp) : List (List Key × V) → List (D × D) → Prop
  | nil : RpT K G [] []
  | cons {k : List Key} {v : V} {kvs : List (List Key × V)} {d : D} {ds : List (D × D)} : Rp K G v d → RpT K G kvs ds → RpT K G ((k, v) :: kvs) ((.tuple (k.map kD), d) :: ds)
end

theorem Same.rd {H H' : Hp} {a : Addr} {u : HO} (e : Same H H') (h : Rd H a u) : Rd H' a u := by
  rcases h with h | ⟨o, h⟩
  · exact .inl (e a _ h)
  · exact .inr ⟨o, e a _ h⟩
theorem Same.sqT {K : PySem.W.Frag} {H H' : Hp} {a : Addr} {xs : List V} (e : Same H H') (h : SqT K H a xs) : SqT K H' a xs := by
  rcases h with h | h
  · exact .inl (Same.rd e h)
  · exact .inr h
theorem Same.nd {K : PySem.W.Frag} {H H' : Hp} {a : Addr} (e : Same H H') (h : NoD K H a) : NoD K H' a := by
  rcases h with ⟨o, u, h, hd⟩ | h
  · exact .inl ⟨o, u, e a _ h, hd⟩
  · exact .inr h
theorem Same.new {H : Hp} {p : Addr} {o : HO} (h : H p = none) : Same H (upd H p o) := fun a u e => by
  rw [upd_ne (ne_of_none e h)]
  exact e
theorem Same.mut {H H' : Hp} {p : Addr} {o : HO} (e : Same H H') (h : H p = none) : Same H (upd H' p o) := fun a u ha => by
  rw [upd_ne (ne_of_none ha h)]
  exact e a u ha

section
variable {K : PySem.W.Frag} {G G' : Hp}
mutual
theorem Rp.mono (e : Same G G') : ∀ {v : V} {d : D}, Rp K G v d → Rp K G' v d
  | _, _, .non => .non
  | _, _, .bl b => .bl b
  | _, _, .int i => .int i
  | _, _, .str x => .str x
  | _, _, .lst h a => .lst (e _ _ h) (RpA.mono e a)
  | _, _, .scr h => .scr (e.seq h)
  | _, _, .tup h a n => .tup (Same.sqT e h) (RpA.mono e a) ⟨fun z => Same.nd e (n.1 z), fun z => e _ _ (n.2 z)⟩
  | _, _, .dic h a => .dic (Same.rd e h) (RpK.mono e a)
  | _, _, .dit h a => .dit (e _ _ h) (RpT.mono e a)
  | _, _, .ins h c a => .ins (e _ _ h) c (RpK.mono e a)
  | _, _, .rcd h a => .rcd (Same.rd e h) (RpK.mono e a)
theorem RpA.mono (e : Same G G') : ∀ {vs : List V} {ds : List D}, RpA K G vs ds → RpA K G' vs ds
  | _, _, .nil => .nil
  | _, _, .cons h a => .cons (Rp.mono e h) (RpA.mono e a)
theorem RpK.mono (e : Same G G') : ∀ {vs : List (Key × V)} {ds : List (D × D)}, RpK K G vs ds → RpK K G' vs ds
  | _, _, .nil => .nil
  | _, _, .cons h a => .cons (Rp.mono e h) (RpK.mono e a)
theorem RpT.mono (e : Same G G') : ∀ {vs : List (List Key × V)} {ds : List (D × D)}, RpT K G vs ds → RpT K G' vs ds
  | _, _, .nil => .nil
  | _, _, .cons h a => .cons (Rp.mono e h) (RpT.mono e a)
end
theorem RpA.length : ∀ {vs : List V} {ds : List D}, RpA K G vs ds → vs.length = ds.length
  | _, _, .nil => rfl
  | _, _, .cons _ a => by simp [RpA.length a]
theorem RpA.get : ∀ {vs : List V} {ds : List D} {i : Nat} {d : D}, RpA K G vs ds → ds[i]? = some d → ∃ v, vs[i]? = some v ∧ Rp K G v d
  | _, _, _, _, .nil, h => by simp at h
  | _, _, 0, _, .cons h _, e => by
    simp at e
    subst e
    exact ⟨_, rfl, h⟩
  | _, _, i + 1, _, .cons _ a, e => RpA.get (i := i) a (by simpa using e)
theorem RpA.append : ∀ {vs ws : List V} {ds es : List D}, RpA K G vs ds → RpA K G ws es → RpA K G (vs ++ ws) (ds ++ es)
  | _, _, _, _, .nil, s => s
  | _, _, _, _, .cons h a, s => .cons h (RpA.append a s)
theorem RpA.drop : ∀ {vs : List V} {ds : List D} (n : Nat), RpA K G vs ds → RpA K G (vs.drop n) (ds.drop n)
  | _, _, 0, r => r
  | _, _, _ + 1, .nil => .nil
  | _, _, n + 1, .cons _ a => RpA.drop n a
theorem RpA.take : ∀ {vs : List V} {ds : List D} (n : Nat), RpA K G vs ds → RpA K G (vs.take n) (ds.take n)
  | _, _, 0, _ => .nil
  | _, _, _ + 1, .nil => .nil
  | _, _, n + 1, .cons h a => .cons h (RpA.take n a)
theorem RpA.set : ∀ {vs : List V} {ds : List D} {v : V} {d : D} (n : Nat), RpA K G vs ds → Rp K G v d → RpA K G (vs.set n v) (ds.set n d)
  | _, _, _, _, _, .nil, _ => .nil
  | _, _, _, _, 0, .cons _ a, h => .cons h a
  | _, _, _, _, n + 1, .cons h a, k => .cons h (RpA.set n a k)
theorem RpA.erase : ∀ {vs : List V} {ds : List D} (n : Nat), RpA K G vs ds → RpA K G (vs.eraseIdx n) (ds.eraseIdx n)
  | _, _, _, .nil => .nil
  | _, _, 0, .cons _ a => a
  | _, _, n + 1, .cons h a => .cons h (RpA.erase n a)
theorem RpA.flat {vs : List V} {ds : List D} (h : RpA K G vs ds) : ∀ k : Nat, RpA K G (List.replicate k vs).flatten (List.replicate k ds).flatten
  | 0 => .nil
  | k + 1 => by
    rw [List.replicate_succ, List.replicate_succ, List.flatten_cons, List.flatten_cons]
    exact h.append (RpA.flat h k)
theorem RpA.ints : ∀ {vs : List V} {ns : List Int}, RpA K G vs (ns.map PyData.int) → vs = ns.map V.int
  | _, [], h => by cases h; rfl
  | _, n :: ns, h => by
    cases h with
    | cons h a =>
      cases h
      rw [RpA.ints a]
      rfl
theorem RpA.strs : ∀ {vs : List V} {ns : List Str}, RpA K G vs (ns.map PyData.str) → vs = ns.map V.str
  | _, [], h => by cases h; rfl
  | _, n :: ns, h => by
    cases h with
    | cons h a =>
      cases h
      rw [RpA.strs a]
      rfl
theorem RpA.bools : ∀ {vs : List V} {ns : List Bool}, RpA K G vs (ns.map PyData.bool) → vs = ns.map V.bl
  | _, [], h => by cases h; rfl
  | _, n :: ns, h => by
    cases h with
    | cons h a =>
      cases h
      rw [RpA.bools a]
      rfl
theorem RpA.of_ints : ∀ (ns : List Int), RpA K G (ns.map V.int) (ns.map PyData.int)
  | [] => .nil
  | n :: ns => .cons (.int n) (RpA.of_ints ns)
theorem RpA.of_strs : ∀ (ns : List Str), RpA K G (ns.map V.str) (ns.map PyData.str)
  | [] => .nil
  | n :: ns => .cons (.str n) (RpA.of_strs ns)
theorem Rp.dp : ∀ {v : V} {d : D}, Rp K G v d → d.canLay0 = true → Dp K G v d := by
  have go : ∀ (n : Nat) (v : V) (d : D), sizeOf d < n → Rp K G v d → d.canLay0 = true → Dp K G v d := by
    intro n
    induction n with
    | zero => intro v d h; omega
    | succ n ih =>
      have all : ∀ (vs : List V) (ds : List D), sizeOf ds < n + 1 → RpA K G vs ds → PyData.canLayAll0 ds = true → DpAll K G vs ds := by
        intro vs
        induction vs with
        | nil => intro ds _ h _; cases h; exact .nil
        | cons v vs ihv =>
          intro ds hs h hc
          cases h with
          | @cons _ _ d ds h a =>
            have hc' : d.canLay0 = true ∧ PyData.canLayAll0 ds = true := by simpa [PyData.canLayAll0] using hc
            have hs' : 1 + sizeOf d + sizeOf ds < n + 1 := by simpa using hs
            exact .cons (ih v d (by omega) h hc'.1) (ihv ds (by omega) a hc'.2)
      intro v d hs h hc
      cases h with
      | non => exact .non
      | bl b => exact .bl b
      | int i => exact .int i
      | str x => exact .str x
      | @lst a xs ds h a =>
        have hs' : 1 + sizeOf ds < n + 1 := by simpa using hs
        exact .lst (SqL.of h) (all _ _ (by omega) a (by simpa [PyData.canLay0] using hc))
      | @tup a xs ds h a _ =>
        have hs' : 1 + sizeOf ds < n + 1 := by simpa using hs
        exact .tup h (all _ _ (by omega) a (by simpa [PyData.canLay0] using hc))
      | scr h => simp [PyData.canLay0] at hc
      | dic h a => simp [PyData.canLay0] at hc
      | dit h a => simp [PyData.canLay0] at hc
      | ins h c a => simp [PyData.canLay0] at hc
      | rcd h a => simp [PyData.canLay0] at hc
  intro v d h hc
  exact go (sizeOf d + 1) v d (Nat.lt_succ_self _) h hc
theorem RpA.isS : ∀ {vs : List V} {ds : List D}, RpA K G vs ds → vs.all isSV = ds.all isSD
  | _, _, .nil => rfl
  | _, _, .cons h a => by
    rw [List.all_cons, List.all_cons, RpA.isS a]
    cases h <;> rfl
theorem RpA.need {vs : List V} {ds : List D} (r : RpA K G vs ds) : needNV vs = needN ds := by
  cases r with
  | nil => rfl
  | cons h a =>
    cases h <;> first | rfl | skip
    show (_ && _) = (_ && _)
    rw [RpA.isS a]
theorem Rp.lay {ob : Obj} {a : Addr} {xs : List V} {ds : List D} (h : G a = some (tupO ob xs)) (hd : ob.dict = none) (r : RpA K G xs ds) : Rp K G (.ref a) (.tuple ds) :=
  .tup (tupO_sq h) r ⟨fun z => tupO_nd h hd (r.need.trans z), fun z => by
    obtain ⟨x, y, rfl⟩ := isPr_eq z
    rw [h]
    unfold tupO
    rw [if_neg (by rw [r.need]; simp [needN])]⟩
end
end Hz

namespace Hz
open PySem PySem.Spec PyProof.Rows L2

abbrev Env := List (Option D)
abbrev Os := List (Addr × HO)
def dm (os : Os) : List Addr := os.map (·.1)
def addO (G : Hp) : Os → Hp
  | [] => G
  | p :: os => upd (addO G os) p.1 p.2
theorem dm_mem {os : Os} {x : Addr} : x ∈ dm os ↔ ∃ o, (x, o) ∈ os := by
  unfold dm
  rw [List.mem_map]
  exact ⟨fun ⟨p, h, e⟩ => ⟨p.2, by rw [← e]; exact h⟩, fun ⟨o, h⟩ => ⟨_, h, rfl⟩⟩
theorem addO_out {G : Hp} {x : Addr} : ∀ {os : Os}, x ∉ dm os → addO G os x = G x
  | [], _ => rfl
  | p :: os, h => by
    unfold addO
    unfold dm at h
    rw [List.map_cons, List.mem_cons, not_or] at h
    rw [upd_ne h.1]
    exact addO_out h.2
theorem addO_in {G : Hp} {x : Addr} {o : HO} : ∀ {os : Os}, (dm os).Nodup → (x, o) ∈ os → addO G os x = some o
  | [], _, h => by cases h
  | p :: os, n, h => by
    unfold addO
    unfold dm at n
    rw [List.map_cons, List.nodup_cons] at n
    rcases List.mem_cons.mp h with h | h
    · rw [← h]
      exact upd_same
    · have ne : x ≠ p.1 := fun z => n.1 (z ▸ List.mem_map.mpr ⟨_, h, rfl⟩)
      rw [upd_ne ne]
      exact addO_in n.2 h
theorem addO_append (G : Hp) (b : Os) : ∀ a : Os, addO G (a ++ b) = addO (addO G b) a
  | [] => rfl
  | p :: a => by
    show upd (addO G (a ++ b)) p.1 p.2 = upd (addO (addO G b) a) p.1 p.2
    rw [addO_append G b a]
theorem dm_append (a b : Os) : dm (a ++ b) = dm a ++ dm b := List.map_append
theorem addO_comm {G : Hp} {a b : Os} (n : (dm (a ++ b)).Nodup) : addO (addO G a) b = addO G (a ++ b) := by
  rw [addO_append]
  rw [dm_append, List.nodup_append] at n
  funext x
  by_cases ha : x ∈ dm a
  · have hb : x ∉ dm b := fun z => n.2.2 x ha x z rfl
    obtain ⟨o, ho⟩ := dm_mem.mp ha
    rw [addO_out hb, addO_in n.1 ho, addO_in n.1 ho]
  · by_cases hb : x ∈ dm b
    · obtain ⟨o, ho⟩ := dm_mem.mp hb
      rw [addO_in n.2.1 ho, addO_out ha, addO_in n.2.1 ho]
    · rw [addO_out hb, addO_out ha, addO_out ha, addO_out hb]
def NT (o : HO) : Prop := ∀ xs, o ≠ .tup xs

def Cell (K : PySem.W.Frag) (G H : Hp) (p : Addr) (d : D) : Prop := G p = none ∧
  ((∃ vs ds, d = .list ds ∧ H p = some (.lst vs) ∧ RpA K G vs ds) ∨
   (∃ kvs ds, d = .dict ds ∧ H p = some (.dK kvs) ∧ RpK K G kvs ds) ∨
   (∃ kvs ds, d = .dict ((.bool true, .none) :: ds) ∧ H p = some (.dT kvs) ∧ RpT K G kvs ds))
theorem Cell.mono {K : PySem.W.Frag} {G G' H H' : Hp} {p : Addr} {d : D} (c : Cell K G H p d) (e : Same G G') (hp : G' p = none) (hH : ∀ o, H p = some o → H' p = some o) : Cell K G' H' p d := by
  obtain ⟨_, c⟩ := c
  refine ⟨hp, ?_⟩
  rcases c with ⟨vs, ds, e1, e2, r⟩ | ⟨vs, ds, e1, e2, r⟩ | ⟨vs, ds, e1, e2, r⟩
  · exact .inl ⟨vs, ds, e1, hH _ e2, r.mono e⟩
  · exact .inr (.inl ⟨vs, ds, e1, hH _ e2, r.mono e⟩)
  · exact .inr (.inr ⟨vs, ds, e1, hH _ e2, r.mono e⟩)
theorem Cell.there2 {K : PySem.W.Frag} {G H : Hp} {p : Addr} {d : D} (c : Cell K G H p d) : ∃ o, H p = some o ∧ ∀ xs, o ≠ .tup xs := by
  obtain ⟨_, c⟩ := c
  rcases c with ⟨vs, ds, e1, e2, r⟩ | ⟨vs, ds, e1, e2, r⟩ | ⟨vs, ds, e1, e2, r⟩ <;> exact ⟨_, e2, fun xs z => by cases z⟩
theorem Cell.nt {K : PySem.W.Frag} {G H : Hp} {p : Addr} {d : D} {o : HO} (c : Cell K G H p d) (h : H p = some o) : NT o := by
  obtain ⟨u, hu, n⟩ := c.there2
  rw [h] at hu
  cases hu
  exact n
theorem Cell.there {K : PySem.W.Frag} {G H : Hp} {p : Addr} {d : D} (c : Cell K G H p d) : ∃ o, H p = some o := by
  obtain ⟨_, c⟩ := c
  rcases c with ⟨vs, ds, e1, e2, r⟩ | ⟨vs, ds, e1, e2, r⟩ | ⟨vs, ds, e1, e2, r⟩ <;> exact ⟨_, e2⟩

/-! ### objects with objects in them -/
def fk (f : Str) : Nat := if f ∈ (["told", "fogs", "wrong", "rows", "fog", "slips", "log", "items"] : List Str) then 1 else if f ∈ (["tellings", "books", "got_there", "heard"] : List Str) then 2 else 0
section
variable (K : PySem.W.Frag) (G : Hp)
inductive Fl1 : V → D → Os → Prop
  | lst {p : Addr} {vs : List V} {ds : List D} : RpA K G vs ds → Fl1 (.ref p) (.list ds) [(p, .lst vs)]
  | dic {p : Addr} {kvs : List (Key × V)} {ds : List (D × D)} : RpK K G kvs ds → Fl1 (.ref p) (.dict ds) [(p, .dK kvs)]
inductive FlA : List V → List D → Os → Prop
  | nil : FlA [] [] []
  | cons {v : V} {d : D} {o1 o2 : Os} {vs : List V} {ds : List D} : Fl1 K G v d o1 → FlA vs ds o2 → FlA (v :: vs) (d :: ds) (o1 ++ o2)
inductive FlK : List (Key × V) → List (D × D) → Os → Prop
  | nil : FlK [] [] []
  | cons {k : Key} {v : V} {d : D} {o1 o2 : Os} {kvs : List (Key × V)} {ds : List (D × D)} : Fl1 K G v d o1 → FlK kvs ds o2 → FlK ((k, v) :: kvs) ((kD k, d) :: ds) (o1 ++ o2)
inductive Fd : Nat → V → D → Os → Prop
  | fz {v : V} {d : D} : Rp K G v d → Fd 0 v d []
  | fl {v : V} {d : D} {os : Os} : Fl1 K G v d os → Fd 1 v d os
  | ll {p : Addr} {vs : List V} {ds : List D} {os : Os} : FlA K G vs ds os → Fd 2 (.ref p) (.list ds) ((p, .lst vs) :: os)
  | dl {p : Addr} {kvs : List (Key × V)} {ds : List (D × D)} {os : Os} : FlK K G kvs ds os → Fd 2 (.ref p) (.dict ds) ((p, .dK kvs) :: os)
inductive DFs : List (Str × V) → List (D × D) → Os → Prop
  | nil : DFs [] [] []
  | cons {f : Str} {v : V} {d : D} {o1 o2 : Os} {fs : List (Str × V)} {ds : List (D × D)} : Fd K G (fk f) v d o1 → DFs fs ds o2 → DFs ((f, v) :: fs) ((.str f, d) :: ds) (o1 ++ o2)
inductive CellO (p : Addr) : D → Os → Prop
  | lst {vs : List V} {ds : List D} : RpA K G vs ds → CellO p (.list ds) [(p, .lst vs)]
  | dic {kvs : List (Key × V)} {ds : List (D × D)} : RpK K G kvs ds → CellO p (.dict ds) [(p, .dK kvs)]
  | dit {kvs : List (List Key × V)} {ds : List (D × D)} : RpT K G kvs ds → CellO p (.dict ((.bool true, .none) :: ds)) [(p, .dT kvs)]
  | ins {C dx : Addr} {fs : List (Str × V)} {ds : List (D × D)} {os : Os} : PostC K C → DFs K G fs ds os → CellO p (.dict [(.bool false, .dict ds)]) ((p, .ins C dx fs) :: (dx, .own p) :: os)
  | rcd {fs : List (Str × V)} {ds : List (D × D)} {os : Os} : DFs K G fs ds os → CellO p (.dict ((.bool false, .int 1) :: ds)) ((p, .dK (fK fs)) :: os)
end
section
variable {K : PySem.W.Frag} {G G' H H' : Hp}
theorem Fl1.mono (e : Same G G') {v : V} {d : D} {os : Os} (h : Fl1 K G v d os) : Fl1 K G' v d os := by
  cases h with
  | lst r => exact .lst (r.mono e)
  | dic r => exact .dic (r.mono e)
theorem FlA.mono (e : Same G G') : ∀ {vs : List V} {ds : List D} {os : Os}, FlA K G vs ds os → FlA K G' vs ds os
  | _, _, _, .nil => .nil
  | _, _, _, .cons h t => .cons (h.mono e) (FlA.mono e t)
theorem FlK.mono (e : Same G G') : ∀ {vs : List (Key × V)} {ds : List (D × D)} {os : Os}, FlK K G vs ds os → FlK K G' vs ds os
  | _, _, _, .nil => .nil
  | _, _, _, .cons h t => .cons (h.mono e) (FlK.mono e t)
theorem Fd.mono (e : Same G G') {n : Nat} {v : V} {d : D} {os : Os} (h : Fd K G n v d os) : Fd K G' n v d os := by
  cases h with
  | fz r => exact .fz (r.mono e)
  | fl r => exact .fl (r.mono e)
  | ll r => exact .ll (r.mono e)
  | dl r => exact .dl (r.mono e)
theorem DFs.mono (e : Same G G') : ∀ {fs : List (Str × V)} {ds : List (D × D)} {os : Os}, DFs K G fs ds os → DFs K G' fs ds os
  | _, _, _, .nil => .nil
  | _, _, _, .cons h t => .cons (h.mono e) (DFs.mono e t)
theorem CellO.mono (e : Same G G') {p : Addr} {d : D} {os : Os} (h : CellO K G p d os) : CellO K G' p d os := by
  cases h with
  | lst r => exact .lst (r.mono e)
  | dic r => exact .dic (r.mono e)
  | dit r => exact .dit (r.mono e)
  | ins c r => exact .ins c (r.mono e)
  | rcd r => exact .rcd (r.mono e)
theorem Fl1.rp (e : Same G G') {v : V} {d : D} {os : Os} (h : Fl1 K G v d os) (g : ∀ x o, (x, o) ∈ os → G' x = some o) : Rp K G' v d := by
  cases h with
  | lst r => exact .lst (g _ _ (List.mem_singleton.mpr rfl)) (r.mono e)
  | dic r => exact .dic (.inl (g _ _ (List.mem_singleton.mpr rfl))) (r.mono e)
theorem FlA.rp (e : Same G G') : ∀ {vs : List V} {ds : List D} {os : Os}, FlA K G vs ds os → (∀ x o, (x, o) ∈ os → G' x = some o) → RpA K G' vs ds
  | _, _, _, .nil, _ => .nil
  | _, _, _, .cons h t, g => .cons (h.rp e fun x o m => g x o (List.mem_append_left _ m)) (FlA.rp e t fun x o m => g x o (List.mem_append_right _ m))
theorem FlK.rp (e : Same G G') : ∀ {vs : List (Key × V)} {ds : List (D × D)} {os : Os}, FlK K G vs ds os → (∀ x o, (x, o) ∈ os → G' x = some o) → RpK K G' vs ds
  | _, _, _, .nil, _ => .nil
  | _, _, _, .cons h t, g => .cons (h.rp e fun x o m => g x o (List.mem_append_left _ m)) (FlK.rp e t fun x o m => g x o (List.mem_append_right _ m))
theorem Fd.rp (e : Same G G') {n : Nat} {v : V} {d : D} {os : Os} (h : Fd K G n v d os) (g : ∀ x o, (x, o) ∈ os → G' x = some o) : Rp K G' v d := by
  cases h with
  | fz r => exact r.mono e
  | fl r => exact r.rp e g
  | ll r => exact .lst (g _ _ List.mem_cons_self) (r.rp e fun x o m => g x o (List.mem_cons_of_mem _ m))
  | dl r => exact .dic (.inl (g _ _ List.mem_cons_self)) (r.rp e fun x o m => g x o (List.mem_cons_of_mem _ m))
theorem DFs.rp (e : Same G G') : ∀ {fs : List (Str × V)} {ds : List (D × D)} {os : Os}, DFs K G fs ds os → (∀ x o, (x, o) ∈ os → G' x = some o) → RpK K G' (fK fs) ds
  | _, _, _, .nil, _ => .nil
  | _, _, _, .cons (f := f) h t, g => RpK.cons (k := .inr f) (h.rp e fun x o m => g x o (List.mem_append_left _ m)) (DFs.rp e t fun x o m => g x o (List.mem_append_right _ m))
theorem CellO.rp (e : Same G G') {p : Addr} {d : D} {os : Os} (h : CellO K G p d os) (g : ∀ x o, (x, o) ∈ os → G' x = some o) : Rp K G' (.ref p) d := by
  cases h with
  | lst r => exact .lst (g _ _ (List.mem_singleton.mpr rfl)) (r.mono e)
  | dic r => exact .dic (.inl (g _ _ (List.mem_singleton.mpr rfl))) (r.mono e)
  | dit r => exact .dit (g _ _ (List.mem_singleton.mpr rfl)) (r.mono e)
  | ins c r => exact .ins (g _ _ List.mem_cons_self) c (r.rp e fun x o m => g x o (List.mem_cons_of_mem _ (List.mem_cons_of_mem _ m)))
  | rcd r => exact .rcd (.inl (g _ _ List.mem_cons_self)) (r.rp e fun x o m => g x o (List.mem_cons_of_mem _ m))
theorem CellO.self {p : Addr} {d : D} {os : Os} (h : CellO K G p d os) : p ∈ dm os := by
  cases h <;> exact List.mem_cons_self
structure Held (G H : Hp) (os : Os) : Prop where
  at_ : ∀ x o, (x, o) ∈ os → H x = some o ∧ G x = none ∧ NT o
  nd : (dm os).Nodup
theorem Held.there {os : Os} (h : Held G H os) {x : Addr} (m : x ∈ dm os) : ∃ o, H x = some o ∧ G x = none ∧ NT o := by
  obtain ⟨o, ho⟩ := dm_mem.mp m
  exact ⟨o, h.at_ x o ho⟩
theorem Held.mono {os : Os} (h : Held G H os) (hg : ∀ x ∈ dm os, G' x = none) (hh : ∀ x o, (x, o) ∈ os → H' x = some o) : Held G' H' os :=
  ⟨fun x o m => ⟨hh x o m, hg x (dm_mem.mpr ⟨o, m⟩), (h.at_ x o m).2.2⟩, h.nd⟩
theorem Held.one {p : Addr} {o : HO} (h : H p = some o) (hg : G p = none) (n : NT o) : Held G H [(p, o)] :=
  ⟨fun x u m => by cases List.mem_singleton.mp m; exact ⟨h, hg, n⟩, List.nodup_cons.mpr ⟨List.not_mem_nil, List.nodup_nil⟩⟩
def flatD : D → Bool
  | .dict ((.bool false, _) :: _) => false
  | _ => true
theorem Cell.os {p : Addr} {d : D} (c : Cell K G H p d) : ∃ o, CellO K G p d [(p, o)] ∧ Held G H [(p, o)] := by
  have n := fun o h => c.nt (o := o) h
  obtain ⟨g, c⟩ := c
  rcases c with ⟨vs, ds, e1, e2, r⟩ | ⟨vs, ds, e1, e2, r⟩ | ⟨vs, ds, e1, e2, r⟩
  · exact ⟨_, by rw [e1]; exact .lst r, .one e2 g (n _ e2)⟩
  · exact ⟨_, by rw [e1]; exact .dic r, .one e2 g (n _ e2)⟩
  · exact ⟨_, by rw [e1]; exact .dit r, .one e2 g (n _ e2)⟩
theorem CellO.flat {p : Addr} {d : D} {os : Os} (c : CellO K G p d os) (h : Held G H os) (hf : flatD d = true) : Cell K G H p d ∧ ∃ o, os = [(p, o)] := by
  cases c with
  | lst r =>
    obtain ⟨h1, h2, _⟩ := h.at_ p _ (List.mem_singleton.mpr rfl)
    exact ⟨⟨h2, .inl ⟨_, _, rfl, h1, r⟩⟩, _, rfl⟩
  | dic r =>
    obtain ⟨h1, h2, _⟩ := h.at_ p _ (List.mem_singleton.mpr rfl)
    exact ⟨⟨h2, .inr (.inl ⟨_, _, rfl, h1, r⟩)⟩, _, rfl⟩
  | dit r =>
    obtain ⟨h1, h2, _⟩ := h.at_ p _ (List.mem_singleton.mpr rfl)
    exact ⟨⟨h2, .inr (.inr ⟨_, _, rfl, h1, r⟩)⟩, _, rfl⟩
  | ins _ _ => cases hf
  | rcd _ => cases hf
end

abbrev Par := List (Nat × Addr × List Addr) × Nat
def Par.at (P : Par) (i : Nat) (a : Addr) : Prop := ∃ q ∈ P.1, q.1 = i ∧ a ∈ q.2.2
def Par.is (P : Par) (a : Addr) : Prop := ∃ q ∈ P.1, a ∈ q.2.2
theorem Par.at.is {P : Par} {i : Nat} {a : Addr} (h : P.at i a) : P.is a := by
  obtain ⟨q, h1, _, h2⟩ := h
  exact ⟨q, h1, h2⟩
def Frm (H0 : Hp) (P : Par) (H : Hp) : Prop := ∀ a o, H0 a = some o → ¬ P.is a → H a = some o
def Gr (H0 G G' : Hp) : Prop := Same G G' ∧ ∀ a o, H0 a = some o → NT o → G' a = G a
theorem Gr.refl {H0 G : Hp} : Gr H0 G G := ⟨Same.refl _, fun _ _ _ _ => rfl⟩
theorem Gr.trans {H0 G G1 G2 : Hp} (a : Gr H0 G G1) (b : Gr H0 G1 G2) : Gr H0 G G2 := ⟨a.1.trans b.1, fun c o h n => (b.2 c o h n).trans (a.2 c o h n)⟩
structure Grow (G H G' H' : Hp) : Prop where
  gg : Same G G'
  gh : Same G' H'
  hh : Same H H'
  new : ∀ a o, H a = some o → NT o → G' a = G a
theorem Grow.refl {G H : Hp} (e : Same G H) : Grow G H G H := ⟨Same.refl _, e, Same.refl _, fun _ _ _ _ => rfl⟩
theorem Grow.trans {G H G1 H1 G2 H2 : Hp} (a : Grow G H G1 H1) (b : Grow G1 H1 G2 H2) : Grow G H G2 H2 :=
  ⟨a.gg.trans b.gg, b.gh, a.hh.trans b.hh, fun c o h n => (b.new c o (a.hh c o h) n).trans (a.new c o h n)⟩
theorem Grow.lay {G H : Hp} {p : Addr} {o : HO} (e : Same G H) (h : H p = none) : Grow G H (upd G p o) (upd H p o) := by
  have hg : G p = none := e.free h
  refine ⟨Same.new hg, fun a u ha => ?_, Same.new h, fun a u ha _ => upd_ne (ne_of_none ha h)⟩
  by_cases q : a = p
  · subst q
    rw [upd_same] at ha ⊢
    exact ha
  · rw [upd_ne q] at ha ⊢
    exact e a u ha
theorem Grow.drop {G H : Hp} {p : Addr} {o : HO} (e : Same G H) (h : H p = none) : Grow G H G (upd H p o) :=
  ⟨Same.refl _, Same.mut e (e.free h), Same.new h, fun _ _ _ _ => rfl⟩

def swO (f : Nat → Os) (i : Nat) (os : Os) (j : Nat) : Os := if j = i then os else f j
theorem swO_pos {f : Nat → Os} {i j : Nat} {os : Os} (h : j = i) : swO f i os j = os := if_pos h
theorem swO_neg {f : Nat → Os} {i j : Nat} {os : Os} (h : j ≠ i) : swO f i os j = f j := if_neg h
structure StOk (K : PySem.W.Frag) (H0 : Hp) (P : Par) (own : List Nat) (G : Hp) (env : Env) (σ : L2.St) (H : Hp) : Prop where
  sub : Same G H
  fr : Frm H0 P H
  dom : ∀ a o, H0 a = some o → ∃ u, H a = some u ∧ (NT o → NT u)
  len : env.length = σ.length
  val : ∀ i d, env[i]? = some (some d) → i ∉ own → ∃ v, σ[i]? = some (some v) ∧ Rp K G v d
  cel : ∃ f : Nat → Os, (∀ i ∈ own, ∃ p d, env[i]? = some (some d) ∧ σ[i]? = some (some (.ref p)) ∧ CellO K G p d (f i) ∧ Held G H (f i) ∧ ∀ x ∈ dm (f i), H0 x = none ∨ P.at i x) ∧
    ∀ i ∈ own, ∀ j ∈ own, i ≠ j → ∀ x ∈ dm (f i), x ∉ dm (f j)
  par : ∀ q ∈ P.1, q.1 ∈ own ∧ σ[q.1]? = some (some (.ref q.2.1))
  isd : ∀ x, P.is x → (∃ o, H0 x = some o ∧ NT o) ∧ G x = none
  ln : σ.length = P.2

section
variable {K : PySem.W.Frag} {H0 : Hp} {P : Par} {own : List Nat} {G G' H H' : Hp} {env : Env} {σ : L2.St}
theorem StOk.all (s : StOk K H0 P own G env σ H) (i : Nat) (hi : i ∈ own) : ∃ d, env[i]? = some (some d) := by
  obtain ⟨f, h, _⟩ := s.cel
  obtain ⟨p, d, e, _⟩ := h i hi
  exact ⟨d, e⟩
theorem StOk.adr (s : StOk K H0 P own G env σ H) {i : Nat} (hi : i ∈ own) : ∃ p, σ[i]? = some (some (.ref p)) := by
  obtain ⟨f, h, _⟩ := s.cel
  obtain ⟨p, d, _, e, _⟩ := h i hi
  exact ⟨p, e⟩
theorem StOk.domN (s : StOk K H0 P own G env σ H) {a : Addr} {o : HO} (h : H0 a = some o) (n : NT o) : ∃ u, H a = some u ∧ NT u := by
  obtain ⟨u, hu, hn⟩ := s.dom a o h
  exact ⟨u, hu, hn n⟩
theorem StOk.noP (s : StOk K H0 P own G env σ H) {p : Addr} (h : H0 p = none) : ¬ P.is p := fun z => by
  obtain ⟨⟨o, ho, _⟩, _⟩ := s.isd p z
  rw [h] at ho
  cases ho
theorem StOk.h0 (s : StOk K H0 P own G env σ H) {p : Addr} (h : H p = none) : H0 p = none := by
  cases hq : H0 p with
  | none => rfl
  | some o =>
    obtain ⟨u, hu, _⟩ := s.dom p o hq
    rw [h] at hu
    cases hu
theorem StOk.congr {own' : List Nat} (s : StOk K H0 P own G env σ H) (e : ∀ i, i ∈ own ↔ i ∈ own') : StOk K H0 P own' G env σ H := by
  refine ⟨s.sub, s.fr, s.dom, s.len, fun i d h n => s.val i d h fun z => n ((e i).mp z), ?_, fun q hq => ⟨(e _).mp (s.par q hq).1, (s.par q hq).2⟩, s.isd, s.ln⟩
  obtain ⟨f, h1, h2⟩ := s.cel
  exact ⟨f, fun i hi => h1 i ((e i).mpr hi), fun i hi j hj => h2 i ((e i).mpr hi) j ((e j).mpr hj)⟩
theorem StOk.grow (s : StOk K H0 P own G env σ H) (g : Grow G H G' H') : StOk K H0 P own G' env σ H' := by
  refine ⟨g.gh, fun a o h n => g.hh a o (s.fr a o h n), fun a o h => ?_, s.len, fun i d e n => ?_, ?_, s.par, fun x hx => ?_, s.ln⟩
  · obtain ⟨u, hu, hn⟩ := s.dom a o h
    exact ⟨u, g.hh a u hu, hn⟩
  · obtain ⟨v, e1, r⟩ := s.val i d e n
    exact ⟨v, e1, r.mono g.gg⟩
  · obtain ⟨f, h1, h2⟩ := s.cel
    refine ⟨f, fun i hi => ?_, h2⟩
    obtain ⟨p, d, e1, e2, c, h, z⟩ := h1 i hi
    refine ⟨p, d, e1, e2, c.mono g.gg, h.mono (fun x m => ?_) fun x o m => g.hh x o (h.at_ x o m).1, z⟩
    obtain ⟨o, h3, h4, h5⟩ := h.there m
    exact (g.new x o h3 h5).trans h4
  · obtain ⟨⟨o, ho, n⟩, hg⟩ := s.isd x hx
    obtain ⟨u, hu, hn⟩ := s.domN ho n
    exact ⟨⟨o, ho, n⟩, (g.new x u hu hn).trans hg⟩
theorem Grow.gr (s : StOk K H0 P own G env σ H) (g : Grow G H G' H') : Gr H0 G G' :=
  ⟨g.gg, fun a o h n => by
    obtain ⟨u, hu, hn⟩ := s.domN h n
    exact g.new a u hu hn⟩
theorem mem_set {α : Type} {l : List α} {i j : Nat} {x y : α} (h : (l.set i x)[j]? = some y) : (j = i ∧ y = x) ∨ (j ≠ i ∧ l[j]? = some y) := by
  by_cases q : i = j
  · subst q
    by_cases z : i < l.length
    · rw [List.getElem?_set_self z] at h
      exact .inl ⟨rfl, (Option.some.inj h).symm⟩
    · rw [List.getElem?_eq_none (by simpa using z)] at h
      cases h
  · rw [List.getElem?_set_ne q] at h
    exact .inr ⟨fun e => q e.symm, h⟩
theorem lt_of_get {α : Type} {l : List α} {i : Nat} {x : α} (h : l[i]? = some x) : i < l.length := (List.getElem?_eq_some_iff.mp h).1
theorem StOk.set {i : Nat} {v : V} {d : D} (s : StOk K H0 P own G env σ H) (r : Rp K G v d) (ho : i ∉ own) : StOk K H0 P own G (env.set i (some d)) (σ.set i (some v)) H := by
  have ne : ∀ j ∈ own, i ≠ j := fun j hj z => ho (z ▸ hj)
  refine ⟨s.sub, s.fr, s.dom, by simpa using s.len, fun j e h n => ?_, ?_, fun q hq => ?_, s.isd, by simpa using s.ln⟩
  · rcases mem_set h with ⟨rfl, q⟩ | ⟨q, h⟩
    · cases q
      refine ⟨v, ?_, r⟩
      have z := lt_of_get h
      rw [List.length_set] at z
      rw [List.getElem?_set_self (by rw [← s.len]; exact z)]
    · obtain ⟨w, e1, r1⟩ := s.val j e h n
      exact ⟨w, by rw [List.getElem?_set_ne (Ne.symm q)]; exact e1, r1⟩
  · obtain ⟨f, h1, h2⟩ := s.cel
    refine ⟨f, fun j hj => ?_, h2⟩
    obtain ⟨p, d, e1, e2, c⟩ := h1 j hj
    exact ⟨p, d, by rw [List.getElem?_set_ne (ne j hj)]; exact e1, by rw [List.getElem?_set_ne (ne j hj)]; exact e2, c⟩
  · obtain ⟨h1, h2⟩ := s.par q hq
    exact ⟨h1, by rw [List.getElem?_set_ne (ne _ h1)]; exact h2⟩
theorem StOk.giveO {i : Nat} {p : Addr} {d : D} {os : Os} (s : StOk K H0 P own G env σ H) (g : Grow G H G' H') (hf : ∀ x ∈ dm os, H x = none) (c : CellO K G' p d os) (hd : Held G' H' os) (ht : i ∉ P.1.map (·.1)) (hil : i < env.length) :
    StOk K H0 P (i :: own) G' (env.set i (some d)) (σ.set i (some (.ref p))) H' := by
  have s1 := s.grow g
  refine ⟨s1.sub, s1.fr, s1.dom, by simpa using s.len, fun j e h n => ?_, ?_, fun q hq => ?_, s1.isd, by simpa using s.ln⟩
  · rcases mem_set h with ⟨rfl, q⟩ | ⟨q, h⟩
    · exact absurd List.mem_cons_self n
    · obtain ⟨w, e1, r1⟩ := s1.val j e h fun z => n (List.mem_cons_of_mem _ z)
      exact ⟨w, by rw [List.getElem?_set_ne (Ne.symm q)]; exact e1, r1⟩
  · obtain ⟨f, h1, h2⟩ := s.cel
    have old : ∀ j ∈ own, ∀ x ∈ dm (f j), x ∉ dm os := fun j hj x hx hz => by
      obtain ⟨_, _, _, _, _, h, _⟩ := h1 j hj
      obtain ⟨o, h3, _⟩ := h.there hx
      rw [hf x hz] at h3
      cases h3
    refine ⟨swO f i os, fun j hj => ?_, fun j hj k hk jk x hx => ?_⟩
    · by_cases z : j = i
      · subst z
        rw [swO_pos rfl]
        exact ⟨p, d, by rw [List.getElem?_set_self hil], by rw [List.getElem?_set_self (by rw [← s.len]; exact hil)], c, hd, fun x hx => .inl (s.h0 (hf x hx))⟩
      · rw [swO_neg z]
        obtain ⟨p', d', e1, e2, c', h, y⟩ := h1 j ((List.mem_cons.mp hj).resolve_left z)
        refine ⟨p', d', by rw [List.getElem?_set_ne (Ne.symm z)]; exact e1, by rw [List.getElem?_set_ne (Ne.symm z)]; exact e2, c'.mono g.gg, h.mono (fun x m => ?_) fun x o m => g.hh x o (h.at_ x o m).1, y⟩
        obtain ⟨o, h3, h4, h5⟩ := h.there m
        exact (g.new x o h3 h5).trans h4
    · by_cases z : j = i
      · rw [swO_pos z] at hx
        by_cases y : k = i
        · exact absurd (z.trans y.symm) jk
        · rw [swO_neg y]
          exact fun w => old k ((List.mem_cons.mp hk).resolve_left y) x w hx
      · rw [swO_neg z] at hx
        by_cases y : k = i
        · rw [swO_pos y]
          exact old j ((List.mem_cons.mp hj).resolve_left z) x hx
        · rw [swO_neg y]
          exact h2 j ((List.mem_cons.mp hj).resolve_left z) k ((List.mem_cons.mp hk).resolve_left y) jk x hx
  · obtain ⟨h1, h2⟩ := s.par q hq
    have z : i ≠ q.1 := fun z => ht (List.mem_map.mpr ⟨q, hq, z.symm⟩)
    exact ⟨List.mem_cons_of_mem _ h1, by rw [List.getElem?_set_ne z]; exact h2⟩
theorem StOk.give {i : Nat} {p : Addr} {d : D} (s : StOk K H0 P own G env σ H) (hp : H p = none) (c : Cell K G H' p d) (hh : Same H H') (ht : i ∉ P.1.map (·.1)) (hil : i < env.length) : StOk K H0 P (i :: own) G (env.set i (some d)) (σ.set i (some (.ref p))) H' := by
  obtain ⟨o, c1, h1⟩ := c.os
  refine s.giveO ⟨Same.refl _, s.sub.trans hh, hh, fun _ _ _ _ => rfl⟩ (fun x hx => ?_) c1 h1 ht hil
  rw [List.mem_singleton.mp hx]
  exact hp
theorem StOk.open {i : Nat} (s : StOk K H0 P own G env σ H) (hi : i ∈ own) : ∃ p d os, env[i]? = some (some d) ∧ σ[i]? = some (some (.ref p)) ∧ CellO K G p d os ∧ Held G H os ∧ (∀ x ∈ dm os, H0 x = none ∨ P.at i x) ∧
    ∀ (G' H' : Hp) (d' : D) (os' : Os), Same G G' → Same G' H' → (∀ x o, H x = some o → x ∉ dm os → H' x = some o) → (∀ x o, H x = some o → ∃ u, H' x = some u ∧ (NT o → NT u)) → (∀ x o, H x = some o → NT o → G' x = G x) →
      CellO K G' p d' os' → Held G' H' os' → (∀ x ∈ dm os', x ∈ dm os ∨ H x = none) → StOk K H0 P own G' (env.set i (some d')) σ H' := by
  obtain ⟨f, h1, h2⟩ := s.cel
  obtain ⟨p, d, e1, e2, c, h, z⟩ := h1 i hi
  refine ⟨p, d, f i, e1, e2, c, h, z, fun G' H' d' os' gg gh kp dm' gn c' hd' sb => ?_⟩
  have hil := lt_of_get e1
  have out : ∀ j ∈ own, j ≠ i → ∀ x ∈ dm (f j), x ∉ dm os' := fun j hj ji x hx hz => by
    rcases sb x hz with y | y
    · exact h2 j hj i hi ji x hx y
    · obtain ⟨_, _, _, _, _, hh, _⟩ := h1 j hj
      obtain ⟨o, h3, _⟩ := hh.there hx
      rw [y] at h3
      cases h3
  refine ⟨gh, fun a o h0 n => kp a o (s.fr a o h0 n) fun y => ?_, fun a o h0 => ?_, by simpa using s.len, fun j e he n => ?_, ⟨swO f i os', fun j hj => ?_, fun j hj k hk jk x hx => ?_⟩, s.par, fun x hx => ?_, s.ln⟩
  · rcases z a y with y | y
    · rw [y] at h0
      cases h0
    · exact n y.is
  · obtain ⟨u, hu, hn⟩ := s.dom a o h0
    obtain ⟨w, hw, hn'⟩ := dm' a u hu
    exact ⟨w, hw, fun y => hn' (hn y)⟩
  · rcases mem_set he with ⟨rfl, q⟩ | ⟨q, he⟩
    · exact absurd hi n
    · obtain ⟨v, e3, r⟩ := s.val j e he n
      exact ⟨v, e3, r.mono gg⟩
  · by_cases y : j = i
    · subst y
      rw [swO_pos rfl]
      refine ⟨p, d', by rw [List.getElem?_set_self hil], e2, c', hd', fun x hx => ?_⟩
      rcases sb x hx with w | w
      · exact z x w
      · exact .inl (s.h0 w)
    · rw [swO_neg y]
      obtain ⟨p', d2, e3, e4, c2, hh, w⟩ := h1 j hj
      refine ⟨p', d2, by rw [List.getElem?_set_ne (Ne.symm y)]; exact e3, e4, c2.mono gg, hh.mono (fun x m => ?_) (fun x o m => kp x o (hh.at_ x o m).1 fun v => ?_), w⟩
      · obtain ⟨o, h3, h4, h5⟩ := hh.there m
        exact (gn x o h3 h5).trans h4
      · exact h2 j hj i hi y x (dm_mem.mpr ⟨o, m⟩) v
  · by_cases y : j = i
    · rw [swO_pos y] at hx
      by_cases w : k = i
      · exact absurd (y.trans w.symm) jk
      · rw [swO_neg w]
        exact fun v => out k hk w x v hx
    · rw [swO_neg y] at hx
      by_cases w : k = i
      · rw [swO_pos w]
        exact out j hj y x hx
      · rw [swO_neg w]
        exact h2 j hj k hk jk x hx
  · obtain ⟨⟨o, ho, n⟩, hg⟩ := s.isd x hx
    obtain ⟨u, hu, hn⟩ := s.domN ho n
    exact ⟨⟨o, ho, n⟩, (gn x u hu hn).trans hg⟩
theorem StOk.celF {i : Nat} {d : D} (s : StOk K H0 P own G env σ H) (he : env[i]? = some (some d)) (hi : i ∈ own) (hf : flatD d = true) : ∃ p, σ[i]? = some (some (.ref p)) ∧ Cell K G H p d := by
  obtain ⟨p, d', os, e1, e2, c, h, _⟩ := s.open hi
  rw [he] at e1
  cases e1
  exact ⟨p, e2, (c.flat h hf).1⟩
theorem StOk.write {i : Nat} {p : Addr} {d d' : D} {o : HO} (s : StOk K H0 P own G env σ H) (hi : env[i]? = some (some d)) (ho : i ∈ own) (hp : σ[i]? = some (some (.ref p))) (hf : flatD d = true) (c : Cell K G (upd H p o) p d') :
    StOk K H0 P own G (env.set i (some d')) σ (upd H p o) := by
  obtain ⟨p', d1, os, e1, e2, c1, h, _, cl⟩ := s.open ho
  rw [hi] at e1
  cases e1
  rw [hp] at e2
  cases e2
  obtain ⟨c2, o1, rfl⟩ := c1.flat h hf
  obtain ⟨o2, c3, h3⟩ := c.os
  have no : NT o := c.nt upd_same
  refine cl G _ d' _ (Same.refl _) (fun a u ha => ?_) (fun x u hx n => ?_) (fun x u hx => ?_) (fun _ _ _ _ => rfl) c3 h3 fun x hx => .inl hx
  · rw [upd_ne (ne_of_none ha c2.1)]
    exact s.sub a u ha
  · rw [upd_ne fun z => n (List.mem_singleton.mpr z)]
    exact hx
  · by_cases z : x = p
    · exact ⟨o, by rw [z, upd_same], fun _ => no⟩
    · exact ⟨u, by rw [upd_ne z]; exact hx, id⟩
theorem StOk.freeze {i : Nat} (s : StOk K H0 P own G env σ H) (ht : i ∉ P.1.map (·.1)) : ∃ G', Gr H0 G G' ∧ StOk K H0 P (own.filter (· != i)) G' env σ H := by
  have inn : ∀ j, j ∈ own.filter (· != i) → j ∈ own ∧ j ≠ i := fun j h => by
    obtain ⟨h1, h2⟩ := List.mem_filter.mp h
    exact ⟨h1, by simpa using h2⟩
  have inm : ∀ j, j ∈ own → j ≠ i → j ∈ own.filter (· != i) := fun j h1 h2 => List.mem_filter.mpr ⟨h1, by simpa using h2⟩
  have pin : ∀ q ∈ P.1, q.1 ≠ i := fun q hq z => ht (List.mem_map.mpr ⟨q, hq, z⟩)
  by_cases hi : i ∈ own
  · obtain ⟨f, h1, h2⟩ := s.cel
    obtain ⟨p, d, e1, e2, c, h, z⟩ := h1 i hi
    have z0 : ∀ x ∈ dm (f i), H0 x = none := fun x hx => (z x hx).resolve_right fun ⟨q, hq, y, _⟩ => pin q hq y
    have gg : Same G (addO G (f i)) := fun a u ha => by
      rw [addO_out fun m => ?_]
      · exact ha
      · obtain ⟨o, _, hg, _⟩ := h.there m
        rw [hg] at ha
        cases ha
    have gr : Gr H0 G (addO G (f i)) := ⟨gg, fun a u ha _ => addO_out fun m => by rw [z0 a m] at ha; cases ha⟩
    refine ⟨addO G (f i), gr, fun a u ha => ?_, s.fr, s.dom, s.len, fun j e he n => ?_, ⟨f, fun j hj => ?_, fun j hj k hk => h2 j (inn j hj).1 k (inn k hk).1⟩, fun q hq => ?_, fun x hx => ?_, s.ln⟩
    · by_cases m : a ∈ dm (f i)
      · obtain ⟨o, ho⟩ := dm_mem.mp m
        rw [addO_in h.nd ho] at ha
        cases ha
        exact (h.at_ a _ ho).1
      · rw [addO_out m] at ha
        exact s.sub a u ha
    · by_cases hj : j ∈ own
      · by_cases ji : j = i
        · subst ji
          rw [e1] at he
          cases he
          exact ⟨.ref p, e2, c.rp gg fun x o m => addO_in h.nd m⟩
        · exact absurd (inm j hj ji) n
      · obtain ⟨v, e3, r⟩ := s.val j e he hj
        exact ⟨v, e3, r.mono gg⟩
    · obtain ⟨hj1, ji⟩ := inn j hj
      obtain ⟨p', d', e3, e4, c', hh, y⟩ := h1 j hj1
      refine ⟨p', d', e3, e4, c'.mono gg, hh.mono (fun x m => ?_) fun x o m => (hh.at_ x o m).1, y⟩
      rw [addO_out (h2 j hj1 i hi ji x m)]
      exact (hh.there m).choose_spec.2.1
    · obtain ⟨h3, h4⟩ := s.par q hq
      exact ⟨inm _ h3 (pin q hq), h4⟩
    · obtain ⟨⟨o, ho, n⟩, hg⟩ := s.isd x hx
      refine ⟨⟨o, ho, n⟩, ?_⟩
      rw [addO_out fun m => ?_]
      · exact hg
      · rw [z0 x m] at ho
        cases ho
  · refine ⟨G, Gr.refl, s.congr fun j => ⟨fun hj => inm j hj fun z => hi (z ▸ hj), fun hj => (inn j hj).1⟩⟩
/-! what stands beside ours: held in the frame -/
theorem StOk.lay {p : Addr} {o : HO} (s : StOk K H0 P own G env σ H) (h : H p = none) : StOk K (upd H0 p o) P own G env σ (upd H p o) := by
  have h0 := s.h0 h
  have s1 := s.grow (Grow.drop (o := o) s.sub h)
  refine ⟨s1.sub, fun a u ha n => ?_, fun a u ha => ?_, s.len, s1.val, ?_, s.par, fun x hx => ?_, s.ln⟩
  · by_cases z : a = p
    · subst z
      rw [upd_same] at ha ⊢
      exact ha
    · rw [upd_ne z] at ha
      exact s1.fr a u ha n
  · by_cases z : a = p
    · subst z
      rw [upd_same] at ha
      cases ha
      exact ⟨o, upd_same, id⟩
    · rw [upd_ne z] at ha
      exact s1.dom a u ha
  · obtain ⟨f, h1, h2⟩ := s.cel
    refine ⟨f, fun i hi => ?_, h2⟩
    obtain ⟨q, d, e1, e2, c, hh, z⟩ := h1 i hi
    have ne : ∀ x ∈ dm (f i), x ≠ p := fun x hx y => by
      obtain ⟨u, hu, _⟩ := hh.there hx
      rw [y, h] at hu
      cases hu
    refine ⟨q, d, e1, e2, c, hh.mono (fun x m => (hh.there m).choose_spec.2.1) (fun x u m => by rw [upd_ne (ne x (dm_mem.mpr ⟨u, m⟩))]; exact (hh.at_ x u m).1), fun x hx => ?_⟩
    rw [upd_ne (ne x hx)]
    exact z x hx
  · obtain ⟨⟨u, hu, n⟩, hg⟩ := s.isd x hx
    exact ⟨⟨u, by rw [upd_ne (ne_of_none hu h0)]; exact hu, n⟩, hg⟩
theorem StOk.loose {p : Addr} {o : HO} (s : StOk K (upd H0 p o) P own G env σ H) (h : H0 p = none) (nP : ¬ P.is p) : StOk K H0 P own G env σ H := by
  have up : ∀ a u, H0 a = some u → upd H0 p o a = some u := fun a u e => by
    rw [upd_ne (ne_of_none e h)]
    exact e
  refine ⟨s.sub, fun a u e n => s.fr a u (up a u e) n, fun a u e => s.dom a u (up a u e), s.len, s.val, ?_, s.par, fun x hx => ?_, s.ln⟩
  · obtain ⟨f, h1, h2⟩ := s.cel
    refine ⟨f, fun i hi => ?_, h2⟩
    obtain ⟨q, d, e1, e2, c, hh, z⟩ := h1 i hi
    refine ⟨q, d, e1, e2, c, hh, fun x hx => ?_⟩
    rcases z x hx with z | z
    · by_cases y : x = p
      · exact .inl (y ▸ h)
      · rw [upd_ne y] at z
        exact .inl z
    · exact .inr z
  · obtain ⟨⟨u, hu, n⟩, hg⟩ := s.isd x hx
    have ne : x ≠ p := fun z => nP (z ▸ hx)
    rw [upd_ne ne] at hu
    exact ⟨⟨u, hu, n⟩, hg⟩
theorem StOk.apart {p : Addr} {o : HO} (s : StOk K (upd H0 p o) P own G env σ H) (nP : ¬ P.is p) {f : Nat → Os} (h1 : ∀ i ∈ own, ∃ p' d, env[i]? = some (some d) ∧ σ[i]? = some (some (.ref p')) ∧ CellO K G p' d (f i) ∧ Held G H (f i) ∧ ∀ x ∈ dm (f i), upd H0 p o x = none ∨ P.at i x) :
    ∀ i ∈ own, ∀ x ∈ dm (f i), x ≠ p := fun i hi x hx y => by
  obtain ⟨_, _, _, _, _, _, z⟩ := h1 i hi
  rcases z x hx with z | z
  · rw [y, upd_same] at z
    cases z
  · exact nP (y ▸ z.is)
theorem StOk.side {p : Addr} {o o' : HO} (s : StOk K (upd H0 p o) P own G env σ H) (hg : G p = none) (nP : ¬ P.is p) (n' : NT o') : StOk K (upd H0 p o') P own G env σ (upd H p o') := by
  refine ⟨fun a u e => ?_, fun a u e n => ?_, fun a u e => ?_, s.len, s.val, ?_, s.par, fun x hx => ?_, s.ln⟩
  · rw [upd_ne (ne_of_none e hg)]
    exact s.sub a u e
  · by_cases z : a = p
    · subst z
      rw [upd_same] at e ⊢
      exact e
    · rw [upd_ne z] at e ⊢
      exact s.fr a u (by rw [upd_ne z]; exact e) n
  · by_cases z : a = p
    · subst z
      exact ⟨o', upd_same, fun _ => n'⟩
    · rw [upd_ne z] at e ⊢
      exact s.dom a u (by rw [upd_ne z]; exact e)
  · obtain ⟨f, h1, h2⟩ := s.cel
    have ap := s.apart nP h1
    refine ⟨f, fun i hi => ?_, h2⟩
    obtain ⟨q, d, e1, e2, c, hh, z⟩ := h1 i hi
    refine ⟨q, d, e1, e2, c, hh.mono (fun x m => (hh.there m).choose_spec.2.1) (fun x u m => by rw [upd_ne (ap i hi x (dm_mem.mpr ⟨u, m⟩))]; exact (hh.at_ x u m).1), fun x hx => ?_⟩
    have := z x hx
    rw [upd_ne (ap i hi x hx)] at this ⊢
    exact this
  · obtain ⟨⟨u, hu, n⟩, hg'⟩ := s.isd x hx
    have ne : x ≠ p := fun z => nP (z ▸ hx)
    rw [upd_ne ne] at hu
    exact ⟨⟨u, by rw [upd_ne ne]; exact hu, n⟩, hg'⟩
def del (H : Hp) (p : Addr) : Hp := fun a => if a = p then none else H a
theorem del_same {p : Addr} : del H p p = none := by unfold del; rw [if_pos rfl]
theorem del_ne {p a : Addr} (h : a ≠ p) : del H p a = H a := by unfold del; rw [if_neg h]
theorem upd_del {p : Addr} {o : HO} (h : H p = some o) : upd (del H p) p o = H := by
  funext a
  by_cases z : a = p
  · subst z
    rw [upd_same, h]
  · rw [upd_ne z, del_ne z]
theorem StOk.del {p : Addr} {o : HO} (s : StOk K (upd H0 p o) P own G env σ H) (hg : G p = none) (h : H0 p = none) (nP : ¬ P.is p) : StOk K H0 P own G env σ (Hz.del H p) := by
  obtain ⟨f, h1, h2⟩ := s.cel
  have ap := s.apart nP h1
  have s1 := s.loose h nP
  refine ⟨fun a u e => ?_, fun a u e n => ?_, fun a u e => ?_, s.len, s.val, ⟨f, fun i hi => ?_, h2⟩, s.par, s1.isd, s.ln⟩
  · rw [del_ne (ne_of_none e hg)]
    exact s.sub a u e
  · rw [del_ne (ne_of_none e h)]
    exact s1.fr a u e n
  · rw [del_ne (ne_of_none e h)]
    exact s1.dom a u e
  · obtain ⟨q, d, e1, e2, c, hh, z⟩ := h1 i hi
    refine ⟨q, d, e1, e2, c, hh.mono (fun x m => (hh.there m).choose_spec.2.1) (fun x u m => by rw [del_ne (ap i hi x (dm_mem.mpr ⟨u, m⟩))]; exact (hh.at_ x u m).1), fun x hx => ?_⟩
    have := z x hx
    rw [upd_ne (ap i hi x hx)] at this
    exact this
theorem StOk.layO {os : Os} (s : StOk K H0 P own G env σ H) (g : Grow G H G' H') (hf : ∀ x ∈ dm os, H x = none) (hd : Held G' H' os) : StOk K (addO H0 os) P own G' env σ H' := by
  have s1 := s.grow g
  have h0 : ∀ x ∈ dm os, H0 x = none := fun x hx => s.h0 (hf x hx)
  refine ⟨s1.sub, fun a u ha n => ?_, fun a u ha => ?_, s.len, s1.val, ?_, s.par, fun x hx => ?_, s.ln⟩
  · by_cases z : a ∈ dm os
    · obtain ⟨o, ho⟩ := dm_mem.mp z
      rw [addO_in hd.nd ho] at ha
      cases ha
      exact (hd.at_ _ _ ho).1
    · rw [addO_out z] at ha
      exact s1.fr a u ha n
  · by_cases z : a ∈ dm os
    · obtain ⟨o, ho⟩ := dm_mem.mp z
      rw [addO_in hd.nd ho] at ha
      cases ha
      exact ⟨_, (hd.at_ _ _ ho).1, id⟩
    · rw [addO_out z] at ha
      exact s1.dom a u ha
  · obtain ⟨f, h1, h2⟩ := s.cel
    refine ⟨f, fun i hi => ?_, h2⟩
    obtain ⟨q, d, e1, e2, c, hh, z⟩ := h1 i hi
    have ne : ∀ x ∈ dm (f i), x ∉ dm os := fun x hx y => by
      obtain ⟨u, hu, _⟩ := hh.there hx
      rw [hf x y] at hu
      cases hu
    refine ⟨q, d, e1, e2, c.mono g.gg, hh.mono (fun x m => ?_) (fun x u m => g.hh x u (hh.at_ x u m).1), fun x hx => ?_⟩
    · obtain ⟨u, h3, h4, h5⟩ := hh.there m
      exact (g.new x u h3 h5).trans h4
    · rw [addO_out (ne x hx)]
      exact z x hx
  · obtain ⟨⟨u, hu, n⟩, hg⟩ := s1.isd x hx
    exact ⟨⟨u, by rw [addO_out fun z => (by rw [h0 x z] at hu; cases hu)]; exact hu, n⟩, hg⟩
theorem StOk.looseO {os : Os} (s : StOk K (addO H0 os) P own G env σ H) (nd : (dm os).Nodup) (h : ∀ x ∈ dm os, H0 x = none ∧ ¬ P.is x) : StOk K H0 P own G env σ H := by
  have up : ∀ a u, H0 a = some u → addO H0 os a = some u := fun a u e => by
    rw [addO_out fun z => (by rw [(h a z).1] at e; cases e)]
    exact e
  refine ⟨s.sub, fun a u e n => s.fr a u (up a u e) n, fun a u e => s.dom a u (up a u e), s.len, s.val, ?_, s.par, fun x hx => ?_, s.ln⟩
  · obtain ⟨f, h1, h2⟩ := s.cel
    refine ⟨f, fun i hi => ?_, h2⟩
    obtain ⟨q, d, e1, e2, c, hh, z⟩ := h1 i hi
    refine ⟨q, d, e1, e2, c, hh, fun x hx => ?_⟩
    rcases z x hx with z | z
    · by_cases y : x ∈ dm os
      · exact .inl (h x y).1
      · rw [addO_out y] at z
        exact .inl z
    · exact .inr z
  · obtain ⟨⟨u, hu, n⟩, hg⟩ := s.isd x hx
    rw [addO_out fun z => (h x z).2 hx] at hu
    exact ⟨⟨u, hu, n⟩, hg⟩
theorem StOk.takeO {i : Nat} {p : Addr} {d : D} {os : Os} (s : StOk K (addO H0 os) P own G env σ H) (c : CellO K G p d os) (hd : Held G H os) (h : ∀ x ∈ dm os, H0 x = none ∧ ¬ P.is x) (hi : i ∉ own) (ht : i ∉ P.1.map (·.1)) (hil : i < env.length) :
    StOk K H0 P (i :: own) G (env.set i (some d)) (σ.set i (some (.ref p))) H := by
  obtain ⟨f, h1, h2⟩ := s.cel
  have ap : ∀ j ∈ own, ∀ x ∈ dm (f j), x ∉ dm os := fun j hj x hx y => by
    obtain ⟨_, _, _, _, _, _, z⟩ := h1 j hj
    rcases z x hx with z | z
    · obtain ⟨o, ho⟩ := dm_mem.mp y
      rw [addO_in hd.nd ho] at z
      cases z
    · exact (h x y).2 z.is
  have s1 := s.looseO hd.nd h
  refine ⟨s1.sub, s1.fr, s1.dom, by simpa using s.len, fun j e h n => ?_, ⟨swO f i os, fun j hj => ?_, fun j hj k hk jk x hx => ?_⟩, fun q hq => ?_, s1.isd, by simpa using s.ln⟩
  · rcases mem_set h with ⟨rfl, q⟩ | ⟨q, h⟩
    · exact absurd List.mem_cons_self n
    · obtain ⟨w, e1, r1⟩ := s.val j e h fun z => n (List.mem_cons_of_mem _ z)
      exact ⟨w, by rw [List.getElem?_set_ne (Ne.symm q)]; exact e1, r1⟩
  · by_cases z : j = i
    · subst z
      rw [swO_pos rfl]
      exact ⟨p, d, by rw [List.getElem?_set_self hil], by rw [List.getElem?_set_self (by rw [← s.len]; exact hil)], c, hd, fun x hx => .inl (h x hx).1⟩
    · rw [swO_neg z]
      have hj' := (List.mem_cons.mp hj).resolve_left z
      obtain ⟨p', d', e1, e2, c', hh, y⟩ := h1 j hj'
      refine ⟨p', d', by rw [List.getElem?_set_ne (Ne.symm z)]; exact e1, by rw [List.getElem?_set_ne (Ne.symm z)]; exact e2, c', hh, fun x hx => ?_⟩
      have := y x hx
      rw [addO_out (ap j hj' x hx)] at this
      exact this
  · by_cases z : j = i
    · rw [swO_pos z] at hx
      by_cases y : k = i
      · exact absurd (z.trans y.symm) jk
      · rw [swO_neg y]
        intro w
        exact ap k ((List.mem_cons.mp hk).resolve_left y) x w hx
    · rw [swO_neg z] at hx
      by_cases y : k = i
      · rw [swO_pos y]
        exact ap j ((List.mem_cons.mp hj).resolve_left z) x hx
      · rw [swO_neg y]
        exact h2 j ((List.mem_cons.mp hj).resolve_left z) k ((List.mem_cons.mp hk).resolve_left y) jk x hx
  · obtain ⟨h1, h2⟩ := s.par q hq
    have z : i ≠ q.1 := fun z => ht (List.mem_map.mpr ⟨q, hq, z.symm⟩)
    exact ⟨List.mem_cons_of_mem _ h1, by rw [List.getElem?_set_ne z]; exact h2⟩
end
/-! ### the judgements -/
def EvI (K : PySem.W.Frag) (tw : List Nat) (own : List Nat) (W : WX) (cl : Nat → Addr) (t : TE) (f : Env → R (D × Env)) : Prop :=
  ∀ (H0 : Hp) (P : Par) (G : Hp) (env : Env) (σ : L2.St) (H : Hp) (Q : VK), P.1.map (·.1) = tw → StOk K H0 P own G env σ H →
    Ans (f env) (fun a => ∀ G' H' v, Gr H0 G G' → StOk K H0 P own G' a.2 σ H' → Rp K G' v a.1 → Q v H') (fun c => ∀ H', Frm H0 P H' → W (.ref (cl c)) none σ H') → t σ H Q
def EvT (K : PySem.W.Frag) (tw : List Nat) (own : List Nat) (W : WX) (cl : Nat → Addr) (t : TT) (f : Env → R (Bool × Env)) : Prop :=
  ∀ (H0 : Hp) (P : Par) (G : Hp) (env : Env) (σ : L2.St) (H : Hp) (Q : Bool → Hp → Prop), P.1.map (·.1) = tw → StOk K H0 P own G env σ H →
    Ans (f env) (fun a => ∀ G' H', Gr H0 G G' → StOk K H0 P own G' a.2 σ H' → Q a.1 H') (fun c => ∀ H', Frm H0 P H' → W (.ref (cl c)) none σ H') → t σ H Q
def EvA (K : PySem.W.Frag) (tw : List Nat) (own : List Nat) (W : WX) (cl : Nat → Addr) (t : TA) (f : Env → R (List D × Env)) : Prop :=
  ∀ (H0 : Hp) (P : Par) (G : Hp) (env : Env) (σ : L2.St) (H : Hp) (Q : List V → Hp → Prop), P.1.map (·.1) = tw → StOk K H0 P own G env σ H →
    Ans (f env) (fun a => ∀ G' H' vs, Gr H0 G G' → StOk K H0 P own G' a.2 σ H' → RpA K G' vs a.1 → Q vs H') (fun c => ∀ H', Frm H0 P H' → W (.ref (cl c)) none σ H') → t σ H Q
inductive Fl where
  | nx | rt (d : D) | bk | ct
def EvS (K : PySem.W.Frag) (tw : List Nat) (own oN oL : List Nat) (W : WX) (cl : Nat → Addr) (t : TS) (f : Env → R (Fl × Env)) : Prop :=
  ∀ (H0 : Hp) (P : Par) (G : Hp) (env : Env) (σ : L2.St) (H : Hp) (E : Ends), P.1.map (·.1) = tw → StOk K H0 P own G env σ H →
    Ans (f env) (fun a => match a.1 with
      | .nx => ∀ G' σ' H', Gr H0 G G' → StOk K H0 P oN G' a.2 σ' H' → E.nx σ' H'
      | .rt d => ∀ G' σ' H' v, Gr H0 G G' → StOk K H0 P tw G' a.2 σ' H' → Rp K G' v d → E.rt v H'
      | .bk => ∀ G' σ' H', Gr H0 G G' → StOk K H0 P oL G' a.2 σ' H' → E.bk σ' H'
      | .ct => ∀ G' σ' H', Gr H0 G G' → StOk K H0 P oL G' a.2 σ' H' → E.ct σ' H')
      (fun c => ∀ σ' H', σ'.length = P.2 → Frm H0 P H' → W (.ref (cl c)) none σ' H') → t E σ H

structure DI (X : Cx) (tw : List Nat) (own : List Nat) (W : WX) (cl : Nat → Addr) (e : Expr) (t : TE) (f : Env → R (D × Env)) : Prop where
  pe : PE X e t
  ev : EvI X.K tw own W cl t f
structure DT (X : Cx) (tw : List Nat) (own : List Nat) (W : WX) (cl : Nat → Addr) (e : Expr) (t : TT) (f : Env → R (Bool × Env)) : Prop where
  pe : PT X e t
  ev : EvT X.K tw own W cl t f
structure DA (X : Cx) (tw : List Nat) (own : List Nat) (W : WX) (cl : Nat → Addr) (es : List Expr) (t : TA) (f : Env → R (List D × Env)) : Prop where
  pe : PA X es t
  ev : EvA X.K tw own W cl t f
structure DS (X : Cx) (tw : List Nat) (own oN oL : List Nat) (W : WX) (cl : Nat → Addr) (s : Stmt) (t : TS) (f : Env → R (Fl × Env)) : Prop where
  pe : PS X s t
  ev : EvS X.K tw own oN oL W cl t f
structure DSs (X : Cx) (tw : List Nat) (own oN oL : List Nat) (W : WX) (cl : Nat → Addr) (s : List Stmt) (t : TS) (f : Env → R (Fl × Env)) : Prop where
  pe : PSs X s t
  ev : EvS X.K tw own oN oL W cl t f

def spP (K : PySem.W.Frag) (cl : Nat → Addr) (n : Nat) (F : List D → R D) : Sp := fun vs H Q E => ∃ G ds, Same G H ∧ RpA K G vs ds ∧ ds.length = n ∧
  Ans (F ds) (fun d => ∀ G' H' v, Grow G H G' H' → Rp K G' v d → Q v H') (fun c => ∀ H', Same H H' → E (.ref (cl c)) none H')
structure Does (K : PySem.W.Frag) (G H : Hp) (os : Os) (G' H' : Hp) (p : Addr) (d : D) (os' : Os) : Prop where
  gg : Same G G'
  gh : Same G' H'
  kp : ∀ x o, H x = some o → x ∉ dm os → H' x = some o
  dm : ∀ x o, H x = some o → ∃ u, H' x = some u ∧ (NT o → NT u)
  gn : ∀ x o, H x = some o → NT o → G' x = G x
  c : CellO K G' p d os'
  hd : Held G' H' os'
  sb : ∀ x ∈ Hz.dm os', x ∈ Hz.dm os ∨ H x = none
def spT (K : PySem.W.Frag) (cl : Nat → Addr) (k n : Nat) (F : List D → R (D × D)) : Sp := fun vs H Q E => ∃ G va p vb da dt db os, vs = va ++ .ref p :: vb ∧ va.length = k ∧ Same G H ∧ RpA K G va da ∧ CellO K G p dt os ∧ Held G H os ∧ RpA K G vb db ∧ da.length + db.length + 1 = n ∧
  Ans (F (da ++ dt :: db)) (fun a => ∀ G' H' v os', Does K G H os G' H' p a.2 os' → Rp K G' v a.1 → Q v H')
    (fun c => ∀ H', (∀ b o, b ∉ dm os → H b = some o → H' b = some o) → E (.ref (cl c)) none H')
theorem spP.len {K : PySem.W.Frag} {cl : Nat → Addr} {n : Nat} {F : List D → R D} (vs : List V) (H : Hp) (Q : VK) (E : XK) (h : spP K cl n F vs H Q E) : vs.length = n := by
  obtain ⟨G, ds, _, r, e, _⟩ := h
  rw [r.length]
  exact e
theorem spT.len {K : PySem.W.Frag} {cl : Nat → Addr} {k n : Nat} {F : List D → R (D × D)} (vs : List V) (H : Hp) (Q : VK) (E : XK) (h : spT K cl k n F vs H Q E) : vs.length = n := by
  obtain ⟨G, va, p, vb, da, dt, db, os, rfl, _, _, ra, _, _, rb, e, _⟩ := h
  rw [← e, ← ra.length, ← rb.length, List.length_append, List.length_cons]
  omega
theorem StOk.does {K : PySem.W.Frag} {H0 : Hp} {P : Par} {own : List Nat} {G H : Hp} {env : Env} {σ : L2.St} {i : Nat} (s : StOk K H0 P own G env σ H) (hi : i ∈ own) : ∃ p d os, env[i]? = some (some d) ∧ σ[i]? = some (some (.ref p)) ∧ CellO K G p d os ∧ Held G H os ∧
    (∀ H', (∀ b o, b ∉ dm os → H b = some o → H' b = some o) → Frm H0 P H') ∧ ∀ (G' H' : Hp) (d' : D) (os' : Os), Does K G H os G' H' p d' os' → Gr H0 G G' ∧ StOk K H0 P own G' (env.set i (some d')) σ H' := by
  obtain ⟨p, d, os, e1, e2, c, h, z, cl⟩ := s.open hi
  refine ⟨p, d, os, e1, e2, c, h, fun H' kp a o h0 n => ?_, fun G' H' d' os' x => ⟨⟨x.gg, fun b o h' n' => ?_⟩, cl G' H' d' os' x.gg x.gh x.kp x.dm x.gn x.c x.hd x.sb⟩⟩
  · refine kp a o (fun y => ?_) (s.fr a o h0 n)
    rcases z a y with y | y
    · rw [y] at h0
      cases h0
    · exact n y.is
  · obtain ⟨u, hu, hn⟩ := s.domN h' n'
    exact x.gn b u hu hn
end Hz

namespace Hz
open PySem PySem.Spec PyProof.Rows L2

theorem Ans.monoE {α : Type} {r : R α} {f g : α → Prop} {e e' : Nat → Prop} (h : Ans r f e) (hf : ∀ a, r = .ok a → f a → g a) (he : ∀ c, e c → e' c) : Ans r g e' := by
  cases r with
  | ok a => exact hf a rfl h
  | err c => exact he c h
  | bad => exact h
theorem sz100 {n : Nat} (h : n ≤ 1000000) : n ≤ sizeLine := Nat.le_trans h (by rw [sizeLine_eq]; decide)
theorem sz100l {n : Nat} (h : n < 1000000) : n < sizeLine := Nat.lt_of_lt_of_le h (by rw [sizeLine_eq]; decide)

/-! ### the functions that pieces of text are worth -/
def cD (d : D) : Env → R (D × Env) := fun e => .ok (d, e)
def varD (i : Nat) : Env → R (D × Env) := fun e => match e[i]? with
  | some (some d) => .ok (d, e)
  | _ => .bad
def lift {α : Type} : Option α → R α
  | some a => .ok a
  | none => .bad
def op2 (g : D → D → Option D) (a b : Env → R (D × Env)) : Env → R (D × Env) := fun e => (a e).bind fun x => (b x.2).bind fun y => (lift (g x.1 y.1)).bind fun d => .ok (d, y.2)
def op1 (g : D → Option D) (a : Env → R (D × Env)) : Env → R (D × Env) := fun e => (a e).bind fun x => (lift (g x.1)).bind fun d => .ok (d, x.2)
def opN (g : List D → Option D) (a : Env → R (List D × Env)) : Env → R (D × Env) := fun e => (a e).bind fun x => (lift (g x.1)).bind fun d => .ok (d, x.2)
def nilA : Env → R (List D × Env) := fun e => .ok ([], e)
def consA (a : Env → R (D × Env)) (b : Env → R (List D × Env)) : Env → R (List D × Env) := fun e => (a e).bind fun x => (b x.2).bind fun y => .ok (x.1 :: y.1, y.2)
def lstD (a : Env → R (List D × Env)) : Env → R (D × Env) := fun e => (a e).bind fun x => .ok (.list x.1, x.2)
def tupD (a : Env → R (List D × Env)) : Env → R (D × Env) := fun e => (a e).bind fun x => .ok (.tuple x.1, x.2)
def callP (F : List D → R D) (a : Env → R (List D × Env)) : Env → R (D × Env) := fun e => (a e).bind fun x => (F x.1).bind fun d => .ok (d, x.2)
def callT (F : List D → R (D × D)) (i : Nat) (a0 : Env → R (D × Env)) (ar : Env → R (List D × Env)) : Env → R (D × Env) := fun e => (a0 e).bind fun x => (ar x.2).bind fun y => match y.2[i]? with
  | some (some t) => (F (x.1 :: t :: y.1)).bind fun r => .ok (r.1, y.2.set i (some r.2))
  | _ => .bad
def tstD (a : Env → R (D × Env)) : Env → R (Bool × Env) := fun e => (a e).bind fun x => match x.1 with
  | .bool b => .ok (b, x.2)
  | _ => .bad
def andT (a b : Env → R (Bool × Env)) : Env → R (Bool × Env) := fun e => (a e).bind fun x => if x.1 = true then b x.2 else .ok (false, x.2)
def orT (a b : Env → R (Bool × Env)) : Env → R (Bool × Env) := fun e => (a e).bind fun x => if x.1 = true then .ok (true, x.2) else b x.2
def notT (a : Env → R (Bool × Env)) : Env → R (Bool × Env) := fun e => (a e).bind fun x => .ok (!x.1, x.2)
def andV (a b : Env → R (D × Env)) : Env → R (D × Env) := fun e => (a e).bind fun x => match x.1 with
  | .bool true => b x.2
  | .bool false => .ok (.bool false, x.2)
  | _ => .bad
def orV (a b : Env → R (D × Env)) : Env → R (D × Env) := fun e => (a e).bind fun x => match x.1 with
  | .bool true => .ok (.bool true, x.2)
  | .bool false => b x.2
  | _ => .bad
def notV (a : Env → R (D × Env)) : Env → R (D × Env) := fun e => (a e).bind fun x => match x.1 with
  | .bool b => .ok (.bool (!b), x.2)
  | _ => .bad
def ifD (c : Env → R (Bool × Env)) (a b : Env → R (D × Env)) : Env → R (D × Env) := fun e => (c e).bind fun x => if x.1 = true then a x.2 else b x.2
def chainD (g h : D → D → Option D) (a b c : Env → R (D × Env)) : Env → R (D × Env) := fun e => (a e).bind fun x => (b x.2).bind fun y => match g x.1 y.1 with
  | some (.bool true) => (c y.2).bind fun z => (lift (h y.1 z.1)).bind fun d => .ok (d, z.2)
  | some (.bool false) => .ok (.bool false, y.2)
  | _ => .bad

section
variable {K : PySem.W.Frag} {tw : List Nat} {own : List Nat} {W : WX} {cl : Nat → Addr} {ta tb tc : TE} {tA tr : TA} {t u : TT} {fa fb fc : Env → R (D × Env)} {fA : Env → R (List D × Env)} {ft fu : Env → R (Bool × Env)}
def Op2 (K : PySem.W.Frag) (r : R2) (g : D → D → Option D) : Prop := ∀ (G H : Hp) (x y : V) (dx dy d : D) (Q : VK), Same G H → Rp K G x dx → Rp K G y dy → g dx dy = some d → (∀ G' H' v, Grow G H G' H' → Rp K G' v d → Q v H') → r x y H Q
def Op1 (K : PySem.W.Frag) (r : V → Hp → VK → Prop) (g : D → Option D) : Prop := ∀ (G H : Hp) (x : V) (dx d : D) (Q : VK), Same G H → Rp K G x dx → g dx = some d → (∀ G' H' v, Grow G H G' H' → Rp K G' v d → Q v H') → r x H Q
def OpN (K : PySem.W.Frag) (r : List V → Hp → VK → Prop) (g : List D → Option D) : Prop := ∀ (G H : Hp) (xs : List V) (ds : List D) (d : D) (Q : VK), Same G H → RpA K G xs ds → g ds = some d → (∀ G' H' v, Grow G H G' H' → Rp K G' v d → Q v H') → r xs H Q
theorem ans_lift {α β : Type} {o : Option α} {k : α → R β} {f : β → Prop} {e : Nat → Prop} (h : Ans ((lift o).bind k) f e) : ∃ a, o = some a ∧ Ans (k a) f e := by
  cases o with
  | none => exact h.elim
  | some a => exact ⟨a, rfl, h⟩
theorem EvI.c {d : D} {v : V} (h : ∀ G, Rp K G v d) : EvI K tw own W cl (tC v) (cD d) := fun H0 P G env σ H Q hp ok ans => ans G H v Gr.refl ok (h G)
theorem EvI.v {i : Nat} (hi : i ∉ own) : EvI K tw own W cl (tVar i) (varD i) := fun H0 P G env σ H Q hp ok ans => by
  unfold varD at ans
  split at ans
  · rename_i d e
    obtain ⟨v, e1, r⟩ := ok.val i d e hi
    exact ⟨v, e1, ans G H v Gr.refl ok r⟩
  · exact ans.elim
theorem EvI.op2 {r : R2} {g : D → D → Option D} (ho : Op2 K r g) (ha : EvI K tw own W cl ta fa) (hb : EvI K tw own W cl tb fb) : EvI K tw own W cl (tOp r ta tb) (op2 g fa fb) := fun H0 P G env σ H Q hp ok ans => by
  refine ha H0 P G env σ H _ hp ok (ans.bind.mono (fun a ha' G1 H1 x g1 ok1 rx => ?_) fun _ h => h)
  refine hb H0 P G1 a.2 σ H1 _ hp ok1 (ha'.bind.mono (fun b hb' G2 H2 y g2 ok2 ry => ?_) fun _ h => h)
  obtain ⟨d, e, q⟩ := ans_lift hb'
  exact ho G2 H2 x y a.1 b.1 d Q ok2.sub (rx.mono g2.1) ry e fun G' H' v gg rv => q G' H' v ((g1.trans g2).trans (gg.gr ok2)) (ok2.grow gg) rv
theorem EvI.op1 {r : V → Hp → VK → Prop} {g : D → Option D} (ho : Op1 K r g) (ha : EvI K tw own W cl ta fa) : EvI K tw own W cl (tUn r ta) (op1 g fa) := fun H0 P G env σ H Q hp ok ans => by
  refine ha H0 P G env σ H _ hp ok (ans.bind.mono (fun a ha' G1 H1 x g1 ok1 rx => ?_) fun _ h => h)
  obtain ⟨d, e, q⟩ := ans_lift ha'
  exact ho G1 H1 x a.1 d Q ok1.sub rx e fun G' H' v gg rv => q G' H' v (g1.trans (gg.gr ok1)) (ok1.grow gg) rv
theorem EvI.opN {r : List V → Hp → VK → Prop} {g : List D → Option D} (ho : OpN K r g) (ha : EvA K tw own W cl tA fA) : EvI K tw own W cl (tCB r tA) (opN g fA) := fun H0 P G env σ H Q hp ok ans => by
  refine ha H0 P G env σ H _ hp ok (ans.bind.mono (fun a ha' G1 H1 x g1 ok1 rx => ?_) fun _ h => h)
  obtain ⟨d, e, q⟩ := ans_lift ha'
  exact ho G1 H1 x a.1 d Q ok1.sub rx e fun G' H' v gg rv => q G' H' v (g1.trans (gg.gr ok1)) (ok1.grow gg) rv
theorem EvA.nil : EvA K tw own W cl tNil nilA := fun H0 P G env σ H Q hp ok ans => ans G H [] Gr.refl ok .nil
theorem EvA.cons (ha : EvI K tw own W cl ta fa) (hb : EvA K tw own W cl tA fA) : EvA K tw own W cl (tCons ta tA) (consA fa fA) := fun H0 P G env σ H Q hp ok ans => by
  refine ha H0 P G env σ H _ hp ok (ans.bind.mono (fun a ha' G1 H1 x g1 ok1 rx => ?_) fun _ h => h)
  refine hb H0 P G1 a.2 σ H1 _ hp ok1 (ha'.bind.mono (fun b hb' G2 H2 y g2 ok2 ry => ?_) fun _ h => h)
  exact hb' G2 H2 (x :: y) (g1.trans g2) ok2 (.cons (rx.mono g2.1) ry)
theorem EvI.lst (ha : EvA K tw own W cl tA fA) (hl : ∀ env r, fA env = .ok r → r.1.length ≤ 1000) : EvI K tw own W cl (tLst tA) (lstD fA) := fun H0 P G env σ H Q hp ok ans => by
  refine ha H0 P G env σ H _ hp ok (ans.bind.monoE (fun a e ha' G1 H1 vs g1 ok1 rx => ?_) fun _ h => h)
  refine ⟨by rw [rx.length]; exact sz100 (Nat.le_trans (hl env a e) (by decide)), fun p np => ?_⟩
  have gg : Grow G1 H1 (upd G1 p (.lst vs)) (upd H1 p (.lst vs)) := Grow.lay ok1.sub np
  exact ha' _ _ (.ref p) (g1.trans (gg.gr ok1)) (ok1.grow gg) (.lst upd_same (rx.mono gg.gg))
theorem EvI.tup (ha : EvA K tw own W cl tA fA) (hl : ∀ env r, fA env = .ok r → r.1.length ≤ 1000) : EvI K tw own W cl (tTupP tA) (tupD fA) := fun H0 P G env σ H Q hp ok ans => by
  refine ha H0 P G env σ H _ hp ok (ans.bind.monoE (fun a e ha' G1 H1 vs g1 ok1 rx => ?_) fun _ h => h)
  refine ⟨by rw [rx.length]; exact sz100 (Nat.le_trans (hl env a e) (by decide)), fun p ob np hd => ?_⟩
  have gg : Grow G1 H1 (upd G1 p (tupO ob vs)) (upd H1 p (tupO ob vs)) := Grow.lay ok1.sub np
  exact ha' _ _ (.ref p) (g1.trans (gg.gr ok1)) (ok1.grow gg) (Rp.lay upd_same hd (rx.mono gg.gg))
theorem EvI.callP {n : Nat} {F : List D → R D} (ha : EvA K tw own W cl tA fA) (hl : ∀ env r, fA env = .ok r → r.1.length = n) : EvI K tw own W cl (tCallS (spP K cl n F) (WE W) tA) (callP F fA) := fun H0 P G env σ H Q hp ok ans => by
  refine ha H0 P G env σ H _ hp ok (ans.bind.monoE (fun a e ha' G1 H1 vs g1 ok1 rx => ?_) fun _ h => h)
  refine ⟨G1, a.1, ok1.sub, rx, hl env a e, ha'.bind.mono (fun d q G' H' v gg rv => ?_) fun c h H' hs => ?_⟩
  · exact q G' H' v (g1.trans (gg.gr ok1)) (ok1.grow gg) rv
  · exact h H' fun a o h1 h2 => hs a o (ok1.fr a o h1 h2)
theorem EvI.callT {n i : Nat} {F : List D → R (D × D)} (hi : i ∈ own) (ha : EvI K tw own W cl ta fa) (hb : EvA K tw own W cl tA fA) (hl : ∀ env r, fA env = .ok r → r.1.length + 2 = n) :
    EvI K tw own W cl (tCallS (spT K cl 1 n F) (WE W) (tCons ta (tCons (tVar i) tA))) (callT F i fa fA) := fun H0 P G env σ H Q hp ok ans => by
  refine ha H0 P G env σ H _ hp ok (ans.bind.mono (fun a ha' G1 H1 x g1 ok1 rx => ?_) fun _ h => h)
  obtain ⟨p, e1⟩ := ok1.adr hi
  refine ⟨.ref p, e1, hb H0 P G1 a.2 σ H1 _ hp ok1 (ha'.bind.monoE (fun b eb hb' G2 H2 ys g2 ok2 ry => ?_) fun _ h => h)⟩
  obtain ⟨p', dt, os, hd, e2, c, h, fr, cls⟩ := ok2.does hi
  rw [e1] at e2
  cases e2
  rw [hd] at hb'
  refine ⟨G2, [x], p, ys, [a.1], dt, b.1, os, rfl, rfl, ok2.sub, .cons (rx.mono g2.1) .nil, c, h, ry, ?_, (Ans.bind hb').mono (fun r q G' H' v os' dd rv => ?_) fun k q H' s3 => q H' (fr H' s3)⟩
  · have := hl a.2 b eb
    simp only [List.length_cons, List.length_nil]
    omega
  · obtain ⟨gr, ok3⟩ := cls G' H' r.2 os' dd
    exact q G' H' v ((g1.trans g2).trans gr) ok3 rv
def EvH (K : PySem.W.Frag) (tw : List Nat) (own : List Nat) (W : WX) (cl : Nat → Addr) (i k : Nat) (t : TA) (f : Env → R ((List D × List D) × Env)) : Prop :=
  ∀ (H0 : Hp) (P : Par) (G : Hp) (env : Env) (σ : L2.St) (H : Hp) (Q : List V → Hp → Prop), P.1.map (·.1) = tw → StOk K H0 P own G env σ H →
    Ans (f env) (fun a => ∀ G' H' va vb p, Gr H0 G G' → StOk K H0 P own G' a.2 σ H' → RpA K G' va a.1.1 → RpA K G' vb a.1.2 → va.length = k → σ[i]? = some (some (.ref p)) → Q (va ++ .ref p :: vb) H') (fun c => ∀ H', Frm H0 P H' → W (.ref (cl c)) none σ H') → t σ H Q
def hereH (b : Env → R (List D × Env)) : Env → R ((List D × List D) × Env) := fun e => (b e).bind fun y => .ok (([], y.1), y.2)
def consH (a : Env → R (D × Env)) (h : Env → R ((List D × List D) × Env)) : Env → R ((List D × List D) × Env) := fun e => (a e).bind fun x => (h x.2).bind fun y => .ok ((x.1 :: y.1.1, y.1.2), y.2)
theorem EvH.here {i : Nat} (hi : i ∈ own) (hb : EvA K tw own W cl tA fA) : EvH K tw own W cl i 0 (tCons (tVar i) tA) (hereH fA) := fun H0 P G env σ H Q hp ok ans => by
  obtain ⟨p, e1⟩ := ok.adr hi
  refine ⟨.ref p, e1, hb H0 P G env σ H _ hp ok (ans.bind.mono (fun b hb' G2 H2 ys g2 ok2 ry => ?_) fun _ h => h)⟩
  exact hb' G2 H2 [] ys p g2 ok2 .nil ry rfl e1
theorem EvH.cons {i k : Nat} {fH : Env → R ((List D × List D) × Env)} (ha : EvI K tw own W cl ta fa) (hb : EvH K tw own W cl i k tA fH) : EvH K tw own W cl i (k + 1) (tCons ta tA) (consH fa fH) := fun H0 P G env σ H Q hp ok ans => by
  refine ha H0 P G env σ H _ hp ok (ans.bind.mono (fun a ha' G1 H1 x g1 ok1 rx => ?_) fun _ h => h)
  refine hb H0 P G1 a.2 σ H1 _ hp ok1 (ha'.bind.mono (fun b hb' G2 H2 va vb p g2 ok2 ra rb hl e => ?_) fun _ h => h)
  exact hb' G2 H2 (x :: va) vb p (g1.trans g2) ok2 (.cons (rx.mono g2.1) ra) rb (by rw [List.length_cons, hl]) e
/-! ### tests, and, or, not, if -/
theorem EvT.tst (ha : EvI K tw own W cl ta fa) : EvT K tw own W cl (tTest ta) (tstD fa) := fun H0 P G env σ H Q hp ok ans => by
  refine ha H0 P G env σ H _ hp ok (ans.bind.mono (fun a ha' G1 H1 x g1 ok1 rx => ?_) fun _ h => h)
  obtain ⟨d, e2⟩ := a
  cases d with
  | bool b =>
    cases rx
    exact ⟨b, rfl, ha' G1 H1 g1 ok1⟩
  | _ => exact ha'.elim
theorem EvT.tB (ha : EvI K tw own W cl ta fa) : EvT K tw own W cl (L2.tB ta) (tstD fa) := EvT.tst ha
theorem EvT.and (ha : EvT K tw own W cl t ft) (hb : EvT K tw own W cl u fu) : EvT K tw own W cl (tAnd t u) (andT ft fu) := fun H0 P G env σ H Q hp ok ans => by
  refine ha H0 P G env σ H _ hp ok (ans.bind.mono (fun a ha' G1 H1 g1 ok1 => ?_) fun _ h => h)
  obtain ⟨b, e⟩ := a
  cases b with
  | true => exact hb H0 P G1 e σ H1 Q hp ok1 (Ans.mono ha' (fun a h G' H' g2 => h G' H' (g1.trans g2)) fun _ h => h)
  | false => exact ha' G1 H1 g1 ok1
theorem EvT.or (ha : EvT K tw own W cl t ft) (hb : EvT K tw own W cl u fu) : EvT K tw own W cl (tOr t u) (orT ft fu) := fun H0 P G env σ H Q hp ok ans => by
  refine ha H0 P G env σ H _ hp ok (ans.bind.mono (fun a ha' G1 H1 g1 ok1 => ?_) fun _ h => h)
  obtain ⟨b, e⟩ := a
  cases b with
  | false => exact hb H0 P G1 e σ H1 Q hp ok1 (Ans.mono ha' (fun a h G' H' g2 => h G' H' (g1.trans g2)) fun _ h => h)
  | true => exact ha' G1 H1 g1 ok1
theorem EvT.not (ha : EvT K tw own W cl t ft) : EvT K tw own W cl (tNot t) (notT ft) := fun H0 P G env σ H Q hp ok ans => by
  exact ha H0 P G env σ H _ hp ok (ans.bind.mono (fun a ha' G1 H1 g1 ok1 => ha' G1 H1 g1 ok1) fun _ h => h)
theorem EvI.and (ha : EvI K tw own W cl ta fa) (hb : EvI K tw own W cl tb fb) : EvI K tw own W cl (tAndV ta tb) (andV fa fb) := fun H0 P G env σ H Q hp ok ans => by
  refine ha H0 P G env σ H _ hp ok (ans.bind.mono (fun a ha' G1 H1 x g1 ok1 rx => ?_) fun _ h => h)
  obtain ⟨d, e⟩ := a
  cases d with
  | bool b =>
    cases rx
    refine ⟨b, rfl, ?_⟩
    cases b with
    | true => exact hb H0 P G1 e σ H1 Q hp ok1 (Ans.mono ha' (fun a h G' H' v g2 => h G' H' v (g1.trans g2)) fun _ h => h)
    | false => exact ha' G1 H1 _ g1 ok1 (.bl false)
  | _ => exact ha'.elim
theorem EvI.or (ha : EvI K tw own W cl ta fa) (hb : EvI K tw own W cl tb fb) : EvI K tw own W cl (tOrV ta tb) (orV fa fb) := fun H0 P G env σ H Q hp ok ans => by
  refine ha H0 P G env σ H _ hp ok (ans.bind.mono (fun a ha' G1 H1 x g1 ok1 rx => ?_) fun _ h => h)
  obtain ⟨d, e⟩ := a
  cases d with
  | bool b =>
    cases rx
    refine ⟨b, rfl, ?_⟩
    cases b with
    | false => exact hb H0 P G1 e σ H1 Q hp ok1 (Ans.mono ha' (fun a h G' H' v g2 => h G' H' v (g1.trans g2)) fun _ h => h)
    | true => exact ha' G1 H1 _ g1 ok1 (.bl true)
  | _ => exact ha'.elim
theorem EvI.not (ha : EvI K tw own W cl ta fa) : EvI K tw own W cl (tNotV ta) (notV fa) := fun H0 P G env σ H Q hp ok ans => by
  refine ha H0 P G env σ H _ hp ok (ans.bind.mono (fun a ha' G1 H1 x g1 ok1 rx => ?_) fun _ h => h)
  obtain ⟨d, e⟩ := a
  cases d with
  | bool b =>
    cases rx
    exact ⟨b, rfl, ha' G1 H1 _ g1 ok1 (.bl (!b))⟩
  | _ => exact ha'.elim
theorem EvI.ifx (hc : EvT K tw own W cl t ft) (ha : EvI K tw own W cl ta fa) (hb : EvI K tw own W cl tb fb) : EvI K tw own W cl (tIf t ta tb) (ifD ft fa fb) := fun H0 P G env σ H Q hp ok ans => by
  refine hc H0 P G env σ H _ hp ok (ans.bind.mono (fun a ha' G1 H1 g1 ok1 => ?_) fun _ h => h)
  obtain ⟨b, e⟩ := a
  cases b with
  | true => exact ha H0 P G1 e σ H1 Q hp ok1 (Ans.mono ha' (fun a h G' H' v g2 => h G' H' v (g1.trans g2)) fun _ h => h)
  | false => exact hb H0 P G1 e σ H1 Q hp ok1 (Ans.mono ha' (fun a h G' H' v g2 => h G' H' v (g1.trans g2)) fun _ h => h)
theorem EvI.chain {r r' : R2} {g h : D → D → Option D} (ho : Op2 K r g) (ho' : Op2 K r' h) (ha : EvI K tw own W cl ta fa) (hb : EvI K tw own W cl tb fb) (hc : EvI K tw own W cl tc fc) :
    EvI K tw own W cl (tChain r r' ta tb tc) (chainD g h fa fb fc) := fun H0 P G env σ H Q hp ok ans => by
  refine ha H0 P G env σ H _ hp ok (ans.bind.mono (fun a ha' G1 H1 x g1 ok1 rx => ?_) fun _ h => h)
  refine hb H0 P G1 a.2 σ H1 _ hp ok1 (ha'.bind.mono (fun b hb' G2 H2 y g2 ok2 ry => ?_) fun _ h => h)
  cases e : g a.1 b.1 with
  | none => rw [e] at hb'; exact hb'.elim
  | some d =>
    rw [e] at hb'
    cases d with
    | bool k =>
      refine ho G2 H2 x y a.1 b.1 (.bool k) _ ok2.sub (rx.mono g2.1) ry e fun G3 H3 v gg rv => ?_
      cases rv
      refine ⟨k, rfl, ?_⟩
      have ok3 := ok2.grow gg
      have g3 := (g1.trans g2).trans (gg.gr ok2)
      cases k with
      | true =>
        refine hc H0 P G3 b.2 σ H3 _ hp ok3 ((Ans.bind hb').mono (fun c hc' G4 H4 z g4 ok4 rz => ?_) fun _ h => h)
        obtain ⟨d, e, q⟩ := ans_lift hc'
        exact ho' G4 H4 y z b.1 c.1 d Q ok4.sub ((ry.mono gg.gg).mono g4.1) rz e fun G' H' v gg2 rv => q G' H' v ((g3.trans g4).trans (gg2.gr ok4)) (ok4.grow gg2) rv
      | false => exact hb' G3 H3 _ g3 ok3 (.bl false)
    | _ => exact hb'.elim
end

/-! ### with the rules of the text -/
section
variable {X : Cx} {tw : List Nat} {own : List Nat} {W : WX} {cl : Nat → Addr} {a b c e : Expr} {es : List Expr} {pos p : Pos} {ta tb tc : TE} {tA tr : TA} {t u : TT} {fa fb fc : Env → R (D × Env)} {fA : Env → R (List D × Env)} {ft fu : Env → R (Bool × Env)}
theorem de_int {i j} : DI X tw own W cl (.Constant (.int i) j pos) (tC (.int i)) (cD (.int i)) := ⟨pe_int, EvI.c fun _ => .int i⟩
theorem de_str {i j} : DI X tw own W cl (.Constant (.str i) j pos) (tC (.str i)) (cD (.str i)) := ⟨pe_str, EvI.c fun _ => .str i⟩
theorem de_bl {i j} : DI X tw own W cl (.Constant (.bool i) j pos) (tC (.bl i)) (cD (.bool i)) := ⟨pe_bl, EvI.c fun _ => .bl i⟩
theorem de_non {j} : DI X tw own W cl (.Constant .none j pos) (tC .non) (cD .none) := ⟨pe_non, EvI.c fun _ => .non⟩
theorem de_v (i : Nat) {x : Str} (hi : i ∉ own := by decide) (hN : X.N[i]? = some x := by rfl) (hv : Vis X.env.scope x := by first | exact Or.inl rfl | exact Or.inr (Or.inl rfl) | exact Or.inr (Or.inr rfl)) (hd : (x == ("__debug__" : Str)) = false := by decide)
    (hcd : (x == ("__classdict__" : Str)) = false := by decide) : DI X tw own W cl (.Name x pos) (tVar i) (varD i) := ⟨pe_var hN hv hd hcd, EvI.v hi⟩
theorem de_glob {x : Str} {v : V} {d : D} {u : Value} (hm : X.mg x = some u) (r : RelV v u) (rp : ∀ G, Rp X.K G v d) (hg : Gl X x := by rfl) (hd : (x == ("__debug__" : Str)) = false := by decide) : DI X tw own W cl (.Name x pos) (tC v) (cD d) :=
  ⟨pe_glob hg hm r hd, EvI.c rp⟩
theorem da_nil : DA X tw own W cl [] tNil nilA := ⟨pa_nil, EvA.nil⟩
theorem da_cons (ha : DI X tw own W cl e ta fa) (hb : DA X tw own W cl es tA fA) (hs : starEach (e :: es) X.env = (false, eval e X.env) :: starEach es X.env := by rfl) : DA X tw own W cl (e :: es) (tCons ta tA) (consA fa fA) :=
  ⟨pa_cons ha.pe hb.pe hs, EvA.cons ha.ev hb.ev⟩
theorem de_bin {op : Operator} {r : R2} {g : D → D → Option D} (ho : OpR X (binaryOp op) r) (hv : Op2 X.K r g) (ha : DI X tw own W cl a ta fa) (hb : DI X tw own W cl b tb fb) : DI X tw own W cl (.BinOp a op b pos) (tOp r ta tb) (op2 g fa fb) :=
  ⟨pe_op ho ha.pe hb.pe, EvI.op2 hv ha.ev hb.ev⟩
theorem de_cmp {op : CmpOp} {r : R2} {g : D → D → Option D} (ho : OpR X (compareOp op) r) (hv : Op2 X.K r g) (ha : DI X tw own W cl a ta fa) (hb : DI X tw own W cl b tb fb) (hm : behindInMarks op b = false := by first | exact nomark _ | rfl) : DI X tw own W cl (.Compare a [op] [b] pos) (tOp r ta tb) (op2 g fa fb) :=
  ⟨pe_cmpR ho ha.pe hb.pe hm, EvI.op2 hv ha.ev hb.ev⟩
theorem dt_cmp {op : CmpOp} {r : R2} {g : D → D → Option D} (ho : OpR X (compareOp op) r) (hv : Op2 X.K r g) (ha : DI X tw own W cl a ta fa) (hb : DI X tw own W cl b tb fb) (hm : behindInMarks op b = false := by first | exact nomark _ | rfl) : DT X tw own W cl (.Compare a [op] [b] pos) (tTest (tOp r ta tb)) (tstD (op2 g fa fb)) :=
  ⟨pt_cmpR ho ha.pe hb.pe hm, EvT.tst (EvI.op2 hv ha.ev hb.ev)⟩
theorem de_chain {op op' : CmpOp} {r r' : R2} {g h : D → D → Option D} (ho : OpR X (compareOp op) r) (hv : Op2 X.K r g) (ho' : OpR X (compareOp op') r') (hv' : Op2 X.K r' h) (ha : DI X tw own W cl a ta fa) (hb : DI X tw own W cl b tb fb) (hc : DI X tw own W cl c tc fc)
    (hm : lastMarks [op, op'] [b, c] = false := by with_unfolding_all rfl) : DI X tw own W cl (.Compare a [op, op'] [b, c] pos) (tChain r r' ta tb tc) (chainD g h fa fb fc) := ⟨pe_chain ho ho' ha.pe hb.pe hc.pe hm, EvI.chain hv hv' ha.ev hb.ev hc.ev⟩
theorem dt_chain {op op' : CmpOp} {r r' : R2} {g h : D → D → Option D} (ho : OpR X (compareOp op) r) (hv : Op2 X.K r g) (ho' : OpR X (compareOp op') r') (hv' : Op2 X.K r' h) (ha : DI X tw own W cl a ta fa) (hb : DI X tw own W cl b tb fb) (hc : DI X tw own W cl c tc fc)
    (hm : lastMarks [op, op'] [b, c] = false := by with_unfolding_all rfl) : DT X tw own W cl (.Compare a [op, op'] [b, c] pos) (tTest (tChain r r' ta tb tc)) (tstD (chainD g h fa fb fc)) := ⟨pt_chain ho ho' ha.pe hb.pe hc.pe hm, EvT.tst (EvI.chain hv hv' ha.ev hb.ev hc.ev)⟩
theorem de_un {op : UnaryOp} {r : V → Hp → VK → Prop} {g : D → Option D} (ho : UnR X (unaryOp op) r) (hv : Op1 X.K r g) (ha : DI X tw own W cl a ta fa) : DI X tw own W cl (.UnaryOp op a pos) (tUn r ta) (op1 g fa) := ⟨pe_un ho ha.pe, EvI.op1 hv ha.ev⟩
theorem de_lst (ha : DA X tw own W cl es tA fA) (hl : ∀ env r, fA env = .ok r → r.1.length ≤ 1000) : DI X tw own W cl (.List es pos) (tLst tA) (lstD fA) := ⟨pe_lst ha.pe, EvI.lst ha.ev hl⟩
theorem de_tup {k} (ha : DA X tw own W cl es tA fA) (hl : ∀ env r, fA env = .ok r → r.1.length ≤ 1000) : DI X tw own W cl (.Tuple es k pos) (tTupP tA) (tupD fA) := ⟨pe_tupP ha.pe, EvI.tup ha.ev hl⟩
theorem de_callP {k n : Nat} {f : Addr} {fd : FuncData} {ps : List Str} {x : Str} {F : List D → R D} (G : FnOk X.prog X.w X.K X.mg X.base (L2N.CX X.prog X.w) k f fd ps (spP X.K cl n F)) (hr : Room k X.A) (hm : X.mg x = some (.ref f)) (hk : PySem.W.keepIn X.K (.ref f) = true) (hb : Binds X.K fd ps []) (tk : L2N.Takes X W)
    (ha : DA X tw own W cl (e :: es) tA fA) (hl : ∀ env r, fA env = .ok r → r.1.length = n) (hg : Gl X x := by rfl) (hdb : (x == ("__debug__" : Str)) = false := by decide) (he : starEach (e :: es) X.env = (false, eval e X.env) :: starEach es X.env := by rfl) (hpl : (backTo pos (starEach es X.env)).any (·.1) = false := by rfl) :
    DI X tw own W cl (.Call (.Name x p) (e :: es) [] pos) (tCallS (spP X.K cl n F) (WE W) tA) (callP F fA) :=
  ⟨pe_callS G hr hg hm hk hb (fun σ => L2N.passAt tk σ) ha.pe hdb he hpl, EvI.callP ha.ev hl⟩
theorem de_callT {k n i : Nat} {f : Addr} {fd : FuncData} {ps : List Str} {x y : Str} {q : Pos} {F : List D → R (D × D)} (G : FnOk X.prog X.w X.K X.mg X.base (L2N.CX X.prog X.w) k f fd ps (spT X.K cl 1 n F)) (hr : Room k X.A) (hm : X.mg x = some (.ref f)) (hk : PySem.W.keepIn X.K (.ref f) = true) (hb : Binds X.K fd ps []) (tk : L2N.Takes X W)
    (hi : i ∈ own) (ha : DI X tw own W cl e ta fa) (hr' : DA X tw own W cl es tA fA) (hl : ∀ env r, fA env = .ok r → r.1.length + 2 = n)
    (hN : X.N[i]? = some y := by rfl) (hv : Vis X.env.scope y := by first | exact Or.inl rfl | exact Or.inr (Or.inl rfl) | exact Or.inr (Or.inr rfl)) (hd : (y == ("__debug__" : Str)) = false := by decide) (hcd : (y == ("__classdict__" : Str)) = false := by decide)
    (hg : Gl X x := by rfl) (hdb : (x == ("__debug__" : Str)) = false := by decide) (hs2 : starEach (.Name y q :: es) X.env = (false, eval (.Name y q) X.env) :: starEach es X.env := by rfl) (he : starEach (e :: .Name y q :: es) X.env = (false, eval e X.env) :: starEach (.Name y q :: es) X.env := by rfl) (hpl : (backTo pos (starEach (.Name y q :: es) X.env)).any (·.1) = false := by rfl) :
    DI X tw own W cl (.Call (.Name x p) (e :: .Name y q :: es) [] pos) (tCallS (spT X.K cl 1 n F) (WE W) (tCons ta (tCons (tVar i) tA))) (callT F i fa fA) :=
  ⟨pe_callS G hr hg hm hk hb (fun σ => L2N.passAt tk σ) (pa_cons ha.pe (pa_cons (pe_var hN hv hd hcd) hr'.pe hs2) he) hdb he hpl, EvI.callT hi ha.ev hr'.ev hl⟩
theorem dt_val (ha : DI X tw own W cl e ta fa) (he : ∀ whole, isTrue e X.env whole = (do let v ← whole; standAt e.pos; holding [v] (truthy v)) := by intro _; rfl) : DT X tw own W cl e (tB ta) (tstD fa) := ⟨pt_val ha.pe he, EvT.tB ha.ev⟩
theorem dt_not (ha : DT X tw own W cl a t ft) : DT X tw own W cl (.UnaryOp .Not a pos) (tNot t) (notT ft) := ⟨pt_not ha.pe, EvT.not ha.ev⟩
structure DW (X : Cx) (tw : List Nat) (own : List Nat) (W : WX) (cl : Nat → Addr) (e : Expr) (t : TT) (f : Env → R (Bool × Env)) : Prop where
  pe : PW X e t
  ev : EvT X.K tw own W cl t f
theorem dw_and1 (ha : DT X tw own W cl a t ft) : DW X tw own W cl (.BoolOp .And [a] pos) t ft := ⟨pw_and1 ha.pe, ha.ev⟩
theorem dw_or1 (ha : DT X tw own W cl a t ft) : DW X tw own W cl (.BoolOp .Or [a] pos) t ft := ⟨pw_or1 ha.pe, ha.ev⟩
theorem dw_and (ha : DT X tw own W cl a t ft) (hb : DW X tw own W cl (.BoolOp .And (b :: es) pos) u fu) : DW X tw own W cl (.BoolOp .And (a :: b :: es) pos) (tAnd t u) (andT ft fu) := ⟨pw_and ha.pe hb.pe, EvT.and ha.ev hb.ev⟩
theorem dw_or (ha : DT X tw own W cl a t ft) (hb : DW X tw own W cl (.BoolOp .Or (b :: es) pos) u fu) : DW X tw own W cl (.BoolOp .Or (a :: b :: es) pos) (tOr t u) (orT ft fu) := ⟨pw_or ha.pe hb.pe, EvT.or ha.ev hb.ev⟩
theorem dt_w (h : DW X tw own W cl e t ft) : DT X tw own W cl e t ft := ⟨h.pe.pt, h.ev⟩
theorem de_one {op} (h : DI X tw own W cl a ta fa) : DI X tw own W cl (.BoolOp op [a] pos) ta fa := ⟨pe_one h.pe, h.ev⟩
theorem de_and (ha : DI X tw own W cl a ta fa) (hb : DI X tw own W cl (.BoolOp .And (b :: es) pos) tb fb) : DI X tw own W cl (.BoolOp .And (a :: b :: es) pos) (tAndV ta tb) (andV fa fb) := ⟨pe_and ha.pe hb.pe, EvI.and ha.ev hb.ev⟩
theorem de_or (ha : DI X tw own W cl a ta fa) (hb : DI X tw own W cl (.BoolOp .Or (b :: es) pos) tb fb) : DI X tw own W cl (.BoolOp .Or (a :: b :: es) pos) (tOrV ta tb) (orV fa fb) := ⟨pe_or ha.pe hb.pe, EvI.or ha.ev hb.ev⟩
theorem de_not (ha : DI X tw own W cl a ta fa) : DI X tw own W cl (.UnaryOp .Not a pos) (tNotV ta) (notV fa) := ⟨pe_not ha.pe, EvI.not ha.ev⟩
theorem de_if (hc : DT X tw own W cl c t ft) (ha : DI X tw own W cl a ta fa) (hb : DI X tw own W cl b tb fb) : DI X tw own W cl (.IfExp c a b pos) (tIf t ta tb) (ifD ft fa fb) := ⟨pe_ifExp hc.pe ha.pe hb.pe, EvI.ifx hc.ev ha.ev hb.ev⟩
theorem de_blt {x : Str} {id : String} {r : List V → Hp → VK → Prop} {g : List D → Option D} (hc : CallR X (.builtin id) r) (hv : OpN X.K r g) (hm : X.mg x = none) (hbt : bootBuiltins x = some (.builtin id)) (ha : DA X tw own W cl (e :: es) tA fA) (hg : Gl X x := by rfl) (hn : x ≠ "__name__" := by decide) (hdb : (x == ("__debug__" : Str)) = false := by decide)
    (he : starEach (e :: es) X.env = (false, eval e X.env) :: starEach es X.env := by rfl) (hpl : (backTo pos (starEach es X.env)).any (·.1) = false := by rfl) : DI X tw own W cl (.Call (.Name x p) (e :: es) [] pos) (tCB r tA) (opN g fA) :=
  ⟨pe_callB hc hg hm hbt ha.pe hn hdb he hpl, EvI.opN hv ha.ev⟩
theorem de_bty {x : Str} {T : String} {r : List V → Hp → VK → Prop} {g : List D → Option D} (hc : CallR X (.type T) r) (hv : OpN X.K r g) (hm : X.mg x = none) (hbt : bootBuiltins x = some (.type T)) (ha : DA X tw own W cl (e :: es) tA fA) (hg : Gl X x := by rfl) (hn : x ≠ "__name__" := by decide) (hdb : (x == ("__debug__" : Str)) = false := by decide)
    (he : starEach (e :: es) X.env = (false, eval e X.env) :: starEach es X.env := by rfl) (hpl : (backTo pos (starEach es X.env)).any (·.1) = false := by rfl) : DI X tw own W cl (.Call (.Name x p) (e :: es) [] pos) (tCB r tA) (opN g fA) :=
  ⟨pe_callTy hc hg hm hbt ha.pe hn hdb he hpl, EvI.opN hv ha.ev⟩
end
end Hz

namespace Hz
open PySem PySem.Spec PyProof.Rows L2

/-! ### data that may be compared: no dicts, not deep -/
def dep : Nat → D → Bool
  | _, .none => true
  | _, .bool _ => true
  | _, .int _ => true
  | _, .str x => PyData.canLay0 (.str x)
  | 0, .list _ => false
  | 0, .tuple _ => false
  | n + 1, .list xs => xs.all (dep n)
  | n + 1, .tuple xs => xs.all (dep n)
  | _, .dict _ => false
theorem dep_shape : ∀ (n : Nat) (d : D), dep n d = true → d.canLay0 = true ∧ d.depth ≤ n := by
  intro n
  induction n with
  | zero =>
    intro d h
    cases d <;> first | (simp [dep] at h; done) | exact ⟨by first | exact h | rfl, by simp [PyData.depth]⟩
  | succ n ih =>
    have all : ∀ xs : List D, xs.all (dep n) = true → PyData.canLayAll0 xs = true ∧ PyData.depthAll xs ≤ n := by
      intro xs
      induction xs with
      | nil => intro _; exact ⟨rfl, by simp [PyData.depthAll]⟩
      | cons x xs ihx =>
        intro h
        simp only [List.all_cons, Bool.and_eq_true] at h
        obtain ⟨h1, h2⟩ := ih x h.1
        obtain ⟨h3, h4⟩ := ihx h.2
        exact ⟨by simp [PyData.canLayAll0, h1, h3], by simp only [PyData.depthAll]; omega⟩
    intro d h
    cases d with
    | list xs =>
      obtain ⟨h1, h2⟩ := all xs h
      exact ⟨by simpa [PyData.canLay0] using h1, by simp only [PyData.depth]; omega⟩
    | tuple xs =>
      obtain ⟨h1, h2⟩ := all xs h
      exact ⟨by simpa [PyData.canLay0] using h1, by simp only [PyData.depth]; omega⟩
    | dict _ => simp [dep] at h
    | _ => exact ⟨by first | exact h | rfl, by simp [PyData.depth]⟩
theorem dep_shaped {d : D} (h : dep 9 d = true) : SeqAt.shaped d = true := by
  obtain ⟨h1, h2⟩ := dep_shape 9 d h
  unfold SeqAt.shaped
  rw [h1, decide_eq_true (by omega)]
  rfl
theorem dep_all {xs : List D} (h : dep 9 (.list xs) = true) : PyData.canLayAll0 xs = true := by
  obtain ⟨h1, _⟩ := dep_shape 9 _ h
  simpa [PyData.canLay0] using h1
theorem dep_allT {xs : List D} (h : dep 9 (.tuple xs) = true) : PyData.canLayAll0 xs = true := by
  obtain ⟨h1, _⟩ := dep_shape 9 _ h
  simpa [PyData.canLay0] using h1
theorem Rp.dep {K : PySem.W.Frag} {G : Hp} {v : V} {d : D} (r : Rp K G v d) (h : Hz.dep 9 d = true) : Dp K G v d := r.dp (dep_shape 9 d h).1
def scrD : D → Option (List D)
  | .dict [(.none, .list xs)] => some xs
  | _ => none

/-! ### what the operators are worth -/
def addD : D → D → Option D
  | .int i, .int j => some (.int (i + j))
  | .str x, .str y => if x.length + y.length ≤ 1000000 then some (.str (x ++ y)) else none
  | .list xs, .list ys => if xs.length + ys.length ≤ 1000000 then some (.list (xs ++ ys)) else none
  | .tuple xs, .tuple ys => if xs.length + ys.length ≤ 1000000 then some (.tuple (xs ++ ys)) else none
  | _, _ => none
def subD : D → D → Option D
  | .int i, .int j => some (.int (i - j))
  | _, _ => none
def mulD : D → D → Option D
  | .int i, .int j => if (-(2 ^ 64) < i ∧ i < 2 ^ 64) ∨ (-(2 ^ 64) < j ∧ j < 2 ^ 64) then some (.int (i * j)) else none
  | .list xs, .int k => if k ≤ 1000000 ∧ -1000000 ≤ k ∧ xs.length * k.toNat ≤ 1000000 then some (.list (List.replicate k.toNat xs).flatten) else none
  | .tuple xs, .int k => if xs ≠ [] ∧ 2 ≤ k ∧ k ≤ 1000 ∧ xs.length ≤ 1000 ∧ needN (List.replicate k.toNat xs).flatten = false then some (.tuple (List.replicate k.toNat xs).flatten) else none
  | _, _ => none
def modD : D → D → Option D
  | .int i, .int j => if 0 < j then some (.int (i % j)) else none
  | _, _ => none
def powD : D → D → Option D
  | .int i, .int j => if 0 ≤ j ∧ j ≤ 1000000 ∧ i.natAbs < 2 ^ 64 then some (.int (i ^ j.toNat)) else none
  | _, _ => none
def eqD (d e : D) : Option D := match scrD d with
  | some xs => if dep 9 (.list xs) = true ∧ dep 9 e = true then some (.bool (PyData.eqv (.list xs) e)) else none
  | none => if dep 9 d = true ∧ dep 9 e = true then some (.bool (PyData.eqv d e)) else none
def neD (d e : D) : Option D := match eqD d e with
  | some (.bool b) => some (.bool (!b))
  | _ => none
def intsOf : List D → Option (List Int)
  | [] => some []
  | .int i :: r => (intsOf r).map (i :: ·)
  | _ => none
theorem intsOf_eq : ∀ {ds : List D} {ns : List Int}, intsOf ds = some ns → ds = ns.map PyData.int
  | [], ns, h => by
    cases h
    rfl
  | d :: ds, ns, h => by
    cases d with
    | int i =>
      simp only [intsOf, Option.map_eq_some_iff] at h
      obtain ⟨ms, h1, rfl⟩ := h
      rw [intsOf_eq h1]
      rfl
    | _ => cases h
theorem intsOf_map : ∀ ns : List Int, intsOf (ns.map PyData.int) = some ns
  | [] => rfl
  | n :: ns => by simp [intsOf, intsOf_map ns]
def ltD : D → D → Option D
  | .int i, .int j => some (.bool (decide (i < j)))
  | .tuple xs, .tuple ys => match intsOf xs, intsOf ys with
    | some ns, some ms => some (.bool (HT.lexLt ns ms))
    | _, _ => none
  | _, _ => none
def leD : D → D → Option D
  | .int i, .int j => some (.bool (decide (i ≤ j)))
  | _, _ => none
def gtD : D → D → Option D
  | .int i, .int j => some (.bool (decide (j < i)))
  | _, _ => none
def geD : D → D → Option D
  | .int i, .int j => some (.bool (decide (j ≤ i)))
  | _, _ => none
def negD : D → Option D
  | .int i => some (.int (-i))
  | _ => none
def signOf (x : Str) : Option Nat := match x.cps.toList with
  | [c] => some c
  | _ => none
theorem signOf_eq {x : Str} {c : Nat} (h : signOf x = some c) : x = ⟨#[c]⟩ := by
  unfold signOf at h
  split at h
  · rename_i c' e
    cases h
    obtain ⟨a⟩ := x
    have : a = #[c] := by
      apply Array.toList_inj.mp
      simpa using e
    rw [this]
  · cases h
def inSeq (x : D) (ds : List D) : Bool := ds.any fun z => PyData.eqv z x
def inD (x c : D) : Option D := match c with
  | .list ds => if dep 9 x = true ∧ dep 9 (.list ds) = true then some (.bool (inSeq x ds)) else none
  | .tuple ds => if dep 9 x = true ∧ dep 9 (.tuple ds) = true then some (.bool (inSeq x ds)) else none
  | .str z => match x with
    | .str y => (signOf y).map fun c => .bool (decide (c ∈ z.cps.toList))
    | _ => none
  | _ => none
def notInD (x c : D) : Option D := match inD x c with
  | some (.bool b) => some (.bool (!b))
  | _ => none
def isD : D → D → Option D
  | x, .none => some (.bool (match x with | .none => true | _ => false))
  | .bool a, .bool b => some (.bool (decide (a = b)))
  | _, _ => none
def isNotD : D → D → Option D
  | x, .none => some (.bool (match x with | .none => false | _ => true))
  | .bool a, .bool b => some (.bool (!decide (a = b)))
  | _, _ => none

section
variable {K : PySem.W.Frag} {X : Cx}
def rAdd2 (K : PySem.W.Frag) : R2 := fun x y H Q => (∃ i j, x = V.int i ∧ y = V.int j ∧ Q (.int (i + j)) H) ∨ (∃ i j, x = V.str i ∧ y = V.str j ∧ i.length + j.length ≤ sizeLine ∧ Q (.str (i ++ j)) H) ∨ rCat x y H Q ∨ rCatP K x y H Q
theorem op_add2 : OpR X (binaryOp .Add) (rAdd2 X.K) := op_add.or (op_add_str.or (op_cat.or op_catP))
theorem v_add2 : Op2 K (rAdd2 K) addD := fun G H x y dx dy d Q sub rx ry e q => by
  cases rx with
  | int i =>
    cases ry with
    | int j =>
      cases e
      exact .inl ⟨i, j, rfl, rfl, q G H _ (Grow.refl sub) (.int _)⟩
    | _ => cases e
  | str i =>
    cases ry with
    | str j =>
      simp only [addD] at e
      split at e
      · cases e
        exact .inr (.inl ⟨i, j, rfl, rfl, sz100 (by assumption), q G H _ (Grow.refl sub) (.str _)⟩)
      · cases e
    | _ => cases e
  | @lst a xs ds h1 a1 =>
    cases ry with
    | @lst b ys es h2 a2 =>
      simp only [addD] at e
      split at e
      · rename_i hz
        cases e
        refine .inr (.inr (.inl ⟨a, b, xs, ys, rfl, rfl, sub _ _ h1, sub _ _ h2, sz100 (by rw [a1.length, a2.length]; exact hz), fun p np => ?_⟩))
        have gg : Grow G H (upd G p (.lst (xs ++ ys))) (upd H p (.lst (xs ++ ys))) := Grow.lay sub np
        exact q _ _ _ gg (.lst upd_same ((a1.append a2).mono gg.gg))
      · cases e
    | _ => cases e
  | @tup a xs ds h1 a1 n1 =>
    cases ry with
    | @tup b ys es h2 a2 n2 =>
      simp only [addD] at e
      split at e
      · rename_i hz
        cases e
        refine .inr (.inr (.inr ⟨a, b, xs, ys, rfl, rfl, Same.sqT sub h1, Same.sqT sub h2, sz100 (by rw [a1.length, a2.length]; exact hz), fun ex => ?_, fun _ ey => ?_, fun _ _ p ob np hd => ?_⟩))
        · subst ex
          cases a1
          exact q G H _ (Grow.refl sub) (.tup h2 a2 n2)
        · subst ey
          cases a2
          rw [List.append_nil] at q
          exact q G H _ (Grow.refl sub) (.tup h1 a1 n1)
        · have gg : Grow G H (upd G p (tupO ob (xs ++ ys))) (upd H p (tupO ob (xs ++ ys))) := Grow.lay sub np
          exact q _ _ _ gg (Rp.lay upd_same hd ((a1.append a2).mono gg.gg))
      · cases e
    | _ => cases e
  | _ => cases ry <;> cases e
theorem v_sub : Op2 K (rI0 fun i j => V.int (i - j)) subD := fun G H x y dx dy d Q sub rx ry e q => by
  cases rx <;> cases ry <;> first | (cases e; done) | skip
  cases e
  exact ⟨_, _, rfl, rfl, q G H _ (Grow.refl sub) (.int _)⟩
def rMul2 (K : PySem.W.Frag) : R2 := fun x y H Q => (rI CMul fun i j => V.int (i * j)) x y H Q ∨ rRep x y H Q ∨ rRepT K x y H Q
theorem op_mul2 : OpR X (binaryOp .Mult) (rMul2 X.K) := op_mul.or (op_rep.or op_repT)
theorem v_mul2 : Op2 K (rMul2 K) mulD := fun G H x y dx dy d Q sub rx ry e q => by
  cases ry with
  | int j =>
    cases rx with
    | int i =>
      simp only [mulD] at e
      split at e
      · rename_i hz
        cases e
        exact .inl ⟨i, j, rfl, rfl, hz, q G H _ (Grow.refl sub) (.int _)⟩
      · cases e
    | @lst a xs ds h1 a1 =>
      simp only [mulD] at e
      split at e
      · rename_i hz
        cases e
        refine .inr (.inl ⟨a, j, xs, rfl, rfl, sub _ _ h1, by omega, by omega, sz100 (by rw [a1.length]; exact hz.2.2), fun p np => ?_⟩)
        have gg : Grow G H (upd G p (.lst (List.replicate j.toNat xs).flatten)) (upd H p (.lst (List.replicate j.toNat xs).flatten)) := Grow.lay sub np
        exact q _ _ _ gg (.lst upd_same ((a1.flat j.toNat).mono gg.gg))
      · cases e
    | @tup a xs ds h1 a1 n1 =>
      simp only [mulD] at e
      split at e
      · rename_i hz
        cases e
        refine .inr (.inr ⟨a, j, xs, rfl, rfl, Same.sqT sub h1, fun z => hz.1 ?_, hz.2.1, hz.2.2.1, by rw [a1.length]; exact hz.2.2.2.1, fun p np => ?_⟩)
        · subst z
          cases a1
          rfl
        · have gg : Grow G H (upd G p (.tup (List.replicate j.toNat xs).flatten)) (upd H p (.tup (List.replicate j.toNat xs).flatten)) := Grow.lay sub np
          exact q _ _ _ gg (.tup (SqT.of upd_same) ((a1.flat j.toNat).mono gg.gg) ⟨fun z => (by rw [hz.2.2.2.2] at z; cases z), fun _ => upd_same⟩)
      · cases e
    | _ => cases e
  | _ => cases rx <;> cases e
theorem v_mod : Op2 K (rI (fun _ j => 0 < j) fun i j => V.int (i % j)) modD := fun G H x y dx dy d Q sub rx ry e q => by
  cases rx <;> cases ry <;> first | (cases e; done) | skip
  simp only [modD] at e
  split at e
  · cases e
    exact ⟨_, _, rfl, rfl, by assumption, q G H _ (Grow.refl sub) (.int _)⟩
  · cases e
theorem v_pow : Op2 K (rI CPow fun i j => V.int (i ^ j.toNat)) powD := fun G H x y dx dy d Q sub rx ry e q => by
  cases rx <;> cases ry <;> first | (cases e; done) | skip
  simp only [powD] at e
  split at e
  · cases e
    exact ⟨_, _, rfl, rfl, by assumption, q G H _ (Grow.refl sub) (.int _)⟩
  · cases e
theorem v_neg : Op1 K (rU fun i => V.int (-i)) negD := fun G H x dx d Q sub rx e q => by
  cases rx <;> first | (cases e; done) | skip
  cases e
  exact ⟨_, rfl, q G H _ (Grow.refl sub) (.int _)⟩
theorem dpm {G H : Hp} {v : V} {d : D} (h : Dp K G v d) (s : Same G H) : Dp K H v d := by
  have go : ∀ (n : Nat) (v : V) (d : D), sizeOf d < n → Dp K G v d → Dp K H v d := by
    intro n
    induction n with
    | zero => intro v d h; omega
    | succ n ih =>
      have all : ∀ (vs : List V) (ds : List D), sizeOf ds < n + 1 → DpAll K G vs ds → DpAll K H vs ds := by
        intro vs
        induction vs with
        | nil => intro ds _ h; cases h; exact .nil
        | cons v vs ihv =>
          intro ds hs h
          cases h with
          | @cons _ _ d ds h a =>
            have hs' : 1 + sizeOf d + sizeOf ds < n + 1 := by simpa using hs
            exact .cons (ih v d (by omega) h) (ihv ds (by omega) a)
      intro v d hs h
      cases h with
      | non => exact .non
      | bl b => exact .bl b
      | int i => exact .int i
      | str x => exact .str x
      | @lst a xs ds h a =>
        have hs' : 1 + sizeOf ds < n + 1 := by simpa using hs
        exact .lst (s.seq h) (all _ _ (by omega) a)
      | @tup a xs ds h a =>
        have hs' : 1 + sizeOf ds < n + 1 := by simpa using hs
        exact .tup (Same.sqT s h) (all _ _ (by omega) a)
  exact go (sizeOf d + 1) v d (Nat.lt_succ_self _) h
theorem dpAll_ints {G : Hp} : ∀ ns : List Int, DpAll K G (ns.map V.int) (ns.map PyData.int)
  | [] => .nil
  | n :: ns => .cons (.int n) (dpAll_ints ns)
theorem kD_ne (k : Key) : kD k ≠ .none := by
  cases k <;> exact fun h => nomatch h
theorem rpk_no {G : Hp} {kvs : List (Key × V)} {ds : List (D × D)} {d : D} (h : RpK K G kvs ((.none, d) :: ds)) : False := by
  generalize e : ((PyData.none, d) :: ds : List (D × D)) = l at h
  cases h with
  | nil => cases e
  | @cons k v kvs d' ds' h1 h2 =>
    injection e with e1 _
    injection e1 with e2 _
    exact kD_ne k e2.symm
theorem eq_shape {d e : D} {r : D} (h : eqD d e = some r) : ∃ b, r = .bool b ∧ ∀ {G H : Hp} {x y : V}, Same G H → Rp K G x d → Rp K G y e → ∃ d', Dp K H x d' ∧ Dp K H y e ∧ SeqAt.shaped d' = true ∧ SeqAt.shaped e = true ∧ b = PyData.eqv d' e := by
  unfold eqD at h
  split at h
  · rename_i xs hx
    split at h
    · rename_i hz
      cases h
      refine ⟨_, rfl, fun {G H x y} s rx ry => ⟨.list xs, ?_, dpm (ry.dep hz.2) s, dep_shaped hz.1, dep_shaped hz.2, rfl⟩⟩
      unfold scrD at hx
      split at hx
      · cases hx
        cases rx with
        | scr h => exact .lst (s.seq h) (dpAll_ints _)
        | dic h a => exact (rpk_no a).elim
      · cases hx
    · cases h
  · split at h
    · rename_i hz
      cases h
      exact ⟨_, rfl, fun {G H x y} s rx ry => ⟨d, dpm (rx.dep hz.1) s, dpm (ry.dep hz.2) s, dep_shaped hz.1, dep_shaped hz.2, rfl⟩⟩
    · cases h
theorem v_eq : Op2 K (rEqD K) eqD := fun G H x y dx dy d Q sub rx ry e q => by
  obtain ⟨b, rfl, h⟩ := eq_shape (K := K) e
  obtain ⟨d', h1, h2, h3, h4, rfl⟩ := h sub rx ry
  exact ⟨d', dy, h1, h2, h3, h4, q G H _ (Grow.refl sub) (.bl _)⟩
theorem v_ne : Op2 K (rNeD K) neD := fun G H x y dx dy d Q sub rx ry e q => by
  unfold neD at e
  split at e
  · rename_i b eb
    cases e
    obtain ⟨b', hb, h⟩ := eq_shape (K := K) eb
    cases hb
    obtain ⟨d', h1, h2, h3, h4, rfl⟩ := h sub rx ry
    exact ⟨d', dy, h1, h2, h3, h4, q G H _ (Grow.refl sub) (.bl _)⟩
  · cases e
def rLt2 (K : PySem.W.Frag) : R2 := fun x y H Q => (rI0 fun i j => V.bl (decide (i < j))) x y H Q ∨ rLtT K x y H Q
theorem op_lt2 (hu : X.A.units < cLine) : OpR X (compareOp .Lt) (rLt2 X.K) := op_lt.or (op_ltT hu)
theorem v_lt2 : Op2 K (rLt2 K) ltD := fun G H x y dx dy d Q sub rx ry e q => by
  cases rx with
  | int i =>
    cases ry with
    | int j =>
      cases e
      exact .inl ⟨i, j, rfl, rfl, q G H _ (Grow.refl sub) (.bl _)⟩
    | _ => cases e
  | @tup a xs ds h1 a1 n1 =>
    cases ry with
    | @tup b ys es h2 a2 n2 =>
      simp only [ltD] at e
      split at e
      · rename_i ns ms e1 e2
        cases e
        cases intsOf_eq e1
        cases intsOf_eq e2
        cases a1.ints
        cases a2.ints
        exact .inr ⟨a, b, ns, ms, rfl, rfl, Same.sqT sub h1, Same.sqT sub h2, q G H _ (Grow.refl sub) (.bl _)⟩
      · cases e
    | _ => cases e
  | _ => cases ry <;> cases e
theorem v_le : Op2 K (rI0 fun i j => V.bl (decide (i ≤ j))) leD := fun G H x y dx dy d Q sub rx ry e q => by
  cases rx <;> cases ry <;> first | (cases e; done) | skip
  cases e
  exact ⟨_, _, rfl, rfl, q G H _ (Grow.refl sub) (.bl _)⟩
theorem v_gt : Op2 K (rI0 fun i j => V.bl (decide (j < i))) gtD := fun G H x y dx dy d Q sub rx ry e q => by
  cases rx <;> cases ry <;> first | (cases e; done) | skip
  cases e
  exact ⟨_, _, rfl, rfl, q G H _ (Grow.refl sub) (.bl _)⟩
def rInA (K : PySem.W.Frag) (neg : Bool) : R2 := fun x y H Q => (∃ d ds, Dp K H x d ∧ (Dp K H y (.list ds) ∨ Dp K H y (.tuple ds)) ∧ SeqAt.shaped d = true ∧ PyData.canLayAll0 ds = true ∧ Q (.bl (if neg then !inSeq d ds else inSeq d ds)) H) ∨
  (∃ (c : Nat) (z : Str), x = V.str ⟨#[c]⟩ ∧ y = V.str z ∧ Q (.bl (if neg then !decide (c ∈ z.cps.toList) else decide (c ∈ z.cps.toList))) H)
theorem room_shaped {A : Around} {xs : List D} {d : D} (hd : SeqAt.shaped d = true) (hu : A.units + 65 < cLine) : A.units + 1 + min (PyData.depthAll xs) d.depth < cLine := by
  have h1 := SeqAt.depth_of_shaped hd
  have h2 : min (PyData.depthAll xs) d.depth ≤ d.depth := Nat.min_le_right _ _
  omega
theorem op_inA (hu : X.A.units + 65 < cLine) : OpR X (compareOp .In) (rInA X.K false) := by
  intro pins s σ H x y v u Q I rx ry h
  rcases h with ⟨d, ds, hd, hy, sd, sc, q⟩ | ⟨c, z, h1, h2, q⟩
  · obtain ⟨as, r1⟩ := Dp.reads I d x v hd rx
    rcases hy with hy | hy
    · obtain ⟨bs, r2⟩ := Dp.reads I _ y u hy ry
      exact SeqAt.in_list_reads r2 r1 sc (SeqAt.canLay_of_shaped sd) (room_shaped sd hu) ⟨.bl _, H, I, rfl, q⟩
    · obtain ⟨bs, r2⟩ := Dp.reads I _ y u hy ry
      exact SeqAt.in_tuple_reads r2 r1 sc (SeqAt.canLay_of_shaped sd) (room_shaped sd hu) ⟨.bl _, H, I, rfl, q⟩
  · exact op_in_sign pins s σ H x y v u Q I rx ry ⟨c, z, h1, h2, q⟩
theorem op_notInA (hu : X.A.units + 65 < cLine) : OpR X (compareOp .NotIn) (rInA X.K true) := by
  intro pins s σ H x y v u Q I rx ry h
  rcases h with ⟨d, ds, hd, hy, sd, sc, q⟩ | ⟨c, z, h1, h2, q⟩
  · obtain ⟨as, r1⟩ := Dp.reads I d x v hd rx
    rcases hy with hy | hy
    · obtain ⟨bs, r2⟩ := Dp.reads I _ y u hy ry
      exact SeqAt.notIn_list_reads r2 r1 sc (SeqAt.canLay_of_shaped sd) (room_shaped sd hu) ⟨.bl _, H, I, rfl, q⟩
    · obtain ⟨bs, r2⟩ := Dp.reads I _ y u hy ry
      exact SeqAt.notIn_tuple_reads r2 r1 sc (SeqAt.canLay_of_shaped sd) (room_shaped sd hu) ⟨.bl _, H, I, rfl, q⟩
  · exact op_notIn_sign pins s σ H x y v u Q I rx ry ⟨c, z, h1, h2, q⟩
theorem in_shape {x c r : D} (neg : Bool) (h : inD x c = some r) : ∃ b, r = .bool b ∧ ∀ {G H : Hp} {xv y : V} {Q : VK}, Same G H → Rp K G xv x → Rp K G y c → Q (.bl (if neg then !b else b)) H → rInA K neg xv y H Q := by
  unfold inD at h
  split at h
  · rename_i ds
    split at h
    · rename_i hz
      cases h
      exact ⟨_, rfl, fun {G H xv y Q} s rx ry q => .inl ⟨x, ds, dpm (rx.dep hz.1) s, .inl (dpm (ry.dep hz.2) s), dep_shaped hz.1, dep_all hz.2, q⟩⟩
    · cases h
  · rename_i ds
    split at h
    · rename_i hz
      cases h
      exact ⟨_, rfl, fun {G H xv y Q} s rx ry q => .inl ⟨x, ds, dpm (rx.dep hz.1) s, .inr (dpm (ry.dep hz.2) s), dep_shaped hz.1, dep_allT hz.2, q⟩⟩
    · cases h
  · rename_i z
    split at h
    · rename_i y
      rw [Option.map_eq_some_iff] at h
      obtain ⟨c, hc, rfl⟩ := h
      refine ⟨_, rfl, fun {G H xv y' Q} s rx ry q => ?_⟩
      cases rx
      cases ry
      rw [signOf_eq hc]
      exact .inr ⟨c, z, rfl, rfl, q⟩
    · cases h
  · cases h
theorem v_in : Op2 K (rInA K false) inD := fun G H x y dx dy d Q sub rx ry e q => by
  obtain ⟨b, rfl, h⟩ := in_shape (K := K) false e
  exact h sub rx ry (q G H _ (Grow.refl sub) (.bl _))
theorem v_notIn : Op2 K (rInA K true) notInD := fun G H x y dx dy d Q sub rx ry e q => by
  unfold notInD at e
  split at e
  · rename_i b eb
    cases e
    obtain ⟨b', hb, h⟩ := in_shape (K := K) true eb
    cases hb
    exact h sub rx ry (q G H _ (Grow.refl sub) (.bl _))
  · cases e
def rIs2 (neg : Bool) : R2 := fun x y H Q => (y = V.non ∧ Q (.bl (if neg then !decide (x = .non) else decide (x = .non))) H) ∨ (∃ a b, x = V.bl a ∧ y = V.bl b ∧ Q (.bl (if neg then !decide (a = b) else decide (a = b))) H)
theorem op_is2 : OpR X (compareOp .Is) (rIs2 false) := op_isN.or op_is_bl
theorem op_isNot2 : OpR X (compareOp .IsNot) (rIs2 true) := op_notN.or op_isnot_bl
theorem v_is : Op2 K (rIs2 false) isD := fun G H x y dx dy d Q sub rx ry e q => by
  cases ry with
  | non =>
    cases e
    refine .inl ⟨rfl, ?_⟩
    have h := q G H _ (Grow.refl sub) (.bl _)
    cases rx <;> exact h
  | bl b =>
    cases rx <;> first | (cases e; done) | skip
    cases e
    exact .inr ⟨_, _, rfl, rfl, q G H _ (Grow.refl sub) (.bl _)⟩
  | _ => cases rx <;> cases e
theorem v_isNot : Op2 K (rIs2 true) isNotD := fun G H x y dx dy d Q sub rx ry e q => by
  cases ry with
  | non =>
    cases e
    refine .inl ⟨rfl, ?_⟩
    have h := q G H _ (Grow.refl sub) (.bl _)
    cases rx <;> exact h
  | bl b =>
    cases rx <;> first | (cases e; done) | skip
    cases e
    exact .inr ⟨_, _, rfl, rfl, q G H _ (Grow.refl sub) (.bl _)⟩
  | _ => cases rx <;> cases e
end
end Hz

namespace Hz
open PySem PySem.Spec PyProof.Rows L2

/-! ### what is walked -/
def Items (K : PySem.W.Frag) (G0 : Hp) (J : It) (items : List D) : Prop := ∀ (i : Nat) (G H : Hp), Same G0 G → Same G H →
  (∀ d, items[i]? = some d → J.go i H ∧ ∀ x H', J.yld i H x H' → ∃ G2, Grow G H G2 H' ∧ Rp K G2 x d) ∧ (items[i]? = none → J.stop i H)
theorem Items.mono {K : PySem.W.Frag} {G0 G1 : Hp} {J : It} {items : List D} (h : Items K G0 J items) (e : Same G0 G1) : Items K G1 J items := fun i G H s1 s2 => h i G H (e.trans s1) s2
def EvIt (K : PySem.W.Frag) (tw : List Nat) (own : List Nat) (W : WX) (cl : Nat → Addr) (t : TI) (f : Env → R (List D × Env)) : Prop :=
  ∀ (H0 : Hp) (P : Par) (G : Hp) (env : Env) (σ : L2.St) (H : Hp) (Q : It → Hp → Prop), P.1.map (·.1) = tw → StOk K H0 P own G env σ H →
    Ans (f env) (fun a => ∀ G' H' J, Gr H0 G G' → StOk K H0 P own G' a.2 σ H' → Items K G' J a.1 → Q J H') (fun c => ∀ H', Frm H0 P H' → W (.ref (cl c)) none σ H') → t σ H Q
structure DIt (X : Cx) (tw : List Nat) (own : List Nat) (W : WX) (cl : Nat → Addr) (tg iter : Expr) (t : TI) (f : Env → R (List D × Env)) : Prop where
  pi : PI X tg iter t
  ev : EvIt X.K tw own W cl t f
def EvG (K : PySem.W.Frag) (own sl : List Nat) (g : TG) (b : D → Env → Option Env) : Prop :=
  ∀ (H0 : Hp) (P : Par) (G : Hp) (env : Env) (σ : L2.St) (H : Hp) (v : V) (d : D) (env' : Env) (Q : L2.St → Hp → Prop), StOk K H0 P own G env σ H → Rp K G v d → b d env = some env' →
    (∀ σ', StOk K H0 P own G env' σ' H → σ'.length = σ.length → (∀ j, j ∉ sl → σ'[j]? = σ[j]?) → Q σ' H) → g v σ H Q
def EvGs (K : PySem.W.Frag) (own sl : List Nat) (g : TGs) (b : List D → Env → Option Env) : Prop :=
  ∀ (H0 : Hp) (P : Par) (G : Hp) (env : Env) (σ : L2.St) (H : Hp) (vs : List V) (ds : List D) (env' : Env) (Q : L2.St → Hp → Prop), StOk K H0 P own G env σ H → RpA K G vs ds → b ds env = some env' →
    (∀ σ', StOk K H0 P own G env' σ' H → σ'.length = σ.length → (∀ j, j ∉ sl → σ'[j]? = σ[j]?) → Q σ' H) → g vs σ H Q
structure DG (X : Cx) (own sl : List Nat) (tg : Expr) (g : TG) (b : D → Env → Option Env) : Prop where
  pg : PG X tg g
  ev : EvG X.K own sl g b
structure DGs (X : Cx) (own sl : List Nat) (tg : List Expr) (g : TGs) (b : List D → Env → Option Env) : Prop where
  pg : PGs X tg g
  ev : EvGs X.K own sl g b
def bName (i : Nat) : D → Env → Option Env := fun d e => some (e.set i (some d))
def bNil : List D → Env → Option Env
  | [], e => some e
  | _, _ => none
def bCons (b : D → Env → Option Env) (c : List D → Env → Option Env) : List D → Env → Option Env
  | d :: ds, e => (b d e).bind (c ds)
  | [], _ => none
def bTup (n : Nat) (c : List D → Env → Option Env) : D → Env → Option Env
  | .tuple ds, e => if ds.length = n then c ds e else none
  | _, _ => none
section
variable {K : PySem.W.Frag} {own sl sl' : List Nat}
theorem EvG.name {i : Nat} (hi : i ∉ own) : EvG K own [i] (gName i) (bName i) := fun H0 P G env σ H v d env' Q ok r e q => by
  cases e
  exact q _ (ok.set r hi) (by simp) fun j hj => List.getElem?_set_ne fun z => hj (by simp [z])
theorem EvGs.nil : EvGs K own [] gNil bNil := fun H0 P G env σ H vs ds env' Q ok r e q => by
  cases r with
  | nil =>
    cases e
    exact ⟨rfl, q σ ok rfl fun _ _ => rfl⟩
  | cons _ _ => cases e
theorem EvGs.cons {g : TG} {gs : TGs} {b : D → Env → Option Env} {c : List D → Env → Option Env} (h : EvG K own sl g b) (hs : EvGs K own sl' gs c) : EvGs K own (sl ++ sl') (gCons g gs) (bCons b c) := fun H0 P G env σ H vs ds env' Q ok r e q => by
  cases r with
  | nil => cases e
  | @cons v vs d ds r rr =>
    obtain ⟨e1, h1, h2⟩ := Option.bind_eq_some_iff.mp (show (b d env).bind (c ds) = some env' from e)
    refine ⟨v, vs, rfl, h H0 P G env σ H v d e1 _ ok r h1 fun σ1 ok1 l1 s1 => ?_⟩
    refine hs H0 P G e1 σ1 H vs ds env' _ ok1 rr h2 fun σ2 ok2 l2 s2 => q σ2 ok2 (l2.trans l1) fun j hj => ?_
    exact (s2 j fun z => hj (List.mem_append_right _ z)).trans (s1 j fun z => hj (List.mem_append_left _ z))
theorem EvG.tup {n : Nat} {gs : TGs} {c : List D → Env → Option Env} (hs : EvGs K own sl gs c) : EvG K own sl (gTup K n gs) (bTup n c) := fun H0 P G env σ H v d env' Q ok r e q => by
  cases r with
  | @tup a xs ds h1 a1 =>
    simp only [bTup] at e
    split at e
    · rename_i hl
      exact ⟨a, xs, rfl, Same.sqT ok.sub h1, a1.length.trans hl, hs H0 P G env σ H xs ds env' Q ok a1 e q⟩
    · cases e
  | _ => cases e
end
section
variable {X : Cx} {own sl sl' : List Nat} {pos : Pos}
theorem dg_name (i : Nat) {x : Str} (nd : X.N.Nodup) (hi : i ∉ own := by decide) (hx : Loc X.env.scope x := by first | exact Or.inl rfl | exact Or.inr rfl) (hN : X.N[i]? = some x := by rfl) (hf : X.fn x = true ∨ X.env.scope.names.lookup x = some .local := by first | exact .inl rfl | exact .inr rfl) : DG X own [i] (.Name x pos) (gName i) (bName i) :=
  ⟨pg_name nd hN hx hf, EvG.name hi⟩
theorem dgs_nil : DGs X own [] [] gNil bNil := ⟨pgs_nil, EvGs.nil⟩
theorem dgs_cons {e : Expr} {es : List Expr} {g : TG} {gs : TGs} {b : D → Env → Option Env} {c : List D → Env → Option Env} (h : DG X own sl e g b) (hs : DGs X own sl' es gs c) (hh : (assignEach (e :: es) X.env).map (·.2) = assign e X.env :: (assignEach es X.env).map (·.2) := by rfl) : DGs X own (sl ++ sl') (e :: es) (gCons g gs) (bCons b c) :=
  ⟨pgs_cons h.pg hs.pg hh, EvGs.cons h.ev hs.ev⟩
theorem dg_tup {es : List Expr} {k n : Nat} {gs : TGs} {c : List D → Env → Option Env} (hs : DGs X own sl es gs c) (hc : X.calm = true := by rfl) (hn : (assignEach es X.env).length = n := by rfl) (hst : (assignEach es X.env).findIdx? (·.1) = none := by rfl) : DG X own sl (.Tuple es k pos) (gTup X.K n gs) (bTup n c) :=
  ⟨pg_tup hc hs.pg hn hst, EvG.tup hs.ev⟩
end

/-! ### loops -/
def forL (b : D → Env → Option Env) (body : Env → R (Fl × Env)) : List D → Env → R (Fl × Env)
  | [], e => .ok (.nx, e)
  | d :: ds, e => (lift (b d e)).bind fun e1 => (body e1).bind fun r => match r.1 with
    | .nx => forL b body ds r.2
    | .ct => forL b body ds r.2
    | .bk => .ok (.nx, r.2)
    | .rt d => .ok (.rt d, r.2)
def forS (fi : Env → R (List D × Env)) (b : D → Env → Option Env) (body : Env → R (Fl × Env)) : Env → R (Fl × Env) := fun e => (fi e).bind fun x => forL b body x.1 x.2
def whileL (c : Env → R (Bool × Env)) (body : Env → R (Fl × Env)) : Nat → Env → R (Fl × Env)
  | 0, _ => .bad
  | n + 1, e => (c e).bind fun x => if x.1 = true then (body x.2).bind fun r => match r.1 with
      | .nx => whileL c body n r.2
      | .ct => whileL c body n r.2
      | .bk => .ok (.nx, r.2)
      | .rt d => .ok (.rt d, r.2)
    else .ok (.nx, x.2)
def fuel : Nat := 1000000
def whileS (c : Env → R (Bool × Env)) (body : Env → R (Fl × Env)) : Env → R (Fl × Env) := fun e => whileL c body fuel e

section
variable {K : PySem.W.Frag} {tw : List Nat} {own : List Nat} {W : WX} {cl : Nat → Addr}
def Aft (K : PySem.W.Frag) (tw : List Nat) (oN oL : List Nat) (H0 : Hp) (P : Par) (G : Hp) (E : Ends) (a : Fl × Env) : Prop := match a.1 with
  | .nx => ∀ G' σ' H', Gr H0 G G' → StOk K H0 P oN G' a.2 σ' H' → E.nx σ' H'
  | .rt d => ∀ G' σ' H' v, Gr H0 G G' → StOk K H0 P tw G' a.2 σ' H' → Rp K G' v d → E.rt v H'
  | .bk => ∀ G' σ' H', Gr H0 G G' → StOk K H0 P oL G' a.2 σ' H' → E.bk σ' H'
  | .ct => ∀ G' σ' H', Gr H0 G G' → StOk K H0 P oL G' a.2 σ' H' → E.ct σ' H'
theorem Aft.gr {oN oL : List Nat} {H0 : Hp} {P : Par} {G G1 : Hp} {E : Ends} {a : Fl × Env} (h : Aft K tw oN oL H0 P G E a) (g : Gr H0 G G1) : Aft K tw oN oL H0 P G1 E a := by
  obtain ⟨f, e⟩ := a
  cases f with
  | nx => exact fun G' σ' H' g' => h G' σ' H' (g.trans g')
  | rt d => exact fun G' σ' H' v g' => h G' σ' H' v (g.trans g')
  | bk => exact fun G' σ' H' g' => h G' σ' H' (g.trans g')
  | ct => exact fun G' σ' H' g' => h G' σ' H' (g.trans g')
theorem EvS.of {own oN oL : List Nat} {t : TS} {f : Env → R (Fl × Env)} (h : ∀ (H0 : Hp) (P : Par) (G : Hp) (env : Env) (σ : L2.St) (H : Hp) (E : Ends), P.1.map (·.1) = tw → StOk K H0 P own G env σ H →
    Ans (f env) (Aft K tw oN oL H0 P G E) (fun c => ∀ (σ' : L2.St) (H' : Hp), σ'.length = P.2 → Frm H0 P H' → W (.ref (cl c)) none σ' H') → t E σ H) : EvS K tw own oN oL W cl t f := h
theorem EvS.run {own oN oL : List Nat} {t : TS} {f : Env → R (Fl × Env)} (h : EvS K tw own oN oL W cl t f) {H0 : Hp} {P : Par} {G : Hp} {env : Env} {σ : L2.St} {H : Hp} {E : Ends} (hp : P.1.map (·.1) = tw) (ok : StOk K H0 P own G env σ H)
    (a : Ans (f env) (Aft K tw oN oL H0 P G E) (fun c => ∀ (σ' : L2.St) (H' : Hp), σ'.length = P.2 → Frm H0 P H' → W (.ref (cl c)) none σ' H')) : t E σ H := h H0 P G env σ H E hp ok a

theorem EvS.for {sl : List Nat} {oL : List Nat} {wi : TI} {g : TG} {tb : TS} {fi : Env → R (List D × Env)} {b : D → Env → Option Env} {body : Env → R (Fl × Env)} (hi : EvIt K tw own W cl wi fi) (hg : EvG K own sl g b) (hb : EvS K tw own own own W cl tb body) :
    EvS K tw own own oL W cl (tFor wi g tb) (forS fi b body) := EvS.of fun H0 P G env σ H E hp ok ans => by
  refine hi H0 P G env σ H _ hp ok (ans.bind.mono (fun a ha' G1 H1 J g1 ok1 its => ?_) fun c h H' fr => h σ H' ok.ln fr)
  refine ⟨fun i m σ' H' => m = a.1.length - i ∧ i ≤ a.1.length ∧ ∃ G' env', Gr H0 G1 G' ∧ StOk K H0 P own G' env' σ' H' ∧ Ans (forL b body (a.1.drop i) env') (Aft K tw own oL H0 P G E) (fun c => ∀ (σ' : L2.St) (H' : Hp), σ'.length = P.2 → Frm H0 P H' → W (.ref (cl c)) none σ' H'),
    ⟨_, rfl, Nat.zero_le _, G1, a.2, Gr.refl, ok1, by rw [List.drop_zero]; exact ha'⟩, ?_⟩
  rintro i m σ2 H2 ⟨rfl, hle, G2, env2, g2, ok2, an⟩
  obtain ⟨hgo, hstop⟩ := its i G2 H2 g2.1 ok2.sub
  cases hd : a.1[i]? with
  | none =>
    have z : a.1.drop i = [] := List.drop_eq_nil_of_le (List.getElem?_eq_none_iff.mp hd)
    rw [z] at an
    exact .inl ⟨hstop hd, an G2 σ2 H2 (g1.trans g2) ok2⟩
  | some d =>
    have hlt := lt_of_get hd
    have z : a.1.drop i = d :: a.1.drop (i + 1) := by
      rw [List.drop_eq_getElem_cons hlt]
      congr 1
      exact Option.some.inj ((List.getElem?_eq_getElem hlt).symm.trans hd)
    rw [z] at an
    obtain ⟨go, yl⟩ := hgo d hd
    obtain ⟨e1, eb, an1⟩ := ans_lift an
    refine .inr ⟨go, fun σ' H' => i + 1 ≤ a.1.length ∧ ∃ G' env', Gr H0 G1 G' ∧ StOk K H0 P own G' env' σ' H' ∧ Ans (forL b body (a.1.drop (i + 1)) env') (Aft K tw own oL H0 P G E) (fun c => ∀ (σ' : L2.St) (H' : Hp), σ'.length = P.2 → Frm H0 P H' → W (.ref (cl c)) none σ' H'),
      fun σ' H' ⟨h1, h3⟩ => ⟨a.1.length - (i + 1), by omega, rfl, h1, h3⟩, fun x H3 y => ?_⟩
    obtain ⟨G3, gg, rx⟩ := yl x H3 y
    have ok3 := ok2.grow gg
    have g3 : Gr H0 G1 G3 := g2.trans (gg.gr ok2)
    refine hg H0 P G3 env2 σ2 H3 x d e1 _ ok3 rx eb fun σ4 ok4 l4 _ => ?_
    refine hb.run hp ok4 (an1.bind.mono (fun r hr => ?_) fun c h => h)
    obtain ⟨fl, e5⟩ := r
    cases fl with
    | nx => exact fun G5 σ5 H5 g5 ok5 => ⟨hlt, G5, e5, g3.trans g5, ok5, hr⟩
    | ct => exact fun G5 σ5 H5 g5 ok5 => ⟨hlt, G5, e5, g3.trans g5, ok5, hr⟩
    | bk => exact fun G5 σ5 H5 g5 ok5 => hr G5 σ5 H5 ((g1.trans g3).trans g5) ok5
    | rt d' => exact fun G5 σ5 H5 v g5 ok5 rv => hr G5 σ5 H5 v ((g1.trans g3).trans g5) ok5 rv
theorem EvS.while {oL : List Nat} {c : TT} {tb : TS} {fc : Env → R (Bool × Env)} {body : Env → R (Fl × Env)} (hc : EvT K tw own W cl c fc) (hb : EvS K tw own own own W cl tb body) : EvS K tw own own oL W cl (tWhile c tb) (whileS fc body) := EvS.of fun H0 P G env σ H E hp ok ans => by
  refine ⟨fun m σ' H' => ∃ G' env', Gr H0 G G' ∧ StOk K H0 P own G' env' σ' H' ∧ Ans (whileL fc body m env') (Aft K tw own oL H0 P G E) (fun c => ∀ (σ' : L2.St) (H' : Hp), σ'.length = P.2 → Frm H0 P H' → W (.ref (cl c)) none σ' H'), ⟨fuel, G, env, Gr.refl, ok, ans⟩, ?_⟩
  rintro m σ1 H1 ⟨G1, env1, g1, ok1, an⟩
  cases m with
  | zero => exact an.elim
  | succ m =>
    refine hc H0 P G1 env1 σ1 H1 _ hp ok1 ((show Ans ((fc env1).bind fun x => if x.1 = true then (body x.2).bind fun r => match r.1 with | .nx => whileL fc body m r.2 | .ct => whileL fc body m r.2 | .bk => .ok (.nx, r.2) | .rt d => .ok (.rt d, r.2) else .ok (.nx, x.2)) _ _ from an).bind.mono (fun a ha G2 H2 g2 ok2 => ?_) fun c h H' fr => h σ1 H' ok1.ln fr)
    obtain ⟨b, e2⟩ := a
    cases b with
    | true =>
      refine ⟨fun σ' H' => ∃ G' env', Gr H0 G G' ∧ StOk K H0 P own G' env' σ' H' ∧ Ans (whileL fc body m env') (Aft K tw own oL H0 P G E) (fun c => ∀ (σ' : L2.St) (H' : Hp), σ'.length = P.2 → Frm H0 P H' → W (.ref (cl c)) none σ' H'), fun σ' H' h => ⟨m, Nat.lt_succ_self _, h⟩, ?_⟩
      refine hb.run hp ok2 ((Ans.bind ha).mono (fun r hr => ?_) fun c h => h)
      have g12 := g1.trans g2
      obtain ⟨fl, e5⟩ := r
      cases fl with
      | nx => exact fun G5 σ5 H5 g5 ok5 => ⟨G5, e5, g12.trans g5, ok5, hr⟩
      | ct => exact fun G5 σ5 H5 g5 ok5 => ⟨G5, e5, g12.trans g5, ok5, hr⟩
      | bk => exact fun G5 σ5 H5 g5 ok5 => hr G5 σ5 H5 (g12.trans g5) ok5
      | rt d' => exact fun G5 σ5 H5 v g5 ok5 rv => hr G5 σ5 H5 v (g12.trans g5) ok5 rv
    | false => exact ha G2 σ1 H2 (g1.trans g2) ok2
end

/-! ### blocks and small statements -/
def seqS (f g : Env → R (Fl × Env)) : Env → R (Fl × Env) := fun e => (f e).bind fun r => match r.1 with
  | .nx => g r.2
  | _ => .ok r
def nextS : Env → R (Fl × Env) := fun e => .ok (.nx, e)
def setS (i : Nat) (a : Env → R (D × Env)) : Env → R (Fl × Env) := fun e => (a e).bind fun x => .ok (.nx, x.2.set i (some x.1))
def setO (i : Nat) (a : Env → R (D × Env)) : Env → R (Fl × Env) := fun e => (a e).bind fun x => if i < x.2.length then .ok (.nx, x.2.set i (some x.1)) else .bad
def asgS (b : D → Env → Option Env) (a : Env → R (D × Env)) : Env → R (Fl × Env) := fun e => (a e).bind fun x => (lift (b x.1 x.2)).bind fun e' => .ok (.nx, e')
def exprS (a : Env → R (D × Env)) : Env → R (Fl × Env) := fun e => (a e).bind fun x => .ok (.nx, x.2)
def retS (a : Env → R (D × Env)) : Env → R (Fl × Env) := fun e => (a e).bind fun x => .ok (.rt x.1, x.2)
def retN : Env → R (Fl × Env) := fun e => .ok (.rt .none, e)
def ifS (c : Env → R (Bool × Env)) (f g : Env → R (Fl × Env)) : Env → R (Fl × Env) := fun e => (c e).bind fun x => if x.1 = true then f x.2 else g x.2
def raiseS (k : Nat) : Env → R (Fl × Env) := fun _ => .err k
def EvN (K : PySem.W.Frag) (tw : List Nat) (own : List Nat) (W : WX) (cl : Nat → Addr) (t : TE) (f : Env → R (D × Env)) : Prop :=
  ∀ (H0 : Hp) (P : Par) (G : Hp) (env : Env) (σ : L2.St) (H : Hp) (Q : VK), P.1.map (·.1) = tw → StOk K H0 P own G env σ H →
    Ans (f env) (fun a => ∀ G' H1 p o, Gr H0 G G' → StOk K H0 P own G' a.2 σ H1 → H1 p = none → Cell K G' (upd H1 p o) p a.1 → Q (.ref p) (upd H1 p o)) (fun c => ∀ H', Frm H0 P H' → W (.ref (cl c)) none σ H') → t σ H Q
structure DN (X : Cx) (tw : List Nat) (own : List Nat) (W : WX) (cl : Nat → Addr) (e : Expr) (t : TE) (f : Env → R (D × Env)) : Prop where
  pe : PE X e t
  ev : EvN X.K tw own W cl t f

section
variable {K : PySem.W.Frag} {tw : List Nat} {own own' oN oL : List Nat} {W : WX} {cl : Nat → Addr} {t u : TS} {f g : Env → R (Fl × Env)} {te : TE} {fe : Env → R (D × Env)}
theorem EvS.seq {oM : List Nat} (h1 : EvS K tw own oM oL W cl t f) (h2 : EvS K tw oM oN oL W cl u g) : EvS K tw own oN oL W cl (tSeq t u) (seqS f g) := EvS.of fun H0 P G env σ H E hp ok ans => by
  refine h1.run hp ok (ans.bind.mono (fun r hr => ?_) fun c h => h)
  obtain ⟨fl, e⟩ := r
  cases fl with
  | nx => exact fun G' σ' H' g' ok' => h2.run hp ok' (Ans.mono hr (fun a h => h.gr g') fun c h => h)
  | rt d => exact hr
  | bk => exact hr
  | ct => exact hr
theorem EvS.next : EvS K tw own own oL W cl tNext nextS := EvS.of fun H0 P G env σ H E hp ok ans => ans G σ H Gr.refl ok
theorem EvS.set {i : Nat} (hi : i ∉ own) (h : EvI K tw own W cl te fe) : EvS K tw own own oL W cl (tAsg te (gName i)) (setS i fe) := EvS.of fun H0 P G env σ H E hp ok ans => by
  refine h H0 P G env σ H _ hp ok (ans.bind.mono (fun a ha G1 H1 x g1 ok1 rx => ?_) fun c h H' fr => h σ H' ok.ln fr)
  exact ha G1 _ H1 g1 (ok1.set rx hi)
theorem par_ne {P : Par} {i : Nat} (hp : P.1.map (·.1) = tw) (ht : i ∉ tw) : i ∉ P.1.map (·.1) := by rw [hp]; exact ht
theorem EvS.setO {i : Nat} (ht : i ∉ tw) (h : EvN K tw own W cl te fe) : EvS K tw own (i :: own) oL W cl (tAsg te (gName i)) (setO i fe) := EvS.of fun H0 P G env σ H E hp ok ans => by
  refine h H0 P G env σ H _ hp ok (ans.bind.mono (fun a ha G1 H1 p o g1 ok1 np c => ?_) fun c h H' fr => h σ H' ok.ln fr)
  by_cases hl : i < a.2.length
  · rw [if_pos hl] at ha
    exact ha G1 _ _ g1 (ok1.give np c (Same.new np) (par_ne hp ht) hl)
  · rw [if_neg hl] at ha
    exact ha.elim
theorem EvS.asg {sl : List Nat} {gt : TG} {b : D → Env → Option Env} (h : EvI K tw own W cl te fe) (hg : EvG K own sl gt b) : EvS K tw own own oL W cl (tAsg te gt) (asgS b fe) := EvS.of fun H0 P G env σ H E hp ok ans => by
  refine h H0 P G env σ H _ hp ok (ans.bind.mono (fun a ha G1 H1 x g1 ok1 rx => ?_) fun c h H' fr => h σ H' ok.ln fr)
  obtain ⟨e', eb, q⟩ := ans_lift ha
  exact hg H0 P G1 a.2 σ H1 x a.1 e' _ ok1 rx eb fun σ' ok' _ _ => q G1 σ' H1 g1 ok'
theorem EvS.drop (h : EvI K tw own W cl te fe) : EvS K tw own own oL W cl (tDrop te) (exprS fe) := EvS.of fun H0 P G env σ H E hp ok ans => by
  refine h H0 P G env σ H _ hp ok (ans.bind.mono (fun a ha G1 H1 x g1 ok1 rx => ?_) fun c h H' fr => h σ H' ok.ln fr)
  exact ha G1 σ H1 g1 ok1
theorem StOk.freezeAll {H0 : Hp} {P : Par} {H : Hp} {env : Env} {σ : L2.St} (hp : P.1.map (·.1) = tw) : ∀ (n : Nat) (own : List Nat) (G : Hp), own.length ≤ n → StOk K H0 P own G env σ H → ∃ G', Gr H0 G G' ∧ StOk K H0 P tw G' env σ H := by
  intro n
  induction n with
  | zero =>
    intro own G hl s
    have : own = [] := List.length_eq_zero_iff.mp (by omega)
    subst this
    have ht : tw = [] := by
      cases h : P.1 with
      | nil => rw [← hp, h]; rfl
      | cons q l => exact absurd (s.par q (by rw [h]; exact List.mem_cons_self)).1 (by simp)
    subst ht
    exact ⟨G, Gr.refl, s⟩
  | succ n ih =>
    intro own G hl s
    by_cases h : ∃ i ∈ own, i ∉ tw
    · obtain ⟨i, hi, ht⟩ := h
      obtain ⟨G1, g1, s1⟩ := s.freeze (i := i) (par_ne hp ht)
      obtain ⟨G2, g2, s2⟩ := ih _ G1 (by
        have h1 : (own.filter (· != i)).length < own.length := by
          have h2 := List.length_filter_lt_length_iff_exists (p := (· != i)) (l := own)
          exact h2.mpr ⟨i, hi, by simp⟩
        omega) s1
      exact ⟨G2, g1.trans g2, s2⟩
    · refine ⟨G, Gr.refl, s.congr fun i => ⟨fun hi => ?_, fun hi => ?_⟩⟩
      · by_cases z : i ∈ tw
        · exact z
        · exact absurd ⟨i, hi, z⟩ h
      · rw [← hp] at hi
        obtain ⟨q, hq, e⟩ := List.mem_map.mp hi
        rw [← e]
        exact (s.par q hq).1
theorem EvS.ret (h : EvI K tw tw W cl te fe) : EvS K tw own oN oL W cl (tRet te) (retS fe) := EvS.of fun H0 P G env σ H E hp ok ans => by
  obtain ⟨G0, g0, ok0⟩ := StOk.freezeAll hp own.length own G (Nat.le_refl _) ok
  refine h H0 P G0 env σ H _ hp ok0 (ans.bind.mono (fun a ha G1 H1 x g1 ok1 rx => ?_) fun c h H' fr => h σ H' ok.ln fr)
  exact ha G1 σ H1 x (g0.trans g1) ok1 rx
theorem EvS.retN : EvS K tw own oN oL W cl tRetN retN := EvS.of fun H0 P G env σ H E hp ok ans => by
  obtain ⟨G0, g0, ok0⟩ := StOk.freezeAll hp own.length own G (Nat.le_refl _) ok
  exact ans G0 σ H .non g0 ok0 .non
theorem EvS.ite {c : TT} {fc : Env → R (Bool × Env)} (hc : EvT K tw own W cl c fc) (h1 : EvS K tw own oN oL W cl t f) (h2 : EvS K tw own oN oL W cl u g) : EvS K tw own oN oL W cl (tIfS c t u) (ifS fc f g) := EvS.of fun H0 P G env σ H E hp ok ans => by
  refine hc H0 P G env σ H _ hp ok (ans.bind.mono (fun a ha G1 H1 g1 ok1 => ?_) fun c h H' fr => h σ H' ok.ln fr)
  obtain ⟨b, e⟩ := a
  cases b with
  | true => exact h1.run hp ok1 (Ans.mono ha (fun a h => h.gr g1) fun c h => h)
  | false => exact h2.run hp ok1 (Ans.mono ha (fun a h => h.gr g1) fun c h => h)
theorem EvS.frz {i : Nat} (ht : i ∉ tw) (h : EvS K tw (own.filter (· != i)) oN oL W cl t f) : EvS K tw own oN oL W cl t f := EvS.of fun H0 P G env σ H E hp ok ans => by
  obtain ⟨G1, g1, ok1⟩ := ok.freeze (i := i) (par_ne hp ht)
  exact h.run hp ok1 (ans.mono (fun a h => h.gr g1) fun c h => h)
theorem EvN.toI (h : EvN K tw own W cl te fe) : EvI K tw own W cl te fe := fun H0 P G env σ H Q hp ok ans => by
  refine h H0 P G env σ H Q hp ok (ans.mono (fun a ha G1 H1 p o g1 ok1 np c => ?_) fun c h => h)
  have gg : Grow G1 H1 (upd G1 p o) (upd H1 p o) := Grow.lay ok1.sub np
  refine ha _ _ _ (g1.trans (gg.gr ok1)) (ok1.grow gg) ?_
  obtain ⟨cg, c⟩ := c
  rcases c with ⟨vs, ds, e, e2, r⟩ | ⟨vs, ds, e, e2, r⟩ | ⟨vs, ds, e, e2, r⟩
  · rw [upd_same] at e2
    cases e2
    rw [e]
    exact .lst upd_same (r.mono gg.gg)
  · rw [upd_same] at e2
    cases e2
    rw [e]
    exact .dic (.inl upd_same) (r.mono gg.gg)
  · rw [upd_same] at e2
    cases e2
    rw [e]
    exact .dit upd_same (r.mono gg.gg)
theorem EvN.lst {tA : TA} {fA : Env → R (List D × Env)} (ha : EvA K tw own W cl tA fA) (hl : ∀ env r, fA env = .ok r → r.1.length ≤ 1000) : EvN K tw own W cl (tLst tA) (lstD fA) := fun H0 P G env σ H Q hp ok ans => by
  refine ha H0 P G env σ H _ hp ok (ans.bind.monoE (fun a e ha' G1 H1 vs g1 ok1 rx => ?_) fun _ h => h)
  refine ⟨by rw [rx.length]; exact sz100 (Nat.le_trans (hl env a e) (by decide)), fun p np => ?_⟩
  exact ha' G1 H1 p _ g1 ok1 np ⟨ok1.sub.free np, .inl ⟨vs, a.1, rfl, upd_same, rx⟩⟩
theorem EvN.dK : EvN K tw own W cl tDNewK (cD (.dict [])) := fun H0 P G env σ H Q hp ok ans p np => ans G H p _ Gr.refl ok np ⟨ok.sub.free np, .inr (.inl ⟨[], [], rfl, upd_same, .nil⟩)⟩
theorem EvN.dT : EvN K tw own W cl tDNewT (cD (.dict [(.bool true, .none)])) := fun H0 P G env σ H Q hp ok ans p np => ans G H p _ Gr.refl ok np ⟨ok.sub.free np, .inr (.inr ⟨[], [], rfl, upd_same, .nil⟩)⟩
end
end Hz

namespace Hz
open PySem PySem.Spec PyProof.Rows L2

/-! ### comprehensions -/
def wipeE (e : Env) : List Nat → Env
  | [] => e
  | v :: vs => (wipeE e vs).set v none
def restE (e0 : Env) : List Nat → Env → Env
  | [], e => e
  | v :: vs, e => (restE e0 vs e).set v (e0.getD v none)
def R.ne {α : Type} : R α → R α
  | .ok a => .ok a
  | _ => .bad
def compL (vs : List Nat) (b : D → Env → Option Env) (c : Env → R (Bool × Env)) (el : Env → R (D × Env)) : List D → Env → R (List D × Env)
  | [], e => .ok ([], e)
  | d :: ds, e => (lift (b d e)).bind fun e1 => (c e1).ne.bind fun x => if x.1 = true then (el x.2).ne.bind fun y => (compL vs b c el ds (wipeE y.2 vs)).bind fun r => .ok (y.1 :: r.1, r.2) else compL vs b c el ds (wipeE x.2 vs)
def compD (fi : Env → R (List D × Env)) (vs : List Nat) (b : D → Env → Option Env) (c : Env → R (Bool × Env)) (el : Env → R (D × Env)) : Env → R (D × Env) := fun e =>
  (fi e).bind fun x => if x.1.length ≤ 1000000 then (compL vs b c el x.1 (wipeE x.2 vs)).ne.bind fun r => .ok (.list r.1, restE x.2 vs r.2) else .bad
def yesT : Env → R (Bool × Env) := fun e => .ok (true, e)

theorem wipeE_length (e : Env) : ∀ vs : List Nat, (wipeE e vs).length = e.length
  | [] => rfl
  | v :: vs => by unfold wipeE; rw [List.length_set, wipeE_length e vs]
theorem wipeE_get {e : Env} {i : Nat} : ∀ {vs : List Nat}, i ∉ vs → (wipeE e vs)[i]? = e[i]?
  | [], _ => rfl
  | v :: vs, h => by
    unfold wipeE
    rw [List.getElem?_set_ne fun z => h (by simp [z]), wipeE_get fun z => h (List.mem_cons_of_mem _ z)]
theorem wipeE_some {e : Env} {i : Nat} {d : D} : ∀ {vs : List Nat}, (wipeE e vs)[i]? = some (some d) → i ∉ vs ∧ e[i]? = some (some d)
  | [], h => ⟨by simp, h⟩
  | v :: vs, h => by
    unfold wipeE at h
    rcases mem_set h with ⟨_, z⟩ | ⟨z, h⟩
    · cases z
    · obtain ⟨h1, h2⟩ := wipeE_some h
      exact ⟨by simp only [List.mem_cons, not_or]; exact ⟨z, h1⟩, h2⟩
theorem restE_length (e0 : Env) : ∀ (vs : List Nat) (e : Env), (restE e0 vs e).length = e.length
  | [], _ => rfl
  | v :: vs, e => by unfold restE; rw [List.length_set, restE_length e0 vs e]
theorem restE_out {e0 : Env} {i : Nat} : ∀ {vs : List Nat} {e : Env}, i ∉ vs → (restE e0 vs e)[i]? = e[i]?
  | [], _, _ => rfl
  | v :: vs, e, h => by
    unfold restE
    rw [List.getElem?_set_ne fun z => h (by simp [z]), restE_out fun z => h (List.mem_cons_of_mem _ z)]
theorem restE_in {e0 : Env} {i : Nat} {d : D} : ∀ {vs : List Nat} {e : Env}, i ∈ vs → (restE e0 vs e)[i]? = some (some d) → e0[i]? = some (some d)
  | [], _, h, _ => by simp at h
  | v :: vs, e, h, q => by
    unfold restE at q
    rcases mem_set q with ⟨z, y⟩ | ⟨z, y⟩
    · subst z
      rw [List.getD_eq_getElem?_getD] at y
      cases hh : e0[i]? with
      | none => rw [hh] at y; cases y
      | some o => rw [hh] at y; rw [show o = some d from y.symm]
    · rcases List.mem_cons.mp h with h | h
      · exact absurd h z
      · exact restE_in h y
theorem wipe_get {σ : L2.St} {i : Nat} : ∀ {vs : List Nat}, i ∉ vs → (wipe σ vs)[i]? = σ[i]?
  | [], _ => rfl
  | v :: vs, h => by
    unfold wipe
    rw [List.getElem?_set_ne fun z => h (by simp [z]), wipe_get fun z => h (List.mem_cons_of_mem _ z)]
theorem wipe_in {σ : L2.St} {i : Nat} : ∀ {vs : List Nat}, i ∈ vs → i < σ.length → (wipe σ vs)[i]? = some none
  | [], h, _ => by simp at h
  | v :: vs, h, hl => by
    unfold wipe
    by_cases z : v = i
    · subst z
      rw [List.getElem?_set_self (by rw [wipe_length]; exact hl)]
    · rw [List.getElem?_set_ne z]
      exact wipe_in ((List.mem_cons.mp h).resolve_left fun y => z y.symm) hl
theorem wipe_eq {σ σ' : L2.St} {vs : List Nat} (hl : σ'.length = σ.length) (h : ∀ j, j ∉ vs → σ'[j]? = σ[j]?) : wipe σ' vs = wipe σ vs := by
  apply List.ext_getElem?
  intro i
  by_cases hi : i ∈ vs
  · by_cases z : i < σ.length
    · rw [wipe_in hi z, wipe_in hi (by rw [hl]; exact z)]
    · rw [List.getElem?_eq_none (by rw [wipe_length]; omega), List.getElem?_eq_none (by rw [wipe_length]; omega)]
  · rw [wipe_get hi, wipe_get hi, h i hi]
theorem wipe_wipe (σ : L2.St) (vs : List Nat) : wipe (wipe σ vs) vs = wipe σ vs := wipe_eq (wipe_length σ vs) fun j hj => wipe_get hj

section
variable {K : PySem.W.Frag} {H0 : Hp} {P : Par} {own : List Nat} {G H : Hp} {env : Env} {σ : L2.St} {vs : List Nat} {p : Addr} {o : HO}
theorem StOk.wipe (s : StOk K H0 P own G env σ H) (hv : ∀ i ∈ vs, i ∉ own) : StOk K H0 P own G (wipeE env vs) (L2.wipe σ vs) H := by
  have ho : ∀ i ∈ own, i ∉ vs := fun i h1 h2 => hv i h2 h1
  refine ⟨s.sub, s.fr, s.dom, by rw [wipeE_length, wipe_length]; exact s.len, fun i d e n => ?_, ?_, fun q hq => ?_, s.isd, by rw [wipe_length]; exact s.ln⟩
  · obtain ⟨h1, h2⟩ := wipeE_some e
    obtain ⟨v, h3, h4⟩ := s.val i d h2 n
    exact ⟨v, by rw [wipe_get h1]; exact h3, h4⟩
  · obtain ⟨f, h1, h2⟩ := s.cel
    refine ⟨f, fun i hi => ?_, h2⟩
    obtain ⟨q, d, e1, e2, c⟩ := h1 i hi
    exact ⟨q, d, by rw [wipeE_get (ho i hi)]; exact e1, by rw [wipe_get (ho i hi)]; exact e2, c⟩
  · obtain ⟨h1, h2⟩ := s.par q hq
    exact ⟨h1, by rw [wipe_get (ho _ h1)]; exact h2⟩
theorem StOk.unwipe {env1 : Env} {G1 H1 : Hp} {H00 : Hp} (s0 : StOk K H00 P own G env σ H) (gg : Same G G1) (s : StOk K H0 P own G1 env1 (L2.wipe σ vs) H1) (hv : ∀ i ∈ vs, i ∉ own) : StOk K H0 P own G1 (restE env vs env1) σ H1 := by
  have ho : ∀ i ∈ own, i ∉ vs := fun i h1 h2 => hv i h2 h1
  refine ⟨s.sub, s.fr, s.dom, by rw [restE_length, s.len, wipe_length], fun i d e n => ?_, ?_, fun q hq => ?_, s.isd, by rw [← wipe_length σ vs]; exact s.ln⟩
  · by_cases hi : i ∈ vs
    · obtain ⟨v, h3, h4⟩ := s0.val i d (restE_in hi e) n
      exact ⟨v, h3, h4.mono gg⟩
    · rw [restE_out hi] at e
      obtain ⟨v, h3, h4⟩ := s.val i d e n
      exact ⟨v, by rw [← wipe_get hi]; exact h3, h4⟩
  · obtain ⟨f, h1, h2⟩ := s.cel
    refine ⟨f, fun i hi => ?_, h2⟩
    obtain ⟨q, d, e1, e2, c⟩ := h1 i hi
    exact ⟨q, d, by rw [restE_out (ho i hi)]; exact e1, by rw [← wipe_get (ho i hi)]; exact e2, c⟩
  · obtain ⟨h1, h2⟩ := s.par q hq
    exact ⟨h1, by rw [← wipe_get (ho _ h1)]; exact h2⟩
end
def WF : WX := fun _ _ _ _ => False
theorem ans_ne {α β : Type} {r : R α} {k : α → R β} {f : β → Prop} {e : Nat → Prop} {e' : Nat → Prop} (h : Ans (r.ne.bind k) f e) : Ans r (fun a => Ans (k a) f e) e' := by
  cases r with
  | ok a => exact h
  | err c => exact h.elim
  | bad => exact h.elim
section
variable {K : PySem.W.Frag} {tw : List Nat} {own sl vs : List Nat} {W : WX} {cl : Nat → Addr}
theorem comp_core {g : TG} {tt : TT} {te : TE} {b : D → Env → Option Env} {c : Env → R (Bool × Env)} {el : Env → R (D × Env)} (hg : EvG K own sl g b) (ht : EvT K tw own WF cl tt c) (he : EvI K tw own WF cl te el)
    (hsl : ∀ i ∈ sl, i ∈ vs) (hv : ∀ i ∈ vs, i ∉ own) {H0 : Hp} {P : Par} {G1 H1 : Hp} {σ : L2.St} {a : List D × Env} {J : It} {Q : VK} {er : Nat → Prop} (hp : P.1.map (·.1) = tw) (ok1 : StOk K H0 P own G1 a.2 σ H1) (its : Items K G1 J a.1)
    (ha : Ans (if a.1.length ≤ 1000000 then (compL vs b c el a.1 (wipeE a.2 vs)).ne.bind fun r => R.ok (PyData.list r.1, restE a.2 vs r.2) else .bad) (fun a => ∀ G' H' p o, Gr H0 G1 G' → StOk K H0 P own G' a.2 σ H' → H' p = none → Cell K G' (upd H' p o) p a.1 → Q (.ref p) (upd H' p o)) er) :
    ∀ D, H1 D = none → ∃ W : Nat → Nat → Hp → Prop, (∃ m, W 0 m (upd H1 D (.lst []))) ∧ ∀ i m H, W i m H →
      (J.stop i H ∧ Q (.ref D) H) ∨ (J.go i H ∧ ∃ Nx : Hp → Prop, (∀ H', Nx H' → ∃ m', m' < m ∧ W (i + 1) m' H') ∧ ∀ x H', J.yld i H x H' → g x (wipe σ vs) H' fun σ2 H2 => wipe σ2 vs = wipe σ vs ∧ tt σ2 H2 fun b H3 =>
        if b = true then te σ2 H3 fun y H4 => ∃ acc, H4 D = some (.lst acc) ∧ acc.length < sizeLine ∧ Nx (upd H4 D (.lst (acc ++ [y]))) else Nx H3) := by
  by_cases hlen' : ¬ a.1.length ≤ 1000000
  · rw [if_neg hlen'] at ha
    exact ha.elim
  have hlen : a.1.length ≤ 1000000 := Decidable.not_not.mp hlen'
  rw [if_pos hlen] at ha
  intro Dl hD
  have h0 : H0 Dl = none := ok1.h0 hD
  have nP : ¬ P.is Dl := ok1.noP h0
  have gD : G1 Dl = none := ok1.sub.free hD
  have ntl : ∀ xs, NT (.lst xs) := fun xs ys z => by cases z
  have okS : StOk K (upd H0 Dl (.lst [])) P own G1 (wipeE a.2 vs) (wipe σ vs) (upd H1 Dl (.lst [])) := (ok1.wipe hv).lay hD
  have grL : ∀ {l : List V} {G' G'' : Hp}, Gr (upd H0 Dl (.lst l)) G' G'' → Gr H0 G' G'' := fun {l G' G''} gr => ⟨gr.1, fun b' o' h' n' => gr.2 b' o' (by rw [upd_ne (ne_of_none h' h0)]; exact h') n'⟩
  refine ⟨fun i m H' => m = a.1.length - i ∧ i ≤ a.1.length ∧ ∃ G' env' accV accD, Gr H0 G1 G' ∧ StOk K (upd H0 Dl (.lst accV)) P own G' env' (wipe σ vs) H' ∧ G' Dl = none ∧ RpA K G' accV accD ∧ accD.length ≤ i ∧
      Ans (compL vs b c el (a.1.drop i) env') (fun r => ∀ G2 H2 p o, Gr H0 G1 G2 → StOk K H0 P own G2 (restE a.2 vs r.2) σ H2 → H2 p = none → Cell K G2 (upd H2 p o) p (.list (accD ++ r.1)) → Q (.ref p) (upd H2 p o)) (fun _ => False),
    ⟨_, rfl, Nat.zero_le _, G1, wipeE a.2 vs, [], [], Gr.refl, okS, gD, .nil, Nat.le_refl _, ?_⟩, ?_⟩
  · rw [List.drop_zero]
    exact ans_ne ha
  · rintro i m H2 ⟨rfl, hle, G2, env2, accV, accD, g2, ok2, gD2, racc, hacc, an⟩
    have hDl : H2 Dl = some (.lst accV) := ok2.fr Dl _ upd_same nP
    obtain ⟨hgo, hstop⟩ := its i G2 H2 g2.1 ok2.sub
    cases hd : a.1[i]? with
    | none =>
      have z : a.1.drop i = [] := List.drop_eq_nil_of_le (List.getElem?_eq_none_iff.mp hd)
      rw [z] at an
      refine .inl ⟨hstop hd, ?_⟩
      have q := an G2 (del H2 Dl) Dl (.lst accV) g2 ((ok1.unwipe g2.1 ok2 hv).del gD2 h0 nP) del_same (by
        rw [upd_del hDl, List.append_nil]
        exact ⟨gD2, .inl ⟨accV, accD, rfl, hDl, racc⟩⟩)
      rw [upd_del hDl] at q
      exact q
    | some d =>
      have hlt := lt_of_get hd
      have z : a.1.drop i = d :: a.1.drop (i + 1) := by
        rw [List.drop_eq_getElem_cons hlt]
        congr 1
        exact Option.some.inj ((List.getElem?_eq_getElem hlt).symm.trans hd)
      rw [z] at an
      obtain ⟨go, yl⟩ := hgo d hd
      obtain ⟨e1, eb, an1⟩ := ans_lift an
      refine .inr ⟨go, fun H' => i + 1 ≤ a.1.length ∧ ∃ G' env' accV accD, Gr H0 G1 G' ∧ StOk K (upd H0 Dl (.lst accV)) P own G' env' (wipe σ vs) H' ∧ G' Dl = none ∧ RpA K G' accV accD ∧ accD.length ≤ i + 1 ∧
          Ans (compL vs b c el (a.1.drop (i + 1)) env') (fun r => ∀ G2 H2 p o, Gr H0 G1 G2 → StOk K H0 P own G2 (restE a.2 vs r.2) σ H2 → H2 p = none → Cell K G2 (upd H2 p o) p (.list (accD ++ r.1)) → Q (.ref p) (upd H2 p o)) (fun _ => False),
        fun H' ⟨h1, h3⟩ => ⟨a.1.length - (i + 1), by omega, rfl, h1, h3⟩, fun x H3 y => ?_⟩
      obtain ⟨G3, gg, rx⟩ := yl x H3 y
      have ok3 := ok2.grow gg
      have g3 : Gr (upd H0 Dl (.lst accV)) G2 G3 := gg.gr ok2
      refine hg _ P G3 env2 (wipe σ vs) H3 x d e1 _ ok3 rx eb fun σ4 ok4 l4 s4 => ?_
      have w4 : wipe σ4 vs = wipe σ vs := by
        rw [← wipe_wipe σ vs]
        exact wipe_eq l4 fun j hj => s4 j fun q => hj (hsl j q)
      refine ⟨w4, ht _ P G3 e1 σ4 H3 _ hp ok4 ((ans_ne an1).mono (fun bb hb G5 H5 g5 ok5 => ?_) fun _ h => h)⟩
      -- the list so far stands, whatever the test and the element did
      have keep : ∀ {G' H' : Hp} {e' : Env}, Gr (upd H0 Dl (.lst accV)) G2 G' → StOk K (upd H0 Dl (.lst accV)) P own G' e' σ4 H' → Gr H0 G1 G' ∧ StOk K (upd H0 Dl (.lst accV)) P own G' (wipeE e' vs) (wipe σ vs) H' ∧ H' Dl = some (.lst accV) ∧ G' Dl = none := fun {G' H' e'} gr ok' => by
        refine ⟨g2.trans (grL gr), ?_, ok'.fr Dl _ upd_same nP, (gr.2 Dl _ upd_same (ntl _)).trans gD2⟩
        have q := ok'.wipe hv
        rw [w4] at q
        exact q
      obtain ⟨bv, e5⟩ := bb
      have g25 := g3.trans g5
      cases bv with
      | true =>
        refine he _ P G5 e5 σ4 H5 _ hp ok5 ((ans_ne hb).mono (fun yy hy G6 H6 v g6 ok6 rv => ?_) fun _ h => h)
        obtain ⟨k1, k2, k3, k4⟩ := keep (g25.trans g6) ok6
        refine ⟨accV, k3, sz100l (by rw [racc.length]; omega), hlt, G6, wipeE yy.2 vs, accV ++ [v], accD ++ [yy.1], k1, k2.side k4 nP (ntl _), k4, (racc.mono (g25.trans g6).1).append (.cons rv .nil), by rw [List.length_append]; simpa using hacc, ?_⟩
        refine (Ans.bind hy).mono (fun r hr => ?_) fun _ h => h
        rw [List.append_assoc]
        exact hr
      | false =>
        obtain ⟨k1, k2, k3, k4⟩ := keep g25 ok5
        exact ⟨hlt, G5, wipeE e5 vs, accV, accD, k1, k2, k4, racc.mono g25.1, by omega, hb⟩
theorem EvN.comp {wi : TI} {g : TG} {tt : TT} {te : TE} {fi : Env → R (List D × Env)} {b : D → Env → Option Env} {c : Env → R (Bool × Env)} {el : Env → R (D × Env)} (hi : EvIt K tw own W cl wi fi) (hg : EvG K own sl g b) (ht : EvT K tw own WF cl tt c) (he : EvI K tw own WF cl te el)
    (hsl : ∀ i ∈ sl, i ∈ vs) (hv : ∀ i ∈ vs, i ∉ own) : EvN K tw own W cl (tLc wi g tt te vs) (compD fi vs b c el) := fun H0 P G env σ H Q hp ok ans => by
  refine hi H0 P G env σ H _ hp ok (ans.bind.mono (fun a ha G1 H1 J g1 ok1 its => ?_) fun _ h => h)
  exact comp_core hg ht he hsl hv hp ok1 its (ha.mono (fun r hr G' H' p o gr => hr G' H' p o (g1.trans gr)) fun _ h => h)
end
end Hz

namespace Hz
open RZ (ItzT iZipA pi_zipA)
open PySem PySem.Spec PyProof.Rows L2

/-! ### what is walked: lists, tuples, texts; ranges; pairs -/
theorem pi_or {X : Cx} {tg iter : Expr} {w1 w2 : TI} (h1 : PI X tg iter w1) (h2 : PI X tg iter w2) : PI X tg iter (fun σ H R => w1 σ H R ∨ w2 σ H R) := ⟨fun pins s σ H R I h => h.elim (h1.run pins s σ H R I) (h2.run pins s σ H R I)⟩
def signsOf (x : Str) : List D := x.cps.toList.map fun c => .str ⟨#[c]⟩
def itemsOf : D → Option (List D)
  | .list ds => some ds
  | .tuple ds => some ds
  | .str x => some (signsOf x)
  | _ => none
def seqI (a : Env → R (D × Env)) : Env → R (List D × Env) := fun e => (a e).bind fun x => (lift (itemsOf x.1)).bind fun ds => .ok (ds, x.2)
def rangeL (a b : Int) : List D := (List.range (b - a).toNat).map fun i => .int (a + (i : Nat))
def rng1 : List D → Option (List D)
  | [.int n] => if n ≤ 1000000 ∧ -1000000 ≤ n then some (rangeL 0 n) else none
  | _ => none
def rng2 : List D → Option (List D)
  | [.int m, .int n] => if n ≤ 1000000 ∧ -1000000 ≤ n ∧ m ≤ 1000000 ∧ -1000000 ≤ m then some (rangeL m n) else none
  | _ => none
def zip2 : List D → Option (List D)
  | [.list xs, .list ys] => if ((xs.zip ys).all fun p => !needN [p.1, p.2]) = true then some ((xs.zip ys).map fun p => .tuple [p.1, p.2]) else none
  | [.tuple xs, .tuple ys] => if ((xs.zip ys).all fun p => !needN [p.1, p.2]) = true then some ((xs.zip ys).map fun p => .tuple [p.1, p.2]) else none
  | _ => none
def enumL (xs : List D) : List D := xs.zipIdx.map fun p => .tuple [.int (p.2 : Nat), p.1]
def argI (g : List D → Option (List D)) (a : Env → R (List D × Env)) : Env → R (List D × Env) := fun e => (a e).bind fun x => (lift (g x.1)).bind fun ds => .ok (ds, x.2)

theorem rng1_inv {l ds : List D} (h : rng1 l = some ds) : ∃ n, l = [.int n] ∧ (n ≤ 1000000 ∧ -1000000 ≤ n) ∧ ds = rangeL 0 n := by
  unfold rng1 at h
  split at h
  · split at h
    · cases h
      exact ⟨_, rfl, by assumption, rfl⟩
    · cases h
  · cases h
theorem rng2_inv {l ds : List D} (h : rng2 l = some ds) : ∃ m n, l = [.int m, .int n] ∧ (n ≤ 1000000 ∧ -1000000 ≤ n ∧ m ≤ 1000000 ∧ -1000000 ≤ m) ∧ ds = rangeL m n := by
  unfold rng2 at h
  split at h
  · split at h
    · cases h
      exact ⟨_, _, rfl, by assumption, rfl⟩
    · cases h
  · cases h
theorem zip2_inv {l ds : List D} (h : zip2 l = some ds) : ∃ xs ys, (l = [.list xs, .list ys] ∨ l = [.tuple xs, .tuple ys]) ∧ (ds = (xs.zip ys).map fun p => .tuple [p.1, p.2]) ∧ ((xs.zip ys).all fun p => !needN [p.1, p.2]) = true := by
  unfold zip2 at h
  split at h
  · split at h
    · cases h
      exact ⟨_, _, .inl rfl, rfl, by assumption⟩
    · cases h
  · split at h
    · cases h
      exact ⟨_, _, .inr rfl, rfl, by assumption⟩
    · cases h
  · cases h
section
variable {K : PySem.W.Frag} {tw : List Nat} {own : List Nat} {W : WX} {cl : Nat → Addr} {te : TE} {fe : Env → R (D × Env)} {ta : TA} {fa : Env → R (List D × Env)}
theorem rp1 {G : Hp} {vs : List V} {d : D} (h : RpA K G vs [d]) : ∃ v, vs = [v] ∧ Rp K G v d := by
  cases h with
  | cons r rr =>
    cases rr
    exact ⟨_, rfl, r⟩
theorem rp2 {G : Hp} {vs : List V} {d e : D} (h : RpA K G vs [d, e]) : ∃ v w, vs = [v, w] ∧ Rp K G v d ∧ Rp K G w e := by
  cases h with
  | cons r rr =>
    obtain ⟨w, rfl, r'⟩ := rp1 rr
    exact ⟨_, _, rfl, r, r'⟩
theorem items_list {G0 : Hp} {a : Addr} {xs : List V} {ds : List D} (h : G0 a = some (.lst xs)) (r : RpA K G0 xs ds) : Items K G0 (Itl K a) ds := fun i G H s1 s2 => by
  have hq : SqL K H a xs := SqL.of (s2 _ _ (s1 _ _ h))
  refine ⟨fun d hd => ?_, fun hn => ⟨xs, hq, ?_⟩⟩
  · obtain ⟨v, hv, rv⟩ := r.get hd
    refine ⟨⟨xs, v, hq, hv⟩, fun x H' y => ?_⟩
    obtain ⟨e, y⟩ := y
    subst e
    have := y xs hq
    rw [hv] at this
    cases this
    exact ⟨G, Grow.refl s2, rv.mono s1⟩
  · rw [r.length]
    exact List.getElem?_eq_none_iff.mp hn
theorem items_tup {G0 : Hp} {a : Addr} {xs : List V} {ds : List D} (h : SqT K G0 a xs) (r : RpA K G0 xs ds) : Items K G0 (Itt K a) ds := fun i G H s1 s2 => by
  have hq : SqT K H a xs := Same.sqT s2 (Same.sqT s1 h)
  refine ⟨fun d hd => ?_, fun hn => ⟨xs, hq, ?_⟩⟩
  · obtain ⟨v, hv, rv⟩ := r.get hd
    refine ⟨⟨xs, v, hq, hv⟩, fun x H' y => ?_⟩
    obtain ⟨e, y⟩ := y
    subst e
    have := y xs hq
    rw [hv] at this
    cases this
    exact ⟨G, Grow.refl s2, rv.mono s1⟩
  · rw [r.length]
    exact List.getElem?_eq_none_iff.mp hn
theorem items_str {G0 : Hp} {x : Str} : Items K G0 (Its x) (signsOf x) := fun i G H s1 s2 => by
  have hl : (signsOf x).length = x.cps.size := by simp [signsOf]
  refine ⟨fun d hd => ?_, fun hn => ?_⟩
  · have hi := lt_of_get hd
    rw [hl] at hi
    refine ⟨hi, fun v H' y => ?_⟩
    obtain ⟨e, c, hc, rfl⟩ := y
    subst e
    refine ⟨G, Grow.refl s2, ?_⟩
    have : d = .str ⟨#[c]⟩ := by
      unfold signsOf at hd
      rw [List.getElem?_map, Array.getElem?_toList, hc] at hd
      exact (Option.some.inj hd).symm
    rw [this]
    exact .str _
  · have := List.getElem?_eq_none_iff.mp hn
    rw [hl] at this
    exact this
theorem items_range {G0 : Hp} {a b : Int} : Items K G0 (Itr a (b - a).toNat) (rangeL a b) := fun i G H s1 s2 => by
  have hl : (rangeL a b).length = (b - a).toNat := by simp [rangeL]
  refine ⟨fun d hd => ?_, fun hn => ?_⟩
  · have hi := lt_of_get hd
    rw [hl] at hi
    refine ⟨hi, fun v H' y => ?_⟩
    obtain ⟨e, rfl⟩ := y
    subst e
    refine ⟨G, Grow.refl s2, ?_⟩
    have : d = .int (a + (i : Nat)) := by
      unfold rangeL at hd
      rw [List.getElem?_map, List.getElem?_range hi] at hd
      exact (Option.some.inj hd).symm
    rw [this]
    exact .int _
  · have := List.getElem?_eq_none_iff.mp hn
    rw [hl] at this
    exact this
def iSeq (K : PySem.W.Frag) (te : TE) : TI := fun σ H R => iList K te σ H R ∨ iTup K te σ H R ∨ iStr te σ H R
theorem EvIt.seq (h : EvI K tw own W cl te fe) : EvIt K tw own W cl (iSeq K te) (seqI fe) := fun H0 P G env σ H Q hp ok ans => by
  have key : ∀ a, fe env = .ok a → iSeq K te σ H Q := fun a ea => by
    unfold seqI at ans
    rw [ea] at ans
    obtain ⟨ds, e, q⟩ := ans_lift (show Ans ((lift (itemsOf a.1)).bind fun ds => R.ok (ds, a.2)) _ _ from ans)
    have run : ∀ (Q' : VK), (∀ G' H' v, Gr H0 G G' → StOk K H0 P own G' a.2 σ H' → Rp K G' v a.1 → Q' v H') → te σ H Q' := fun Q' h' => h H0 P G env σ H Q' hp ok (by rw [ea]; exact h')
    obtain ⟨d, e2⟩ := a
    cases d with
    | list xs =>
      cases e
      refine .inl (run _ fun G' H' v g' ok' r => ?_)
      cases r with
      | lst h1 a1 => exact ⟨_, rfl, ⟨_, SqL.of (ok'.sub _ _ h1)⟩, q G' H' _ g' ok' (items_list h1 a1)⟩
    | tuple xs =>
      cases e
      refine .inr (.inl (run _ fun G' H' v g' ok' r => ?_))
      cases r with
      | tup h1 a1 => exact ⟨_, rfl, ⟨_, Same.sqT ok'.sub h1⟩, q G' H' _ g' ok' (items_tup h1 a1)⟩
    | str x =>
      cases e
      refine .inr (.inr (run _ fun G' H' v g' ok' r => ?_))
      cases r
      exact ⟨x, rfl, q G' H' _ g' ok' items_str⟩
    | _ => cases e
  cases ea : fe env with
  | ok a => exact key a ea
  | bad =>
    unfold seqI at ans
    rw [ea] at ans
    exact ans.elim
  | err c =>
    unfold seqI at ans
    rw [ea] at ans
    exact .inl (h H0 P G env σ H _ hp ok (by rw [ea]; exact ans))
theorem EvIt.rng1 (h : EvA K tw own W cl ta fa) : EvIt K tw own W cl (iRng1 ta) (argI rng1 fa) := fun H0 P G env σ H Q hp ok ans => by
  refine h H0 P G env σ H _ hp ok (ans.bind.mono (fun a ha G1 H1 vs g1 ok1 rx => ?_) fun _ h => h)
  obtain ⟨ds, e, q⟩ := ans_lift ha
  obtain ⟨n, el, hz, rfl⟩ := rng1_inv e
  rw [el] at rx
  obtain ⟨v, rfl, r⟩ := rp1 rx
  cases r
  refine ⟨n, rfl, by omega, by omega, q G1 H1 _ g1 ok1 ?_⟩
  have := items_range (K := K) (G0 := G1) (a := 0) (b := n)
  rw [Int.sub_zero] at this
  exact this
theorem EvIt.rng2 (h : EvA K tw own W cl ta fa) : EvIt K tw own W cl (iRng2 ta) (argI rng2 fa) := fun H0 P G env σ H Q hp ok ans => by
  refine h H0 P G env σ H _ hp ok (ans.bind.mono (fun a ha G1 H1 vs g1 ok1 rx => ?_) fun _ h => h)
  obtain ⟨ds, e, q⟩ := ans_lift ha
  obtain ⟨m, n, el, hz, rfl⟩ := rng2_inv e
  rw [el] at rx
  obtain ⟨v, w, rfl, r, r'⟩ := rp2 rx
  cases r
  cases r'
  exact ⟨m, n, rfl, by omega, q G1 H1 _ g1 ok1 items_range⟩
theorem items_zip {G0 : Hp} {a b : Addr} {xs ys : List V} {ds es : List D} (h : G0 a = some (.lst xs)) (r : RpA K G0 xs ds) (h' : G0 b = some (.lst ys)) (r' : RpA K G0 ys es) (hnn : ((ds.zip es).all fun p => !needN [p.1, p.2]) = true) : Items K G0 (Itz K a b) ((ds.zip es).map fun p => .tuple [p.1, p.2]) := fun i G H s1 s2 => by
  have hq : SqL K H a xs := SqL.of (s2 _ _ (s1 _ _ h))
  have hq' : SqL K H b ys := SqL.of (s2 _ _ (s1 _ _ h'))
  refine ⟨fun d hd => ?_, fun hn => ⟨xs, ys, hq, hq', ?_⟩⟩
  · rw [List.getElem?_map, Option.map_eq_some_iff] at hd
    obtain ⟨⟨d1, d2⟩, hz, rfl⟩ := hd
    obtain ⟨h1, h2⟩ := List.getElem?_zip_eq_some.mp hz
    obtain ⟨v, hv, rv⟩ := r.get h1
    obtain ⟨w, hw, rw'⟩ := r'.get h2
    refine ⟨⟨xs, ys, v, w, hq, hq', hv, hw⟩, fun x H' y => ?_⟩
    obtain ⟨T, x1, x2, rfl, nT, rfl, f1, f2⟩ := y
    have e1 := f1 xs hq
    have e2 := f2 ys hq'
    rw [hv] at e1
    rw [hw] at e2
    cases e1
    cases e2
    have gg : Grow G H (upd G T (.tup [v, w])) (upd H T (.tup [v, w])) := Grow.lay s2 nT
    exact ⟨_, gg, .tup (SqT.of upd_same) (.cons (rv.mono (s1.trans gg.gg)) (.cons (rw'.mono (s1.trans gg.gg)) .nil)) ⟨fun z => (by
      have hz2 := List.all_eq_true.mp hnn _ (List.mem_of_getElem? hz)
      simp only [Bool.not_eq_true'] at hz2
      rw [hz2] at z
      cases z), fun _ => upd_same⟩⟩
  · have := List.getElem?_eq_none_iff.mp hn
    rw [List.length_map, List.length_zip] at this
    rw [r.length, r'.length]
    omega
theorem items_zipT {G0 : Hp} {a b : Addr} {xs ys : List V} {ds es : List D} (h : SqT K G0 a xs) (r : RpA K G0 xs ds) (h' : SqT K G0 b ys) (r' : RpA K G0 ys es) (hnn : ((ds.zip es).all fun p => !needN [p.1, p.2]) = true) : Items K G0 (ItzT K a b) ((ds.zip es).map fun p => .tuple [p.1, p.2]) := fun i G H s1 s2 => by
  have hq : SqT K H a xs := Same.sqT s2 (Same.sqT s1 h)
  have hq' : SqT K H b ys := Same.sqT s2 (Same.sqT s1 h')
  refine ⟨fun d hd => ?_, fun hn => ⟨xs, ys, hq, hq', ?_⟩⟩
  · rw [List.getElem?_map, Option.map_eq_some_iff] at hd
    obtain ⟨⟨d1, d2⟩, hz, rfl⟩ := hd
    obtain ⟨h1, h2⟩ := List.getElem?_zip_eq_some.mp hz
    obtain ⟨v, hv, rv⟩ := r.get h1
    obtain ⟨w, hw, rw'⟩ := r'.get h2
    refine ⟨⟨xs, ys, v, w, hq, hq', hv, hw⟩, fun x H' y => ?_⟩
    obtain ⟨T, x1, x2, rfl, nT, rfl, f1, f2⟩ := y
    have e1 := f1 xs hq
    have e2 := f2 ys hq'
    rw [hv] at e1
    rw [hw] at e2
    cases e1
    cases e2
    have gg : Grow G H (upd G T (.tup [v, w])) (upd H T (.tup [v, w])) := Grow.lay s2 nT
    exact ⟨_, gg, .tup (SqT.of upd_same) (.cons (rv.mono (s1.trans gg.gg)) (.cons (rw'.mono (s1.trans gg.gg)) .nil)) ⟨fun z => (by
      have hz2 := List.all_eq_true.mp hnn _ (List.mem_of_getElem? hz)
      simp only [Bool.not_eq_true'] at hz2
      rw [hz2] at z
      cases z), fun _ => upd_same⟩⟩
  · have := List.getElem?_eq_none_iff.mp hn
    rw [List.length_map, List.length_zip] at this
    rw [r.length, r'.length]
    omega
theorem EvIt.zip2 (h : EvA K tw own W cl ta fa) : EvIt K tw own W cl (iZipA K ta) (argI zip2 fa) := fun H0 P G env σ H Q hp ok ans => by
  refine h H0 P G env σ H _ hp ok (ans.bind.mono (fun a ha G1 H1 vs g1 ok1 rx => ?_) fun _ h => h)
  obtain ⟨ds, e, q⟩ := ans_lift ha
  obtain ⟨xs, ys, el, rfl, hnn⟩ := zip2_inv e
  rcases el with el | el
  · rw [el] at rx
    obtain ⟨v, w, rfl, r, r'⟩ := rp2 rx
    cases r with
    | lst h1 a1 =>
      cases r' with
      | lst h2 a2 => exact ⟨_, _, _, _, rfl, .inl ⟨SqL.of (ok1.sub _ _ h1), SqL.of (ok1.sub _ _ h2), q G1 H1 _ g1 ok1 (items_zip h1 a1 h2 a2 hnn)⟩⟩
  · rw [el] at rx
    obtain ⟨v, w, rfl, r, r'⟩ := rp2 rx
    cases r with
    | tup h1 a1 =>
      cases r' with
      | tup h2 a2 => exact ⟨_, _, _, _, rfl, .inr ⟨Same.sqT ok1.sub h1, Same.sqT ok1.sub h2, q G1 H1 _ g1 ok1 (items_zipT h1 a1 h2 a2 hnn)⟩⟩
end
section
variable {X : Cx} {tw : List Nat} {own : List Nat} {W : WX} {cl : Nat → Addr} {tg a b e : Expr} {p pos tpos : Pos} {te : TE} {fe : Env → R (D × Env)} {ta : TA} {fa : Env → R (List D × Env)}
theorem di_seq (h : DI X tw own W cl e te fe) : DIt X tw own W cl tg e (iSeq X.K te) (seqI fe) := ⟨pi_or (pi_list h.pe) (pi_or (pi_tup h.pe) (pi_str h.pe)), EvIt.seq h.ev⟩
theorem di_rng1 (hm : X.mg "range" = none) (h : DA X tw own W cl [a] ta fa) (hg : Gl X "range" := by rfl) (hs : starEach [a] X.env = [(false, eval a X.env)] := by rfl) : DIt X tw own W cl tg (.Call (.Name "range" p) [a] [] pos) (iRng1 ta) (argI rng1 fa) := ⟨pi_range1 hg hm h.pe hs, EvIt.rng1 h.ev⟩
theorem di_rng2 (hm : X.mg "range" = none) (h : DA X tw own W cl [a, b] ta fa) (hg : Gl X "range" := by rfl) (hs : starEach [a, b] X.env = [(false, eval a X.env), (false, eval b X.env)] := by rfl) (hs2 : starEach [b] X.env = [(false, eval b X.env)] := by rfl) : DIt X tw own W cl tg (.Call (.Name "range" p) [a, b] [] pos) (iRng2 ta) (argI rng2 fa) := ⟨pi_range2 hg hm h.pe hs hs2, EvIt.rng2 h.ev⟩
theorem di_zip {elts : List Expr} {kk : Nat} (hm : X.mg "zip" = none) (h : DA X tw own W cl [a, b] ta fa) (hg : Gl X "zip" := by rfl) (hs : starEach [a, b] X.env = (false, eval a X.env) :: starEach [b] X.env := by rfl) (hpl : (backTo pos (starEach [b] X.env)).any (·.1) = false := by rfl) : DIt X tw own W cl (.Tuple elts kk tpos) (.Call (.Name "zip" p) [a, b] [] pos) (iZipA X.K ta) (argI zip2 fa) := ⟨pi_zipA hg hm h.pe hs hpl, EvIt.zip2 h.ev⟩
end
end Hz

namespace Hz
open PySem PySem.Spec PyProof.Rows L2

/-! ### len, items, cuts -/
def lenD : List D → Option D
  | [.list ds] => some (.int (ds.length : Nat))
  | [.tuple ds] => some (.int (ds.length : Nat))
  | [.str x] => if x.length ≤ 1000000 then some (.int (x.length : Nat)) else none
  | [.dict ds] => match scrD (.dict ds) with
    | some xs => some (.int (xs.length : Nat))
    | none => none
  | _ => none
def idxD : D → D → Option D
  | .list ds, .int i => atI ds i
  | .tuple ds, .int i => atI ds i
  | .str x, .int i => if x.length ≤ 1000000 then (atI x.cps.toList i).map fun c => .str ⟨#[c]⟩ else none
  | .dict ds, .int i => match scrD (.dict ds) with
    | some xs => atI xs i
    | none => none
  | _, _ => none
def cutL {α : Type} (xs : List α) (lo hi : Option Int) : List α := (xs.drop (HT.sIx xs.length 0 lo)).take (HT.sIx xs.length xs.length hi - HT.sIx xs.length 0 lo)
def boolsOf : List D → Option (List Bool)
  | [] => some []
  | .bool b :: r => (boolsOf r).map (b :: ·)
  | _ => none
theorem boolsOf_eq : ∀ {ds : List D} {bs : List Bool}, boolsOf ds = some bs → ds = bs.map PyData.bool
  | [], bs, h => by
    cases h
    rfl
  | d :: ds, bs, h => by
    cases d with
    | bool i =>
      simp only [boolsOf, Option.map_eq_some_iff] at h
      obtain ⟨ms, h1, rfl⟩ := h
      rw [boolsOf_eq h1]
      rfl
    | _ => cases h
def allD : List D → Option D
  | [.list ds] => (boolsOf ds).map fun bs => .bool (bs.all id)
  | _ => none
def listD : List D → Option D
  | [.list ds] => some (.list ds)
  | [.tuple ds] => some (.list ds)
  | _ => none
def tupleD : List D → Option D
  | [.list ds] => some (.tuple ds)
  | [.tuple ds] => some (.tuple ds)
  | _ => none
def maxD : List D → Option D
  | [.list ds] => match intsOf ds with
    | some (n :: ns) => some (.int (ns.foldl max n))
    | _ => none
  | [.int i, .int j] => some (.int (if j > i then j else i))
  | _ => none
def minD : List D → Option D
  | [.list ds] => match intsOf ds with
    | some (n :: ns) => some (.int (ns.foldl min n))
    | _ => none
  | [.int i, .int j] => some (.int (if j < i then j else i))
  | _ => none
theorem atI_rp {K : PySem.W.Frag} {G : Hp} {xs : List V} {ds : List D} {i : Int} {d : D} (r : RpA K G xs ds) (h : atI ds i = some d) : ∃ v, atI xs i = some v ∧ Rp K G v d := by
  unfold atI at h ⊢
  rw [r.length]
  obtain ⟨j, h1, h2⟩ := Option.bind_eq_some_iff.mp h
  obtain ⟨v, hv, rv⟩ := r.get h2
  exact ⟨v, Option.bind_eq_some_iff.mpr ⟨j, h1, hv⟩, rv⟩
theorem scr_inv {ds : List (D × D)} {xs : List D} (h : scrD (.dict ds) = some xs) : ds = [(.none, .list xs)] := by
  unfold scrD at h
  split at h
  · rename_i e
    cases h
    injection e
  · cases h
section
variable {K : PySem.W.Frag} {X : Cx}
theorem scr_rp {G : Hp} {v : V} {ds : List (D × D)} {xs : List D} (h : scrD (.dict ds) = some xs) (r : Rp K G v (.dict ds)) : ∃ (a : Addr) (ns : List Int), v = .ref a ∧ SqL K G a (ns.map V.int) ∧ xs = ns.map PyData.int := by
  cases scr_inv h
  generalize e : (PyData.dict [(PyData.none, PyData.list xs)]) = d at r
  cases r with
  | @scr a ns hq =>
    injection e with e
    injection e with e1 _
    injection e1 with _ e2
    injection e2 with e3
    exact ⟨a, ns, rfl, hq, e3⟩
  | dic h a =>
    injection e with e
    rw [← e] at a
    exact (rpk_no a).elim
  | dit h a =>
    injection e with e
    injection e with e1 e2
    cases e1
  | _ => cases e
def rLen2 (K : PySem.W.Frag) : List V → Hp → VK → Prop := fun xs H Q => (∃ p ys, xs = [V.ref p] ∧ (SqL K H p ys ∨ SqT K H p ys) ∧ Q (.int ys.length) H) ∨ (∃ z, xs = [V.str z] ∧ z.length ≤ sizeLine ∧ Q (.int z.length) H)
theorem call_len2 : CallR X (.builtin "len") (rLen2 X.K) := call_len_seq.or call_len_str
theorem v_len : OpN K (rLen2 K) lenD := fun G H xs ds d Q sub r e q => by
  unfold lenD at e
  split at e
  · cases e
    obtain ⟨v, rfl, rr⟩ := rp1 r
    cases rr with
    | lst h a => exact .inl ⟨_, _, rfl, .inl (SqL.of (sub _ _ h)), by rw [a.length]; exact q G H _ (Grow.refl sub) (.int _)⟩
  · cases e
    obtain ⟨v, rfl, rr⟩ := rp1 r
    cases rr with
    | tup h a => exact .inl ⟨_, _, rfl, .inr (Same.sqT sub h), by rw [a.length]; exact q G H _ (Grow.refl sub) (.int _)⟩
  · split at e
    · cases e
      obtain ⟨v, rfl, rr⟩ := rp1 r
      cases rr
      exact .inr ⟨_, rfl, sz100 (by assumption), q G H _ (Grow.refl sub) (.int _)⟩
    · cases e
  · split at e
    · rename_i xs' hx
      cases e
      obtain ⟨v, rfl, rr⟩ := rp1 r
      obtain ⟨a, ns, rfl, hq, rfl⟩ := scr_rp hx rr
      refine .inl ⟨a, _, rfl, .inl (sub.seq hq), ?_⟩
      have := q G H _ (Grow.refl sub) (.int _)
      rw [List.length_map] at this ⊢
      exact this
    · cases e
  · cases e
theorem v_idx : Op2 K (rIx K) idxD := fun G H x y dx dy d Q sub rx ry e q => by
  cases ry with
  | int i =>
    cases rx with
    | lst h a =>
      obtain ⟨v, hv, rv⟩ := atI_rp a e
      exact .inl ⟨_, _, i, v, rfl, rfl, SqL.of (sub _ _ h), hv, q G H v (Grow.refl sub) rv⟩
    | tup h a =>
      obtain ⟨v, hv, rv⟩ := atI_rp a e
      exact .inr (.inl ⟨_, _, i, v, rfl, rfl, Same.sqT sub h, hv, q G H v (Grow.refl sub) rv⟩)
    | str x =>
      simp only [idxD] at e
      split at e
      · rename_i hz
        rw [Option.map_eq_some_iff] at e
        obtain ⟨c, hc, rfl⟩ := e
        exact .inr (.inr ⟨x, i, c, rfl, rfl, sz100 hz, hc, q G H _ (Grow.refl sub) (.str _)⟩)
      · cases e
    | scr h =>
      rename_i a ns
      have e' : atI (ns.map PyData.int) i = some d := e
      obtain ⟨v, hv, rv⟩ := atI_rp (RpA.of_ints (K := K) (G := G) ns) e'
      exact .inl ⟨_, _, i, v, rfl, rfl, sub.seq h, hv, q G H v (Grow.refl sub) rv⟩
    | @dic a kvs ds h a' =>
      simp only [idxD] at e
      split at e
      · rename_i xs hx
        cases scr_inv hx
        exact (rpk_no a').elim
      · cases e
    | @dit a kvs ds h a' =>
      simp only [idxD] at e
      split at e
      · rename_i xs hx
        cases scr_inv hx
      · cases e
    | _ => cases e
  | _ => cases rx <;> cases e
theorem v_all : OpN K (rAll K) allD := fun G H xs ds d Q sub r e q => by
  unfold allD at e
  split at e
  · rw [Option.map_eq_some_iff] at e
    obtain ⟨bs, hb, rfl⟩ := e
    obtain ⟨v, rfl, rr⟩ := rp1 r
    cases rr with
    | lst h a =>
      cases boolsOf_eq hb
      cases a.bools
      exact ⟨_, bs, rfl, SqL.of (sub _ _ h), q G H _ (Grow.refl sub) (.bl _)⟩
  · cases e
def rListOf (K : PySem.W.Frag) : List V → Hp → VK → Prop := fun xs H Q => ∃ p ys, xs = [V.ref p] ∧ (SqL K H p ys ∨ SqT K H p ys) ∧ ∀ l, H l = none → Q (.ref l) (upd H l (.lst ys))
theorem list_shape {ds : List D} {d : D} (e : listD ds = some d) : ∃ xs, (ds = [.list xs] ∨ ds = [.tuple xs]) ∧ d = .list xs := by
  unfold listD at e
  split at e
  · cases e
    exact ⟨_, .inl rfl, rfl⟩
  · cases e
    exact ⟨_, .inr rfl, rfl⟩
  · cases e
theorem v_tuple : OpN K (rTupOfP K) tupleD := fun G H xs ds d Q sub r e q => by
  unfold tupleD at e
  split at e
  · cases e
    obtain ⟨v, rfl, rr⟩ := rp1 r
    cases rr with
    | lst h a =>
      refine ⟨_, _, rfl, .inl ⟨SqL.of (sub _ _ h), fun l ob nl hd => ?_⟩⟩
      exact q _ _ _ (Grow.lay sub nl) (Rp.lay upd_same hd (a.mono (Grow.lay sub nl).gg))
  · cases e
    obtain ⟨v, rfl, rr⟩ := rp1 r
    cases rr with
    | tup h a n => exact ⟨_, _, rfl, .inr ⟨Same.sqT sub h, q G H _ (Grow.refl sub) (.tup h a n)⟩⟩
  · cases e
theorem foldl_max_mem : ∀ (ns : List Int) (n : Int), ns.foldl max n ∈ n :: ns
  | [], n => by simp
  | m :: ns, n => by
    have h := foldl_max_mem ns (max n m)
    rcases List.mem_cons.mp h with h | h
    · rw [List.foldl_cons, h]
      by_cases z : n ≤ m
      · rw [Int.max_eq_right z]
        simp
      · rw [Int.max_eq_left (by omega)]
        simp
    · rw [List.foldl_cons]
      exact List.mem_cons_of_mem _ (List.mem_cons_of_mem _ h)
theorem foldl_max_le : ∀ (ns : List Int) (n : Int), ∀ y ∈ n :: ns, y ≤ ns.foldl max n
  | [], n, y, h => by
    have : y = n := by simpa using h
    rw [this]
    exact Int.le_refl _
  | m :: ns, n, y, h => by
    rw [List.foldl_cons]
    have ih := foldl_max_le ns (max n m)
    have h1 := ih (max n m) List.mem_cons_self
    rcases List.mem_cons.mp h with h | h
    · have := Int.le_max_left n m
      omega
    · rcases List.mem_cons.mp h with h | h
      · have := Int.le_max_right n m
        omega
      · exact ih y (List.mem_cons_of_mem _ h)
theorem foldl_min_mem : ∀ (ns : List Int) (n : Int), ns.foldl min n ∈ n :: ns
  | [], n => by simp
  | m :: ns, n => by
    have h := foldl_min_mem ns (min n m)
    rcases List.mem_cons.mp h with h | h
    · rw [List.foldl_cons, h]
      by_cases z : n ≤ m
      · rw [Int.min_eq_left z]
        simp
      · rw [Int.min_eq_right (by omega)]
        simp
    · rw [List.foldl_cons]
      exact List.mem_cons_of_mem _ (List.mem_cons_of_mem _ h)
theorem foldl_min_le : ∀ (ns : List Int) (n : Int), ∀ y ∈ n :: ns, ns.foldl min n ≤ y
  | [], n, y, h => by
    have : y = n := by simpa using h
    rw [this]
    exact Int.le_refl _
  | m :: ns, n, y, h => by
    rw [List.foldl_cons]
    have ih := foldl_min_le ns (min n m)
    have h1 := ih (min n m) List.mem_cons_self
    rcases List.mem_cons.mp h with h | h
    · have := Int.min_le_left n m
      omega
    · rcases List.mem_cons.mp h with h | h
      · have := Int.min_le_right n m
        omega
      · exact ih y (List.mem_cons_of_mem _ h)
def rMax2 (K : PySem.W.Frag) : List V → Hp → VK → Prop := fun xs H Q => rMax K xs H Q ∨ (∃ i j, xs = [V.int i, V.int j] ∧ Q (.int (if j > i then j else i)) H)
theorem call_maxA (hc : X.calm = true) : CallR X (.builtin "max") (rMax2 X.K) := (cr_max hc).or (call_max2 hc)
theorem v_max : OpN K (rMax2 K) maxD := fun G H xs ds d Q sub r e q => by
  unfold maxD at e
  split at e
  · split at e
    · rename_i ns n ms hb
      cases e
      obtain ⟨v, rfl, rr⟩ := rp1 r
      cases rr with
      | lst h a =>
        cases intsOf_eq hb
        cases a.ints
        refine .inl ⟨_, n :: ms, rfl, SqL.of (sub _ _ h), by simp, fun m hm hl => ?_⟩
        have : m = ms.foldl max n := Int.le_antisymm (foldl_max_le ms n m hm) (hl _ (foldl_max_mem ms n))
        rw [this]
        exact q G H _ (Grow.refl sub) (.int _)
    · cases e
  · cases e
    obtain ⟨v, w, rfl, rr, r'⟩ := rp2 r
    cases rr
    cases r'
    exact .inr ⟨_, _, rfl, q G H _ (Grow.refl sub) (.int _)⟩
  · cases e
def rMin2 (K : PySem.W.Frag) : List V → Hp → VK → Prop := fun xs H Q => rMin K xs H Q ∨ (∃ i j, xs = [V.int i, V.int j] ∧ Q (.int (if j < i then j else i)) H)
theorem call_minA (hc : X.calm = true) : CallR X (.builtin "min") (rMin2 X.K) := (cr_min hc).or (call_min2 hc)
theorem v_min : OpN K (rMin2 K) minD := fun G H xs ds d Q sub r e q => by
  unfold minD at e
  split at e
  · split at e
    · rename_i ns n ms hb
      cases e
      obtain ⟨v, rfl, rr⟩ := rp1 r
      cases rr with
      | lst h a =>
        cases intsOf_eq hb
        cases a.ints
        refine .inl ⟨_, n :: ms, rfl, SqL.of (sub _ _ h), by simp, fun m hm hl => ?_⟩
        have : m = ms.foldl min n := Int.le_antisymm (hl _ (foldl_min_mem ms n)) (foldl_min_le ms n m hm)
        rw [this]
        exact q G H _ (Grow.refl sub) (.int _)
    · cases e
  · cases e
    obtain ⟨v, w, rfl, rr, r'⟩ := rp2 r
    cases rr
    cases r'
    exact .inr ⟨_, _, rfl, q G H _ (Grow.refl sub) (.int _)⟩
  · cases e
/-! ### isinstance with a built-in class -/
def tyName : D → String
  | .none => "NoneType"
  | .bool _ => "bool"
  | .int _ => "int"
  | .str _ => "str"
  | .list _ => "list"
  | .tuple _ => "tuple"
  | .dict _ => "dict"
def isiD (T : String) : D → Option D
  | .dict _ => none
  | d => (kitB (tyName d) T).map .bool
def tIsi (K : PySem.W.Frag) (T : String) (ta : TE) : TE := tCB (rIsi K) (tCons ta (tCons (tC (.ty T)) tNil))
theorem tyx_of {G H : Hp} {v : V} {d : D} (sub : Same G H) (r : Rp K G v d) (hn : ∀ ds, d ≠ .dict ds) : TyX K H v (.type (tyName d)) := by
  cases r with
  | non => exact .base .non
  | bl b => exact .base (.bl b)
  | int i => exact .base (.int i)
  | str x => exact .base (.str x)
  | lst h a => exact .base (.lst (sub _ _ h))
  | tup h a =>
    rcases h with (h | ⟨o, h⟩) | ⟨o, its, n, hk, hc, _⟩
    · exact .base (.tup (sub _ _ h))
    · exact .fTuple (sub _ _ h)
    · exact .kTuple hk hc
  | scr h => exact absurd rfl (hn _)
  | dic _ _ => exact absurd rfl (hn _)
  | dit _ _ => exact absurd rfl (hn _)
  | ins _ _ _ => exact absurd rfl (hn _)
  | rcd _ _ => exact absurd rfl (hn _)
end
end Hz

namespace Hz
open PySem PySem.Spec PyProof.Rows L2

/-! ### cuts -/
def EvO (K : PySem.W.Frag) (tw : List Nat) (own : List Nat) (W : WX) (cl : Nat → Addr) (t : TO) (f : Env → R (Option Int × Env)) : Prop :=
  ∀ (H0 : Hp) (P : Par) (G : Hp) (env : Env) (σ : L2.St) (H : Hp) (Q : Option Int → Hp → Prop), P.1.map (·.1) = tw → StOk K H0 P own G env σ H →
    Ans (f env) (fun a => ∀ G' H', Gr H0 G G' → StOk K H0 P own G' a.2 σ H' → Q a.1 H') (fun c => ∀ H', Frm H0 P H' → W (.ref (cl c)) none σ H') → t σ H Q
structure DO (X : Cx) (tw : List Nat) (own : List Nat) (W : WX) (cl : Nat → Addr) (e : Option Expr) (t : TO) (f : Env → R (Option Int × Env)) : Prop where
  pe : PO X e t
  ev : EvO X.K tw own W cl t f
def noO : Env → R (Option Int × Env) := fun e => .ok (none, e)
def someO (a : Env → R (D × Env)) : Env → R (Option Int × Env) := fun e => (a e).bind fun x => match x.1 with
  | .int i => .ok (some i, x.2)
  | _ => .bad
def cutD : D → Option Int → Option Int → Option D
  | .list ds, lo, hi => some (.list (cutL ds lo hi))
  | .tuple ds, lo, hi => some (.tuple (cutL ds lo hi))
  | .str x, lo, hi => if x.length ≤ 1000000 then some (.str (cutS x lo hi)) else none
  | _, _, _ => none
def sliceD (a : Env → R (D × Env)) (lo hi : Env → R (Option Int × Env)) : Env → R (D × Env) := fun e => (a e).bind fun x => (lo x.2).bind fun l => (hi l.2).bind fun h => (lift (cutD x.1 l.1 h.1)).bind fun d => .ok (d, h.2)
theorem RpA.cut {K : PySem.W.Frag} {G : Hp} {xs : List V} {ds : List D} (r : RpA K G xs ds) (lo hi : Option Int) : RpA K G (cutV xs lo hi) (cutL ds lo hi) := by
  unfold cutV cutL
  rw [r.length]
  exact (r.drop _).take _
def rCut (K : PySem.W.Frag) : V → Option Int → Option Int → Hp → VK → Prop := fun x lo hi H Q => rSlL K x lo hi H Q ∨ rSlP K x lo hi H Q ∨ rSlS x lo hi H Q
theorem sl_cut {X : Cx} : SlR X (rCut X.K) := sl_list.or (sl_tupP.or sl_str)
theorem v_cut {K : PySem.W.Frag} {G H : Hp} {x : V} {dx d : D} {lo hi : Option Int} {Q : VK} (sub : Same G H) (rx : Rp K G x dx) (e : cutD dx lo hi = some d) (q : ∀ G' H' v, Grow G H G' H' → Rp K G' v d → Q v H') : rCut K x lo hi H Q := by
  cases rx with
  | lst h a =>
    cases e
    exact .inl ⟨_, _, rfl, SqL.of (sub _ _ h), fun p np => q _ _ _ (Grow.lay sub np) (.lst upd_same ((a.cut lo hi).mono (Grow.lay sub np).gg))⟩
  | @tup a' xs ds h a n =>
    cases e
    refine .inr (.inl ⟨_, _, rfl, Same.sqT sub h, fun hw => ?_, fun _ p ob np hd => q _ _ _ (Grow.lay sub np) (Rp.lay upd_same hd ((a.cut lo hi).mono (Grow.lay sub np).gg))⟩)
    have hc : cutL ds lo hi = ds := by
      unfold cutL
      rw [← a.length, hw.1, hw.2, a.length, Nat.sub_zero, List.drop_zero, List.take_length]
    rw [hc] at q
    exact q G H _ (Grow.refl sub) (.tup h a n)
  | str x =>
    simp only [cutD] at e
    split at e
    · cases e
      exact .inr (.inr ⟨x, rfl, sz100 (by assumption), q G H _ (Grow.refl sub) (.str _)⟩)
    · cases e
  | _ => cases e
section
variable {K : PySem.W.Frag} {tw : List Nat} {own : List Nat} {W : WX} {cl : Nat → Addr} {te ta tb : TE} {fe fa fb : Env → R (D × Env)} {to th : TO} {fo fh : Env → R (Option Int × Env)}
theorem EvO.no : EvO K tw own W cl tNoPart noO := fun H0 P G env σ H Q hp ok ans => ans G H Gr.refl ok
theorem EvO.some (h : EvI K tw own W cl te fe) : EvO K tw own W cl (tPart te) (someO fe) := fun H0 P G env σ H Q hp ok ans => by
  refine h H0 P G env σ H _ hp ok (ans.bind.mono (fun a ha G1 H1 x g1 ok1 rx => ?_) fun _ h => h)
  obtain ⟨d, e2⟩ := a
  cases d with
  | int i =>
    cases rx
    exact ⟨i, rfl, ha G1 H1 g1 ok1⟩
  | _ => exact ha.elim
theorem EvI.cut (h : EvI K tw own W cl te fe) (hl : EvO K tw own W cl to fo) (hh : EvO K tw own W cl th fh) : EvI K tw own W cl (tSl (rCut K) te to th) (sliceD fe fo fh) := fun H0 P G env σ H Q hp ok ans => by
  refine h H0 P G env σ H _ hp ok (ans.bind.mono (fun a ha G1 H1 x g1 ok1 rx => ?_) fun _ h => h)
  refine hl H0 P G1 a.2 σ H1 _ hp ok1 (ha.bind.mono (fun b hb G2 H2 g2 ok2 => ?_) fun _ h => h)
  refine hh H0 P G2 b.2 σ H2 _ hp ok2 (hb.bind.mono (fun c hc G3 H3 g3 ok3 => ?_) fun _ h => h)
  obtain ⟨d, e, q⟩ := ans_lift hc
  exact v_cut ok3.sub (rx.mono (g2.trans g3).1) e fun G' H' v gg rv => q G' H' v (((g1.trans g2).trans g3).trans (gg.gr ok3)) (ok3.grow gg) rv
theorem EvI.isi {T : String} (h : EvI K tw own W cl te fe) : EvI K tw own W cl (tIsi K T te) (Hz.op1 (isiD T) fe) := fun H0 P G env σ H Q hp ok ans => by
  refine h H0 P G env σ H _ hp ok (ans.bind.mono (fun a ha G1 H1 x g1 ok1 rx => ?_) fun _ h => h)
  obtain ⟨d, e, q⟩ := ans_lift ha
  have hnd : ∀ ds, a.1 ≠ .dict ds := fun ds z => by
    rw [z] at e
    cases e
  have e' : (kitB (tyName a.1) T).map PyData.bool = Option.some d := by
    obtain ⟨a1, a2⟩ := a
    cases a1 <;> first | exact e | exact absurd rfl (hnd _)
  rw [Option.map_eq_some_iff] at e'
  obtain ⟨b, hb, rfl⟩ := e'
  exact ⟨x, .ty T, _, _, b, rfl, .ty T, tyx_of ok1.sub rx hnd, kit_ty hb, q G1 H1 _ g1 ok1 (.bl b)⟩

/-! ### objects of ours, read and changed in place -/
def ownL (e : Env) (i : Nat) : Option (List D) := match e[i]? with
  | some (some (.list ds)) => some ds
  | _ => none
theorem ownL_eq {e : Env} {i : Nat} {ds : List D} (h : ownL e i = some ds) : e[i]? = some (some (.list ds)) := by
  unfold ownL at h
  split at h
  · rename_i q
    cases h
    exact q
  · cases h
def atomD : D → Bool
  | .none => true
  | .bool _ => true
  | .int _ => true
  | .str _ => true
  | _ => false
theorem Rp.atom {G G' : Hp} {v : V} {d : D} (h : atomD d = true) (r : Rp K G v d) : Rp K G' v d := by
  cases r <;> first | (cases h; done) | skip
  · exact .non
  · exact .bl _
  · exact .int _
  · exact .str _
theorem own_list {H0 : Hp} {P : Par} {G : Hp} {env : Env} {σ : L2.St} {H : Hp} {i : Nat} {ds : List D} (ok : StOk K H0 P own G env σ H) (hi : i ∈ own) (h : ownL env i = some ds) :
    ∃ p vs, σ[i]? = some (some (.ref p)) ∧ H p = some (.lst vs) ∧ G p = none ∧ RpA K G vs ds := by
  obtain ⟨p, e1, c⟩ := ok.celF (ownL_eq h) hi rfl
  obtain ⟨hg, c⟩ := c
  rcases c with ⟨vs, ds', e, e2, r⟩ | ⟨vs, ds', e, e2, r⟩ | ⟨vs, ds', e, e2, r⟩
  · cases e
    exact ⟨p, vs, e1, e2, hg, r⟩
  · cases e
  · cases e
theorem look_frozen {G H : Hp} {p : Addr} {vs : List V} {ds : List D} (sub : Same G H) (hp : H p = some (.lst vs)) (hg : G p = none) (r : RpA K G vs ds) : Same (upd G p (.lst vs)) H ∧ Rp K (upd G p (.lst vs)) (.ref p) (.list ds) ∧ Same G (upd G p (.lst vs)) := by
  have s : Same G (upd G p (.lst vs)) := Same.new hg
  refine ⟨fun a o h => ?_, .lst upd_same (r.mono s), s⟩
  by_cases z : a = p
  · subst z
    rw [upd_same] at h
    exact hp.trans h
  · rw [upd_ne z] at h
    exact sub a o h
def op2OL (g : D → D → Option D) (i : Nat) (b : Env → R (D × Env)) : Env → R (D × Env) := fun e => (b e).bind fun y => (lift (ownL y.2 i)).bind fun ds => (lift (g (.list ds) y.1)).bind fun d => if atomD d = true then .ok (d, y.2) else .bad
def op2OR (g : D → D → Option D) (a : Env → R (D × Env)) (i : Nat) : Env → R (D × Env) := fun e => (a e).bind fun y => (lift (ownL y.2 i)).bind fun ds => (lift (g y.1 (.list ds))).bind fun d => if atomD d = true then .ok (d, y.2) else .bad
def opNO (g : List D → Option D) (i : Nat) : Env → R (D × Env) := fun e => (lift (ownL e i)).bind fun ds => (lift (g [.list ds])).bind fun d => if atomD d = true then .ok (d, e) else .bad
def idxO (i : Nat) (b : Env → R (D × Env)) : Env → R (D × Env) := fun e => (b e).bind fun y => (lift (ownL y.2 i)).bind fun ds => (lift (idxD (.list ds) y.1)).bind fun d => .ok (d, y.2)
theorem slot_of {H0 : Hp} {P : Par} {G : Hp} {env : Env} {σ : L2.St} {H : Hp} {i : Nat} (ok : StOk K H0 P own G env σ H) (hi : i ∈ own) : ∃ p, σ[i]? = some (some (.ref p)) := by
  exact ok.adr hi
theorem EvI.op2OL {r : R2} {g : D → D → Option D} {i : Nat} (ho : Op2 K r g) (hi : i ∈ own) (hb : EvI K tw own W cl tb fb) : EvI K tw own W cl (tOp r (tVar i) tb) (op2OL g i fb) := fun H0 P G env σ H Q hp ok ans => by
  obtain ⟨p0, e0⟩ := slot_of ok hi
  refine ⟨.ref p0, e0, hb H0 P G env σ H _ hp ok (ans.bind.mono (fun b hb' G2 H2 y g2 ok2 ry => ?_) fun _ h => h)⟩
  obtain ⟨ds, eo, q1⟩ := ans_lift hb'
  obtain ⟨d, e, q⟩ := ans_lift q1
  obtain ⟨p, vs, e1, hH, hg, r1⟩ := own_list ok2 hi eo
  rw [e0] at e1
  cases e1
  obtain ⟨s1, rp, s2⟩ := look_frozen ok2.sub hH hg r1
  refine ho _ H2 (.ref p0) y (.list ds) b.1 d Q s1 rp (ry.mono s2) e fun G' H' v gg rv => ?_
  by_cases ha : atomD d = true
  · rw [if_pos ha] at q
    have g3 : Grow G2 H2 G2 H' := ⟨Same.refl _, ok2.sub.trans gg.hh, gg.hh, fun _ _ _ _ => rfl⟩
    exact q G2 H' v g2 (ok2.grow g3) (rv.atom ha)
  · rw [if_neg ha] at q
    exact q.elim
theorem EvI.op2OR {r : R2} {g : D → D → Option D} {i : Nat} (ho : Op2 K r g) (hi : i ∈ own) (hb : EvI K tw own W cl ta fa) : EvI K tw own W cl (tOp r ta (tVar i)) (op2OR g fa i) := fun H0 P G env σ H Q hp ok ans => by
  refine hb H0 P G env σ H _ hp ok (ans.bind.mono (fun b hb' G2 H2 y g2 ok2 ry => ?_) fun _ h => h)
  obtain ⟨ds, eo, q1⟩ := ans_lift hb'
  obtain ⟨d, e, q⟩ := ans_lift q1
  obtain ⟨p, vs, e1, hH, hg, r1⟩ := own_list ok2 hi eo
  obtain ⟨s1, rp, s2⟩ := look_frozen ok2.sub hH hg r1
  refine ⟨.ref p, e1, ho _ H2 y (.ref p) b.1 (.list ds) d Q s1 (ry.mono s2) rp e fun G' H' v gg rv => ?_⟩
  by_cases ha : atomD d = true
  · rw [if_pos ha] at q
    have g3 : Grow G2 H2 G2 H' := ⟨Same.refl _, ok2.sub.trans gg.hh, gg.hh, fun _ _ _ _ => rfl⟩
    exact q G2 H' v g2 (ok2.grow g3) (rv.atom ha)
  · rw [if_neg ha] at q
    exact q.elim
theorem EvI.opNO {r : List V → Hp → VK → Prop} {g : List D → Option D} {i : Nat} (ho : OpN K r g) (hi : i ∈ own) : EvI K tw own W cl (tCB r (tCons (tVar i) tNil)) (opNO g i) := fun H0 P G env σ H Q hp ok ans => by
  obtain ⟨ds, eo, q1⟩ := ans_lift ans
  obtain ⟨d, e, q⟩ := ans_lift q1
  obtain ⟨p, vs, e1, hH, hg, r1⟩ := own_list ok hi eo
  obtain ⟨s1, rp, s2⟩ := look_frozen ok.sub hH hg r1
  refine ⟨.ref p, e1, ho _ H [.ref p] [.list ds] d Q s1 (.cons rp .nil) e fun G' H' v gg rv => ?_⟩
  by_cases ha : atomD d = true
  · rw [if_pos ha] at q
    have g3 : Grow G H G H' := ⟨Same.refl _, ok.sub.trans gg.hh, gg.hh, fun _ _ _ _ => rfl⟩
    exact q G H' v Gr.refl (ok.grow g3) (rv.atom ha)
  · rw [if_neg ha] at q
    exact q.elim
theorem EvI.idxO {i : Nat} (hi : i ∈ own) (hb : EvI K tw own W cl tb fb) : EvI K tw own W cl (tOp (rIx K) (tVar i) tb) (idxO i fb) := fun H0 P G env σ H Q hp ok ans => by
  obtain ⟨p0, e0⟩ := slot_of ok hi
  refine ⟨.ref p0, e0, hb H0 P G env σ H _ hp ok (ans.bind.mono (fun b hb' G2 H2 y g2 ok2 ry => ?_) fun _ h => h)⟩
  obtain ⟨ds, eo, q1⟩ := ans_lift hb'
  obtain ⟨d, e, q⟩ := ans_lift q1
  obtain ⟨p, vs, e1, hH, hg, r1⟩ := own_list ok2 hi eo
  rw [e0] at e1
  cases e1
  obtain ⟨bd, be⟩ := b
  cases ry with
  | int j =>
    obtain ⟨v, hv, rv⟩ := atI_rp r1 (show atI ds j = some d from e)
    exact .inl ⟨p0, vs, j, v, rfl, rfl, SqL.of hH, hv, q G2 H2 v g2 ok2 rv⟩
  | _ => cases e
/-! changes -/
def appS (i : Nat) (a : Env → R (D × Env)) : Env → R (Fl × Env) := fun e => (lift (ownL e i)).bind fun _ => (a e).bind fun x => (lift (ownL x.2 i)).bind fun ds => if ds.length < 1000000 then .ok (.nx, x.2.set i (some (.list (ds ++ [x.1])))) else .bad
def extS (i : Nat) (a : Env → R (D × Env)) : Env → R (Fl × Env) := fun e => (lift (ownL e i)).bind fun _ => (a e).bind fun x => (lift (ownL x.2 i)).bind fun ds => match x.1 with
  | .list es => if ds.length + es.length ≤ 1000000 then .ok (.nx, x.2.set i (some (.list (ds ++ es)))) else .bad
  | _ => .bad
def popD (i : Nat) (a : Env → R (D × Env)) : Env → R (D × Env) := fun e => (lift (ownL e i)).bind fun _ => (a e).bind fun x => (lift (ownL x.2 i)).bind fun ds => match x.1 with
  | .int j => if 0 ≤ j ∧ j < 1000000 then (lift ds[j.toNat]?).bind fun d => .ok (d, x.2.set i (some (.list (ds.eraseIdx j.toNat)))) else .bad
  | _ => .bad
def putS (i : Nat) (k v : Env → R (D × Env)) : Env → R (Fl × Env) := fun e => (v e).bind fun x => (k x.2).bind fun y => (lift (ownL y.2 i)).bind fun ds => match y.1 with
  | .int j => (lift (ixN ds.length j)).bind fun m => .ok (.nx, y.2.set i (some (.list (ds.set m x.1))))
  | _ => .bad
theorem EvS.app {oL : List Nat} {i : Nat} (hi : i ∈ own) (h : EvI K tw own W cl te fe) : EvS K tw own own oL W cl (tDrop (tBM K "list" rAppend (tVar i) (tCons te tNil))) (appS i fe) := EvS.of fun H0 P G env σ H E hp ok ans => by
  obtain ⟨ds0, eo0, ans⟩ := ans_lift ans
  obtain ⟨p0, vs0, e0, hH0, _, _⟩ := own_list ok hi eo0
  refine ⟨.ref p0, e0, .inl ⟨rfl, vs0, SqL.of hH0⟩, h H0 P G env σ H _ hp ok (ans.bind.mono (fun a ha G1 H1 x g1 ok1 rx => ?_) fun c h H' fr => h σ H' ok.ln fr)⟩
  obtain ⟨ds, eo, q⟩ := ans_lift ha
  obtain ⟨p, vs, e1, hH, hg, r1⟩ := own_list ok1 hi eo
  rw [e0] at e1
  cases e1
  by_cases hl : ds.length < 1000000
  · rw [if_pos hl] at q
    exact ⟨p0, vs, x, rfl, rfl, hH, sz100l (by rw [r1.length]; exact hl), q G1 σ _ g1 (ok1.write (ownL_eq eo) hi e0 rfl ⟨hg, .inl ⟨vs ++ [x], ds ++ [a.1], rfl, upd_same, r1.append (.cons rx .nil)⟩⟩)⟩
  · rw [if_neg hl] at q
    exact q.elim
theorem EvS.ext {oL : List Nat} {i : Nat} (hi : i ∈ own) (h : EvI K tw own W cl te fe) : EvS K tw own own oL W cl (tDrop (tBM K "list" rExtend (tVar i) (tCons te tNil))) (extS i fe) := EvS.of fun H0 P G env σ H E hp ok ans => by
  obtain ⟨ds0, eo0, ans⟩ := ans_lift ans
  obtain ⟨p0, vs0, e0, hH0, _, _⟩ := own_list ok hi eo0
  refine ⟨.ref p0, e0, .inl ⟨rfl, vs0, SqL.of hH0⟩, h H0 P G env σ H _ hp ok (ans.bind.mono (fun a ha G1 H1 x g1 ok1 rx => ?_) fun c h H' fr => h σ H' ok.ln fr)⟩
  obtain ⟨ds, eo, q⟩ := ans_lift ha
  obtain ⟨p, vs, e1, hH, hg, r1⟩ := own_list ok1 hi eo
  rw [e0] at e1
  cases e1
  obtain ⟨ad, ae⟩ := a
  cases rx with
  | @lst b ws es h2 a2 =>
    dsimp only at q
    by_cases hl : ds.length + es.length ≤ 1000000
    · have q' := q
      rw [if_pos hl] at q'
      exact ⟨p0, b, vs, ws, rfl, rfl, hH, ok1.sub _ _ h2, sz100 (by rw [r1.length, a2.length]; exact hl), q' G1 σ _ g1 (ok1.write (ownL_eq eo) hi e0 rfl ⟨hg, .inl ⟨vs ++ ws, ds ++ es, rfl, upd_same, r1.append a2⟩⟩)⟩
    · rw [if_neg hl] at q
      exact q.elim
  | _ => exact q.elim
theorem EvI.pop {i : Nat} (hi : i ∈ own) (h : EvI K tw own W cl te fe) : EvI K tw own W cl (tBM K "list" rPopAt (tVar i) (tCons te tNil)) (popD i fe) := fun H0 P G env σ H Q hp ok ans => by
  obtain ⟨ds0, eo0, ans⟩ := ans_lift ans
  obtain ⟨p0, vs0, e0, hH0, _, _⟩ := own_list ok hi eo0
  refine ⟨.ref p0, e0, .inl ⟨rfl, vs0, SqL.of hH0⟩, h H0 P G env σ H _ hp ok (ans.bind.mono (fun a ha G1 H1 x g1 ok1 rx => ?_) fun c h => h)⟩
  obtain ⟨ds, eo, q⟩ := ans_lift ha
  obtain ⟨p, vs, e1, hH, hg, r1⟩ := own_list ok1 hi eo
  rw [e0] at e1
  cases e1
  obtain ⟨ad, ae⟩ := a
  cases rx with
  | int j =>
    dsimp only at q
    by_cases hl : 0 ≤ j ∧ j < 1000000
    · have q' := q
      rw [if_pos hl] at q'
      obtain ⟨d, ed, q2⟩ := ans_lift q'
      obtain ⟨v, hv, rv⟩ := r1.get ed
      have hk : seqIndex? j vs.length = some j.toNat := by
        have hlt := lt_of_get hv
        have z := ixN_seq (n := vs.length) (i := j) (j := j.toNat) (by unfold ixN; rw [if_pos hl.1, if_pos (by omega)])
        exact z.1
      exact ⟨p0, vs, j, j.toNat, v, rfl, rfl, hH, by omega, by omega, hk, hv, q2 G1 _ v g1 (ok1.write (ownL_eq eo) hi e0 rfl ⟨hg, .inl ⟨vs.eraseIdx j.toNat, ds.eraseIdx j.toNat, rfl, upd_same, r1.erase _⟩⟩) rv⟩
    · rw [if_neg hl] at q
      exact q.elim
  | _ => exact q.elim
theorem EvS.put {oL : List Nat} {i : Nat} {tk tv : TE} {fk fv : Env → R (D × Env)} (hi : i ∈ own) (hv : EvI K tw own W cl tv fv) (hk : EvI K tw own W cl tk fk) : EvS K tw own own oL W cl (tAsg tv (gSub (tVar i) tk rSetL)) (putS i fk fv) := EvS.of fun H0 P G env σ H E hp ok ans => by
  obtain ⟨p0, e0⟩ := slot_of ok hi
  refine hv H0 P G env σ H _ hp ok (ans.bind.mono (fun a ha G1 H1 x g1 ok1 rx => ?_) fun c h H' fr => h σ H' ok.ln fr)
  refine ⟨.ref p0, e0, hk H0 P G1 a.2 σ H1 _ hp ok1 (ha.bind.mono (fun b hb G2 H2 y g2 ok2 ry => ?_) fun c h H' fr => h σ H' ok.ln fr)⟩
  obtain ⟨ds, eo, q⟩ := ans_lift hb
  obtain ⟨p, vs, e1, hH, hg, r1⟩ := own_list ok2 hi eo
  rw [e0] at e1
  cases e1
  obtain ⟨bd, be⟩ := b
  cases ry with
  | int j =>
    obtain ⟨m, em, q2⟩ := ans_lift (show Ans ((lift (ixN ds.length j)).bind fun m => R.ok (Fl.nx, be.set i (some (PyData.list (ds.set m a.1))))) _ _ from q)
    exact ⟨p0, vs, j, m, rfl, rfl, hH, by rw [r1.length]; exact em, q2 G2 σ _ (g1.trans g2) (ok2.write (ownL_eq eo) hi e0 rfl ⟨hg, .inl ⟨vs.set m x, ds.set m a.1, rfl, upd_same, r1.set m (rx.mono g2.1)⟩⟩)⟩
  | _ => exact q.elim
end

/-! ### with the rules of the text -/
section
variable {X : Cx} {tw : List Nat} {own oM oN oL sl : List Nat} {W : WX} {cl : Nat → Addr} {a b c e tg : Expr} {es : List Expr} {pos p pos' : Pos} {te ta tb tc : TE} {tA : TA} {t u : TT} {to th : TO} {ts tu : TS} {fe fa fb fc : Env → R (D × Env)} {fA : Env → R (List D × Env)} {ft fu : Env → R (Bool × Env)} {fo fh : Env → R (Option Int × Env)} {f g : Env → R (Fl × Env)} {st : Stmt} {sts body orelse : List Stmt}
theorem do_no : DO X tw own W cl none tNoPart noO := ⟨po_none, EvO.no⟩
theorem do_some (h : DI X tw own W cl e te fe) : DO X tw own W cl (some e) (tPart te) (someO fe) := ⟨po_some h.pe, EvO.some h.ev⟩
theorem de_cut {lo hi : Option Expr} {p2 : Pos} (h : DI X tw own W cl e te fe) (hl : DO X tw own W cl lo to fo) (hh : DO X tw own W cl hi th fh) : DI X tw own W cl (.Subscript e (.Slice lo hi none p2) pos) (tSl (rCut X.K) te to th) (sliceD fe fo fh) := ⟨pe_slice sl_cut h.pe hl.pe hh.pe, EvI.cut h.ev hl.ev hh.ev⟩
theorem de_idx (ha : DI X tw own W cl a ta fa) (hb : DI X tw own W cl b tb fb) (hs : PlainIx b := by exact fun _ _ => rfl) : DI X tw own W cl (.Subscript a b pos) (tOp (rIx X.K) ta tb) (op2 idxD fa fb) := ⟨pe_ix ix_seq ha.pe hb.pe hs, EvI.op2 v_idx ha.ev hb.ev⟩
theorem de_isi {T : String} {y : Str} {q : Pos} (hm : X.mg "isinstance" = none) (hmT : X.mg y = none) (hbt : bootBuiltins y = some (.type T)) (ha : DI X tw own W cl e te fe) (hg : Gl X "isinstance" := by rfl) (hgT : Gl X y := by rfl) (hn : y ≠ "__name__" := by decide) (hd : (y == ("__debug__" : Str)) = false := by decide)
    (hs2 : starEach [.Name y q] X.env = (false, eval (.Name y q) X.env) :: starEach [] X.env := by rfl) (he : starEach [e, .Name y q] X.env = (false, eval e X.env) :: starEach [.Name y q] X.env := by rfl) (hpl : (backTo pos (starEach [.Name y q] X.env)).any (·.1) = false := by rfl) :
    DI X tw own W cl (.Call (.Name "isinstance" p) [e, .Name y q] [] pos) (tIsi X.K T te) (op1 (isiD T) fe) :=
  ⟨pe_callB call_isi hg hm (by decide +kernel) (pa_cons ha.pe (pa_cons (pe_bltn hgT hmT hbt rfl hn hd) pa_nil hs2) he) (by decide) (by decide) he hpl, EvI.isi ha.ev⟩
theorem pv_own (i : Nat) {x : Str} (hN : X.N[i]? = some x := by rfl) (hv : Vis X.env.scope x := by first | exact Or.inl rfl | exact Or.inr (Or.inl rfl) | exact Or.inr (Or.inr rfl)) (hd : (x == ("__debug__" : Str)) = false := by decide) (hcd : (x == ("__classdict__" : Str)) = false := by decide) : PE X (.Name x pos) (tVar i) := pe_var hN hv hd hcd
theorem de_idxO (i : Nat) {x : Str} {q : Pos} (hi : i ∈ own) (hx : PE X (.Name x q) (tVar i)) (hb : DI X tw own W cl b tb fb) (hs : PlainIx b := by exact fun _ _ => rfl) : DI X tw own W cl (.Subscript (.Name x q) b pos) (tOp (rIx X.K) (tVar i) tb) (idxO i fb) := ⟨pe_ix ix_seq hx hb.pe hs, EvI.idxO hi hb.ev⟩
theorem dt_cmpOL (i : Nat) {x : Str} {q : Pos} {op : CmpOp} {r : R2} {g : D → D → Option D} (ho : OpR X (compareOp op) r) (hv : Op2 X.K r g) (hi : i ∈ own) (hx : PE X (.Name x q) (tVar i)) (hb : DI X tw own W cl b tb fb) (hm : behindInMarks op b = false := by first | exact nomark _ | rfl) : DT X tw own W cl (.Compare (.Name x q) [op] [b] pos) (tTest (tOp r (tVar i) tb)) (tstD (op2OL g i fb)) :=
  ⟨pt_cmpR ho hx hb.pe hm, EvT.tst (EvI.op2OL hv hi hb.ev)⟩
theorem de_bltO (i : Nat) {x y : Str} {q : Pos} {id : String} {r : List V → Hp → VK → Prop} {g : List D → Option D} (hc : CallR X (.builtin id) r) (hv : OpN X.K r g) (hm : X.mg x = none) (hbt : bootBuiltins x = some (.builtin id)) (hi : i ∈ own) (hx : PE X (.Name y q) (tVar i)) (hg : Gl X x := by rfl) (hn : x ≠ "__name__" := by decide) (hdb : (x == ("__debug__" : Str)) = false := by decide)
    (he : starEach [.Name y q] X.env = (false, eval (.Name y q) X.env) :: starEach [] X.env := by rfl) (hpl : (backTo pos (starEach [] X.env)).any (·.1) = false := by rfl) : DI X tw own W cl (.Call (.Name x p) [.Name y q] [] pos) (tCB r (tCons (tVar i) tNil)) (opNO g i) :=
  ⟨pe_callB hc hg hm hbt (pa_cons hx pa_nil he) hn hdb he hpl, EvI.opNO hv hi⟩
theorem de_pop (i : Nat) {x : Str} {q apos : Pos} (hi : i ∈ own) (hx : PE X (.Name x q) (tVar i)) (h : DI X tw own W cl e te fe) (hs : starEach [e] X.env = (false, eval e X.env) :: starEach [] X.env := by rfl) (hline : (apos.endLine == pos.line) = true := by rfl)
    (hbase : attributeBase (.Name x q) "pop" X.env (eval (.Name x q) X.env) = eval (.Name x q) X.env := by rfl) (hfew : ((backTo pos (starEach [e] X.env)).all (fun x => !x.1) && (backToKw pos (keywordEach [] X.env)).all (fun x => x.1.isSome) && decide ([e].length + ([] : List Keyword).length + (if ([] : List Keyword).isEmpty then 0 else 1) < 30)) = true := by rfl) (hpl : (backTo pos (starEach [] X.env)).any (·.1) = false := by rfl) :
    DI X tw own W cl (.Call (.Attribute (.Name x q) "pop" apos) [e] [] pos) (tBM X.K "list" rPopAt (tVar i) (tCons te tNil)) (popD i fe) :=
  ⟨pe_bm PySem.F.plainAttrs_list PySem.F.slot_list_pop PySem.F.type_list_pop mt_popAt hx (pa_cons h.pe pa_nil hs) hbase hfew hline hs hpl, EvI.pop hi h.ev⟩
/-! statements -/
theorem dss_nil : DSs X tw own own oL W cl [] tNext nextS := ⟨pss_nil, EvS.next⟩
theorem dss_one (h : DS X tw own oN oL W cl st ts f) : DSs X tw own oN oL W cl [st] ts f := ⟨pss_one h.pe, h.ev⟩
theorem dss_cons (h : DS X tw own oM oL W cl st ts f) (h2 : DSs X tw oM oN oL W cl sts tu g) : DSs X tw own oN oL W cl (st :: sts) (tSeq ts tu) (seqS f g) := ⟨pss_cons h.pe h2.pe, EvS.seq h.ev h2.ev⟩
theorem dss_frz (i : Nat) (h : DSs X tw (own.filter (· != i)) oN oL W cl sts ts f) (ht : i ∉ tw := by decide) : DSs X tw own oN oL W cl sts ts f := ⟨h.pe, EvS.frz ht h.ev⟩
theorem ds_set (i : Nat) {x : Str} (nd : X.N.Nodup) (h : DI X tw own W cl e te fe) (hi : i ∉ own := by decide) (hx : Loc X.env.scope x := by first | exact Or.inl rfl | exact Or.inr rfl) (hN : X.N[i]? = some x := by rfl) (hs : swapsWith e (some (.Name x pos')) pos.line X.env = pure false := by rfl) (hf : X.fn x = true ∨ X.env.scope.names.lookup x = some .local := by first | exact .inl rfl | exact .inr rfl) :
    DS X tw own own oL W cl (.Assign [.Name x pos'] e pos) (tAsg te (gName i)) (setS i fe) := ⟨ps_set nd hN hx h.pe hs hf, EvS.set hi h.ev⟩
theorem ds_setO (i : Nat) {x : Str} (nd : X.N.Nodup) (h : DN X tw own W cl e te fe) (ht : i ∉ tw := by decide) (hx : Loc X.env.scope x := by first | exact Or.inl rfl | exact Or.inr rfl) (hN : X.N[i]? = some x := by rfl) (hs : swapsWith e (some (.Name x pos')) pos.line X.env = pure false := by rfl) (hf : X.fn x = true ∨ X.env.scope.names.lookup x = some .local := by first | exact .inl rfl | exact .inr rfl) :
    DS X tw own (i :: own) oL W cl (.Assign [.Name x pos'] e pos) (tAsg te (gName i)) (setO i fe) := ⟨ps_set nd hN hx h.pe hs hf, EvS.setO ht h.ev⟩
theorem ds_asg {gt : TG} {bd : D → Env → Option Env} (h : DI X tw own W cl e te fe) (hg : DG X own sl tg gt bd) (hs : swapsWithSole [tg] e pos.line X.env = pure false := by rfl) (hw : swappedStores [tg] e X.env = pure none := by rfl) (h1 : (assignEach [tg] X.env).map (·.2) = [assign tg X.env] := by rfl) :
    DS X tw own own oL W cl (.Assign [tg] e pos) (tAsg te gt) (asgS bd fe) := ⟨ps_asg h.pe hg.pg hs hw h1, EvS.asg h.ev hg.ev⟩
theorem ds_expr (h : DI X tw own W cl e te fe) (hs : swapsWith e none pos.line X.env = pure false := by rfl) : DS X tw own own oL W cl (.Expr e pos) (tDrop te) (exprS fe) := ⟨ps_expr h.pe hs, EvS.drop h.ev⟩
theorem ds_if (hc : DT X tw own W cl c t ft) (h1 : DSs X tw own oN oL W cl body ts f) (h2 : DSs X tw own oN oL W cl orelse tu g) : DS X tw own oN oL W cl (.If c body orelse pos) (tIfS t ts tu) (ifS ft f g) := ⟨ps_if hc.pe h1.pe h2.pe, EvS.ite hc.ev h1.ev h2.ev⟩
theorem ds_for {iter : Expr} {wi : TI} {gt : TG} {bd : D → Env → Option Env} {fi : Env → R (List D × Env)} (hp : PassesOwn (model X.prog X.w) X.A X.env X.xe) (hi : DIt X tw own W cl tg iter wi fi) (hg : DG X own sl tg gt bd) (hb : DSs X tw own own own W cl body ts f) (hc : X.calm = true := by rfl) (hs : ∀ x, foldedSetIterable iter X.env x = pure x := by intro _; rfl) :
    DS X tw own own oL W cl (.For tg iter body [] pos) (tFor wi gt ts) (forS fi bd f) := ⟨ps_for hp hc hi.pi hg.pg hb.pe hs, EvS.for hi.ev hg.ev hb.ev⟩
theorem ds_while (hp : PassesOwn (model X.prog X.w) X.A X.env X.xe) (hc : DT X tw own W cl c t ft) (hb : DSs X tw own own own W cl body ts f) : DS X tw own own oL W cl (.While c body [] pos) (tWhile t ts) (whileS ft f) := ⟨ps_while hp hc.pe hb.pe, EvS.while hc.ev hb.ev⟩
theorem ds_app (i : Nat) {x : Str} {q apos cpos : Pos} (hi : i ∈ own) (hx : PE X (.Name x q) (tVar i)) (h : DI X tw own W cl e te fe) (hs : starEach [e] X.env = (false, eval e X.env) :: starEach [] X.env := by rfl) (hline : (apos.endLine == cpos.line) = true := by rfl)
    (hbase : attributeBase (.Name x q) "append" X.env (eval (.Name x q) X.env) = eval (.Name x q) X.env := by rfl) (hfew : ((backTo cpos (starEach [e] X.env)).all (fun x => !x.1) && (backToKw cpos (keywordEach [] X.env)).all (fun x => x.1.isSome) && decide ([e].length + ([] : List Keyword).length + (if ([] : List Keyword).isEmpty then 0 else 1) < 30)) = true := by rfl) (hpl : (backTo cpos (starEach [] X.env)).any (·.1) = false := by rfl)
    (hsw : swapsWith (.Call (.Attribute (.Name x q) "append" apos) [e] [] cpos) none pos.line X.env = pure false := by rfl) :
    DS X tw own own oL W cl (.Expr (.Call (.Attribute (.Name x q) "append" apos) [e] [] cpos) pos) (tDrop (tBM X.K "list" rAppend (tVar i) (tCons te tNil))) (appS i fe) :=
  ⟨ps_expr (pe_bm PySem.F.plainAttrs_list PySem.F.slot_list_append PySem.F.type_list_append mt_append hx (pa_cons h.pe pa_nil hs) hbase hfew hline hs hpl) hsw, EvS.app hi h.ev⟩
theorem ds_ext (i : Nat) {x : Str} {q apos cpos : Pos} (hi : i ∈ own) (hx : PE X (.Name x q) (tVar i)) (h : DI X tw own W cl e te fe) (hs : starEach [e] X.env = (false, eval e X.env) :: starEach [] X.env := by rfl) (hline : (apos.endLine == cpos.line) = true := by rfl)
    (hbase : attributeBase (.Name x q) "extend" X.env (eval (.Name x q) X.env) = eval (.Name x q) X.env := by rfl) (hfew : ((backTo cpos (starEach [e] X.env)).all (fun x => !x.1) && (backToKw cpos (keywordEach [] X.env)).all (fun x => x.1.isSome) && decide ([e].length + ([] : List Keyword).length + (if ([] : List Keyword).isEmpty then 0 else 1) < 30)) = true := by rfl) (hpl : (backTo cpos (starEach [] X.env)).any (·.1) = false := by rfl)
    (hsw : swapsWith (.Call (.Attribute (.Name x q) "extend" apos) [e] [] cpos) none pos.line X.env = pure false := by rfl) :
    DS X tw own own oL W cl (.Expr (.Call (.Attribute (.Name x q) "extend" apos) [e] [] cpos) pos) (tDrop (tBM X.K "list" rExtend (tVar i) (tCons te tNil))) (extS i fe) :=
  ⟨ps_expr (pe_bm PySem.F.plainAttrs_list PySem.F.slot_list_extend PySem.F.type_list_extend mt_extend hx (pa_cons h.pe pa_nil hs) hbase hfew hline hs hpl) hsw, EvS.ext hi h.ev⟩
theorem ds_put (i : Nat) {x : Str} {q : Pos} {k : Expr} {tk : TE} {fk : Env → R (D × Env)} (hi : i ∈ own) (hx : PE X (.Name x q) (tVar i)) (hk : DI X tw own W cl k tk fk) (hv : DI X tw own W cl e te fe)
    (ha : ∀ v, assign (.Subscript (.Name x q) k pos') X.env v = (do
      let ov ← holding [v] (eval (.Name x q) X.env)
      let iv ← holding [v, ov] (eval k X.env)
      standAt pos'
      holding [v, ov, iv] (setItem ov iv v)
      release [v, ov, iv] []) := by intro _; rfl)
    (hs : swapsWithSole [.Subscript (.Name x q) k pos'] e pos.line X.env = pure false := by rfl) (hw : swappedStores [.Subscript (.Name x q) k pos'] e X.env = pure none := by rfl) (h1 : (assignEach [.Subscript (.Name x q) k pos'] X.env).map (·.2) = [assign (.Subscript (.Name x q) k pos') X.env] := by rfl) :
    DS X tw own own oL W cl (.Assign [.Subscript (.Name x q) k pos'] e pos) (tAsg te (gSub (tVar i) tk rSetL)) (putS i fk fe) := ⟨ps_asg hv.pe (pg_sub hx hk.pe set_list ha) hs hw h1, EvS.put hi hv.ev hk.ev⟩
theorem dn_lst (ha : DA X tw own W cl es tA fA) (hl : ∀ env r, fA env = .ok r → r.1.length ≤ 1000) : DN X tw own W cl (.List es pos) (tLst tA) (lstD fA) := ⟨pe_lst ha.pe, EvN.lst ha.ev hl⟩
theorem dn_dK : DN X tw own W cl (.Dict [] [] pos) tDNewK (cD (.dict [])) := ⟨pe_dnewK, EvN.dK⟩
theorem de_new (h : DN X tw own W cl e te fe) : DI X tw own W cl e te fe := ⟨h.pe, h.ev.toI⟩
structure DTs (X : Cx) (tw : List Nat) (own : List Nat) (W : WX) (cl : Nat → Addr) (es : List Expr) (t : TT) (f : Env → R (Bool × Env)) : Prop where
  pe : PTs X es t
  ev : EvT X.K tw own W cl t f
theorem dts_nil : DTs X tw own W cl [] tYes yesT := ⟨pts_nil, fun H0 P G env σ H Q hp ok ans => ans G H Gr.refl ok⟩
theorem dts_one (h : DT X tw own W cl c t ft) : DTs X tw own W cl [c] t ft := ⟨pts_one h.pe, h.ev⟩
theorem dn_comp {elt iter : Expr} {ifs : List Expr} {scope : Scope} {ow : List (Str × Nat)} {vs : List Nat} {wi : TI} {gt : Shared → Hp → Addr → List (Str × Addr) → List Addr → TG} {tt : Shared → Hp → Addr → List (Str × Addr) → List Addr → TT} {te : Shared → Hp → Addr → List (Str × Addr) → List Addr → TE} {bd : D → Env → Option Env} {fi : Env → R (List D × Env)} (nd : X.N.Nodup) (hi : DIt X tw own W cl tg iter wi fi) (ok : BlkOk X.N X.env.scope scope ow)
    (hg : ∀ (s : Shared) (H : Hp) (C : Addr) (cl' : List (Str × Addr)) (fp : List Addr), DG (X.blk s H scope (compEnvC scope cl' C X.env) fp) own sl tg (gt s H C cl' fp) bd)
    (ht : ∀ (s : Shared) (H : Hp) (C : Addr) (cl' : List (Str × Addr)) (fp : List Addr), DTs (X.blk s H scope (compEnvC scope cl' C X.env) fp) tw own WF cl ifs (tt s H C cl' fp) ft)
    (he : ∀ (s : Shared) (H : Hp) (C : Addr) (cl' : List (Str × Addr)) (fp : List Addr), DI (X.blk s H scope (compEnvC scope cl' C X.env) fp) tw own WF cl elt (te s H C cl' fp) fe)
    (hsl : ∀ i ∈ sl, i ∈ ow.map (·.2) := by decide) (hv : ∀ i ∈ ow.map (·.2), i ∉ own := by decide) (hc : X.calm = true := by rfl) (hs : ∀ x, foldedSetIterable iter X.env x = pure x := by intro _; rfl) (hvs : ow.map (·.2) = vs := by rfl) (egt : ∀ s H C cl' fp, gt s H C cl' fp = gt X.s_0 (fun _ => none) 0 [] [] := by intros; rfl) (ett : ∀ s H C cl' fp, tt s H C cl' fp = tt X.s_0 (fun _ => none) 0 [] [] := by intros; rfl) (ete : ∀ s H C cl' fp, te s H C cl' fp = te X.s_0 (fun _ => none) 0 [] [] := by intros; rfl) :
    DN X tw own W cl (.ListComp elt [⟨tg, iter, ifs, 0⟩] scope pos) (tLc wi (gt X.s_0 (fun _ => none) 0 [] []) (tt X.s_0 (fun _ => none) 0 [] []) (te X.s_0 (fun _ => none) 0 [] []) vs) (compD fi vs bd ft fe) := by
  subst hvs
  exact ⟨pe_lc hc nd hi.pi ok (fun s H C cl' fp => egt s H C cl' fp ▸ (hg s H C cl' fp).pg) (fun s H C cl' fp => ett s H C cl' fp ▸ (ht s H C cl' fp).pe) (fun s H C cl' fp => ete s H C cl' fp ▸ (he s H C cl' fp).pe) hs,
    EvN.comp hi.ev (hg X.s_0 (fun _ => none) 0 [] []).ev (ht X.s_0 (fun _ => none) 0 [] []).ev (he X.s_0 (fun _ => none) 0 [] []).ev hsl hv⟩
end
end Hz

namespace Hz
open PySem PySem.Spec PyProof.Rows L2

/-! ### defs -/
def fin : R (Fl × Env) → R D
  | .ok (.rt d, _) => .ok d
  | .ok (.nx, _) => .ok .none
  | .ok _ => .bad
  | .err c => .err c
  | .bad => .bad
def finK (k : Nat) : R (Fl × Env) → R (D × D)
  | .ok (.rt d, e) => match e[k]? with
    | some (some t) => .ok (d, t)
    | _ => .bad
  | .ok (.nx, e) => match e[k]? with
    | some (some t) => .ok (.none, t)
    | _ => .bad
  | .ok _ => .bad
  | .err c => .err c
  | .bad => .bad
def finT : R (Fl × Env) → R (D × D)
  | .ok (.rt d, e) => match e[1]? with
    | some (some t) => .ok (d, t)
    | _ => .bad
  | .ok (.nx, e) => match e[1]? with
    | some (some t) => .ok (.none, t)
    | _ => .bad
  | .ok _ => .bad
  | .err c => .err c
  | .bad => .bad
def env0 (n : Nat) (ds : List D) : Env := ds.map some ++ List.replicate (n - ds.length) none
theorem env0_get {n : Nat} {ds : List D} {i : Nat} {d : D} (h : (env0 n ds)[i]? = some (some d)) : ds[i]? = some d := by
  unfold env0 at h
  by_cases hi : i < ds.length
  · rw [List.getElem?_append_left (by simpa using hi), List.getElem?_map] at h
    cases e : ds[i]? with
    | none => rw [e] at h; cases h
    | some x => rw [e] at h; cases h; rfl
  · rw [List.getElem?_append_right (by simpa using hi), List.getElem?_replicate] at h
    split at h <;> cases h
theorem start_get {N : List Str} {vs : List V} {i : Nat} {v : V} (h : vs[i]? = some v) : (start N vs)[i]? = some (some v) := by
  unfold L2.start
  rw [List.getElem?_append_left (by simpa using lt_of_get h), List.getElem?_map, h]
  rfl
theorem ok0 {K : PySem.W.Frag} {G H : Hp} {N : List Str} {vs : List V} {ds : List D} (sub : Same G H) (r : RpA K G vs ds) (hn : ds.length ≤ N.length) : StOk K H ([], N.length) [] G (env0 N.length ds) (start N vs) H := by
  have hvl := r.length
  refine ⟨sub, fun a o h _ => h, fun a o h => ⟨o, h, id⟩, ?_, fun i d e _ => ?_, ⟨fun _ => [], fun i z => absurd z (List.not_mem_nil), fun i z => absurd z (List.not_mem_nil)⟩, fun q z => absurd z (List.not_mem_nil), fun x z => ?_, ?_⟩
  · unfold env0 L2.start
    simp only [List.length_append, List.length_map, List.length_replicate]
    omega
  · obtain ⟨v, hv, rv⟩ := r.get (env0_get e)
    exact ⟨v, start_get hv, rv⟩
  · obtain ⟨q, z, _⟩ := z
    cases z
  · unfold L2.start
    simp only [List.length_append, List.length_map, List.length_replicate]
    omega
theorem ok1 {K : PySem.W.Frag} {G H : Hp} {N : List Str} {va vb : List V} {da db : List D} {p : Addr} {dt : D} {os : Os} {k : Nat} (sub : Same G H) (ra : RpA K G va da) (c : CellO K G p dt os) (h : Held G H os) (rb : RpA K G vb db) (hk : va.length = k) (hn : da.length + db.length + 1 ≤ N.length) :
    StOk K H ([(k, p, dm os)], N.length) [k] G (env0 N.length (da ++ dt :: db)) (start N (va ++ .ref p :: vb)) H := by
  have h1 := ra.length
  have h2 := rb.length
  have e1 : (env0 N.length (da ++ dt :: db))[k]? = some (some dt) := by
    unfold env0
    rw [List.map_append, List.append_assoc, List.getElem?_append_right (by simp only [List.length_map]; omega), List.length_map, show k - da.length = 0 by omega]
    rfl
  have s1 : (start N (va ++ .ref p :: vb))[k]? = some (some (.ref p)) := start_get (by rw [List.getElem?_append_right (by omega), show k - va.length = 0 by omega]; rfl)
  refine ⟨sub, fun a o h _ => h, fun a o h => ⟨o, h, id⟩, ?_, fun i d e n1 => ?_, ⟨fun _ => os, fun i hi => ?_, fun i hi j hj ij => ?_⟩, fun q hq => ?_, fun x hx => ?_, ?_⟩
  · unfold env0 L2.start
    simp only [List.length_append, List.length_map, List.length_replicate, List.length_cons]
    omega
  · have hh := env0_get e
    have nk : i ≠ k := fun z => n1 (by rw [z]; exact List.mem_singleton.mpr rfl)
    rcases Nat.lt_or_ge i k with hlt | hge
    · rw [List.getElem?_append_left (by omega)] at hh
      obtain ⟨v, hv, rv⟩ := ra.get hh
      exact ⟨v, start_get (by rw [List.getElem?_append_left (by omega)]; exact hv), rv⟩
    · obtain ⟨m, rfl⟩ : ∃ m, i = k + 1 + m := ⟨i - (k + 1), by omega⟩
      rw [List.getElem?_append_right (by omega), show k + 1 + m - da.length = m + 1 by omega, List.getElem?_cons_succ] at hh
      obtain ⟨v, hv, rv⟩ := rb.get hh
      exact ⟨v, start_get (by rw [List.getElem?_append_right (by omega), show k + 1 + m - va.length = m + 1 by omega, List.getElem?_cons_succ]; exact hv), rv⟩
  · have z : i = k := List.mem_singleton.mp hi
    subst z
    exact ⟨p, dt, e1, s1, c, h, fun x hx => .inr ⟨_, List.mem_singleton.mpr rfl, rfl, hx⟩⟩
  · exact absurd ((List.mem_singleton.mp hi).trans (List.mem_singleton.mp hj).symm) ij
  · rw [List.mem_singleton.mp hq]
    exact ⟨List.mem_singleton.mpr rfl, s1⟩
  · obtain ⟨q, hq, hx⟩ := hx
    rw [List.mem_singleton.mp hq] at hx
    obtain ⟨o, h3, h4, h5⟩ := h.there hx
    exact ⟨⟨o, h3, h5⟩, h4⟩
  · unfold L2.start
    simp only [List.length_append, List.length_map, List.length_replicate, List.length_cons]
    omega
theorem does_of {K : PySem.W.Frag} {G H : Hp} {p : Addr} {os : Os} {k n : Nat} {own : List Nat} {G' H' : Hp} {σ' : L2.St} {e2 : Env} {d2 : D} (g : Gr H G G') (ok' : StOk K H ([(k, p, dm os)], n) own G' e2 σ' H') (hd : e2[k]? = some (some d2)) : ∃ os', Does K G H os G' H' p d2 os' := by
  obtain ⟨h1, h3⟩ := ok'.par (k, p, dm os) (List.mem_singleton.mpr rfl)
  obtain ⟨q, d, os', e, e3, c, h, z, _⟩ := ok'.open h1
  rw [hd] at e
  cases e
  rw [h3] at e3
  cases e3
  refine ⟨os', g.1, ok'.sub, fun x o hx n => ok'.fr x o hx fun ⟨q, hq, y⟩ => ?_, ok'.dom, g.2, c, h, fun x hx => ?_⟩
  · rw [List.mem_singleton.mp hq] at y
    exact n y
  · rcases z x hx with y | ⟨q, hq, _, y⟩
    · exact .inr y
    · rw [List.mem_singleton.mp hq] at y
      exact .inl y
section
variable {P : Program} {w : World} {K : PySem.W.Frag} {mg : Str → Option Value} {base : Heap} {cl : Nat → Addr}
theorem okN {x qual : Str} {st : Stmt} {f : Addr} {fd : FuncData} {N ps : List Str} {k : Nat} {sp : Sp} (F : Fun K x qual st f fd) (S : FnScope N ps (defScope st)) (hl : ∀ vs H Q E, sp vs H Q E → vs.length = ps.length)
    (hb : ∀ (cdv : Value) (A : Around) (outer : List PySem.Env) (s : Shared) (H : Hp) (vs : List V) (Q : VK) (E : XK), Room k (A.deeper (envOfC qual (defScope st) s.heap.objs.size f cdv)) → sp vs H Q E →
      ∃ t, PSs (cxOf (L2N.CX P w) P w K mg base N qual (defScope st) f cdv A outer s H E) (defBody st) t ∧ t { nx := fun _ H' => Q .non H', rt := Q } (start N vs) H) : FnOk P w K mg base (L2N.CX P w) (k + 1) f fd ps sp := by
  obtain ⟨_, _, _, _, _, _, cdv, _, _, rfl, l1, l2⟩ := F.ex
  exact fn_of l1 l2 S hl fun A outer s H vs Q E h1 h2 => hb cdv A outer s H vs Q E h1 h2
theorem fnP {x qual : Str} {st : Stmt} {f : Addr} {fd : FuncData} {N ps : List Str} {k n : Nat} {F : List D → R D} {body : Env → R (Fl × Env)} {oN : List Nat} (Fu : Fun K x qual st f fd) (S : FnScope N ps (defScope st)) (hn : ps.length = n) (hF : ∀ ds, ds.length = n → F ds = fin (body (env0 N.length ds)))
    (hb : ∀ (cdv : Value) (A : Around) (outer : List PySem.Env) (s : Shared) (H : Hp) (E : XK), Room k (A.deeper (envOfC qual (defScope st) s.heap.objs.size f cdv)) →
      ∃ t, DSs (cxOf (L2N.CX P w) P w K mg base N qual (defScope st) f cdv A outer s H E) [] [] oN [] (fun cls d _ H' => E cls d H') cl (defBody st) t body) :
    FnOk P w K mg base (L2N.CX P w) (k + 1) f fd ps (spP K cl n F) := by
  have hnN : n ≤ N.length := by
    have := congrArg List.length S.pre
    rw [List.length_take] at this
    omega
  refine okN Fu S (fun vs H Q E h => (spP.len vs H Q E h).trans hn.symm) fun cdv A outer s H vs Q E hr h => ?_
  obtain ⟨G, ds, sub, r, hl, ans⟩ := h
  obtain ⟨t, dd⟩ := hb cdv A outer s H E hr
  have hvl : vs.length = n := r.length.trans hl
  have ok : StOk K H ([], N.length) [] G (env0 N.length ds) (start N vs) H := ok0 sub r (by omega)
  refine ⟨t, dd.pe, dd.ev.run (P := ([], N.length)) rfl ok ?_⟩
  rw [hF ds hl] at ans
  have np : ∀ a, ¬ Par.is ([], N.length) a := fun a ⟨i, z, _⟩ => by cases z
  have sm : ∀ H', Frm H ([], N.length) H' → Same H H' := fun H' fr a o h => fr a o h (np a)
  cases e : body (env0 N.length ds) with
  | bad => rw [e] at ans; exact ans
  | err c =>
    rw [e] at ans
    exact fun σ' H' _ fr => ans H' (sm H' fr)
  | ok rr =>
    rw [e] at ans
    obtain ⟨fl, e1⟩ := rr
    cases fl with
    | nx => exact fun G' σ' H' g' ok' => ans G' H' .non ⟨g'.1, ok'.sub, sm H' ok'.fr, g'.2⟩ .non
    | rt d => exact fun G' σ' H' v g' ok' rv => ans G' H' v ⟨g'.1, ok'.sub, sm H' ok'.fr, g'.2⟩ rv
    | bk => exact ans.elim
    | ct => exact ans.elim
theorem fnK {x qual : Str} {st : Stmt} {f : Addr} {fd : FuncData} {N ps : List Str} {kk k n : Nat} {F : List D → R (D × D)} {body : Env → R (Fl × Env)} {oN : List Nat} (Fu : Fun K x qual st f fd) (S : FnScope N ps (defScope st)) (hn : ps.length = n) (hF : ∀ ds, ds.length = n → F ds = finK k (body (env0 N.length ds))) (ho : k ∈ oN)
    (hb : ∀ (cdv : Value) (A : Around) (outer : List PySem.Env) (s : Shared) (H : Hp) (E : XK), Room kk (A.deeper (envOfC qual (defScope st) s.heap.objs.size f cdv)) →
      ∃ t, DSs (cxOf (L2N.CX P w) P w K mg base N qual (defScope st) f cdv A outer s H E) [k] [k] oN [k] (fun cls d _ H' => E cls d H') cl (defBody st) t body) :
    FnOk P w K mg base (L2N.CX P w) (kk + 1) f fd ps (spT K cl k n F) := by
  have hnN : n ≤ N.length := by
    have := congrArg List.length S.pre
    rw [List.length_take] at this
    omega
  refine okN Fu S (fun vs H Q E h => (spT.len vs H Q E h).trans hn.symm) fun cdv A outer s H vs Q E hr h => ?_
  obtain ⟨G, va, p, vb, da, dt, db, os, rfl, hk, sub, ra, c, hd, rb, hl, ans⟩ := h
  obtain ⟨t, dd⟩ := hb cdv A outer s H E hr
  have ok : StOk K H ([(k, p, dm os)], N.length) [k] G (env0 N.length (da ++ dt :: db)) (start N (va ++ .ref p :: vb)) H := ok1 sub ra c hd rb hk (by omega)
  refine ⟨t, dd.pe, dd.ev.run (P := ([(k, p, dm os)], N.length)) rfl ok ?_⟩
  rw [hF _ (by rw [List.length_append, List.length_cons]; omega)] at ans
  have sm : ∀ H', Frm H ([(k, p, dm os)], N.length) H' → ∀ b o, b ∉ dm os → H b = some o → H' b = some o := fun H' fr b o nb h => fr b o h fun ⟨q, hq, z⟩ => by
    rw [List.mem_singleton.mp hq] at z
    exact nb z
  cases e : body (env0 N.length (da ++ dt :: db)) with
  | bad => rw [e] at ans; exact ans
  | err c =>
    rw [e] at ans
    exact fun σ' H' _ fr => ans H' (sm H' fr)
  | ok rr =>
    rw [e] at ans
    obtain ⟨fl, e2⟩ := rr
    cases fl with
    | nx =>
      intro G' σ' H' g' ok'
      obtain ⟨d2, hd2⟩ := ok'.all k ho
      have ans' : Ans (match e2[k]? with | some (some t) => R.ok (PyData.none, t) | _ => R.bad) _ _ := ans
      have hd3 : e2[k]? = some (some d2) := hd2
      rw [hd3] at ans'
      obtain ⟨os', x⟩ := does_of g' ok' hd2
      exact ans' G' H' .non os' x .non
    | rt d =>
      intro G' σ' H' v g' ok' rv
      obtain ⟨d2, hd2⟩ := ok'.all k (List.mem_singleton.mpr rfl)
      have ans' : Ans (match e2[k]? with | some (some t) => R.ok (d, t) | _ => R.bad) _ _ := ans
      have hd3 : e2[k]? = some (some d2) := hd2
      rw [hd3] at ans'
      obtain ⟨os', x⟩ := does_of g' ok' hd2
      exact ans' G' H' v os' x rv
    | bk => exact ans.elim
    | ct => exact ans.elim
theorem finT_eq (r : R (Fl × Env)) : finT r = finK 1 r := by
  unfold finT finK
  rcases r with ⟨f, e⟩ | c | _
  · cases f <;> rfl
  · rfl
  · rfl
theorem fnT {x qual : Str} {st : Stmt} {f : Addr} {fd : FuncData} {N ps : List Str} {k n : Nat} {F : List D → R (D × D)} {body : Env → R (Fl × Env)} {oN : List Nat} (Fu : Fun K x qual st f fd) (S : FnScope N ps (defScope st)) (hn : ps.length = n) (hF : ∀ ds, ds.length = n → F ds = finT (body (env0 N.length ds))) (ho : 1 ∈ oN)
    (hb : ∀ (cdv : Value) (A : Around) (outer : List PySem.Env) (s : Shared) (H : Hp) (E : XK), Room k (A.deeper (envOfC qual (defScope st) s.heap.objs.size f cdv)) →
      ∃ t, DSs (cxOf (L2N.CX P w) P w K mg base N qual (defScope st) f cdv A outer s H E) [1] [1] oN [1] (fun cls d _ H' => E cls d H') cl (defBody st) t body) :
    FnOk P w K mg base (L2N.CX P w) (k + 1) f fd ps (spT K cl 1 n F) := fnK Fu S hn (fun ds h => (hF ds h).trans (finT_eq _)) ho hb
end

/-! ### raise of an own error without an __init__ -/
section
variable {X : Cx} {tw : List Nat} {own oN oL : List Nat} {W : WX} {cl : Nat → Addr}
theorem ds_raise {k : Nat} {x m : Str} {j : Nat} {p p2 pos pos2 : Pos} {bmB : List Value} {B newId initId : String} (F : ExcBaseFacts B newId initId bmB) (q : PySem.W.excIn X.K (cl k) bmB newId = true) (gC : X.mg x = some (.ref (cl k))) (kC : PySem.W.keepIn X.K (.ref (cl k)) = true) (r : Raises X (.ref (cl k))) (tk : L2N.Takes X W) (hc : X.calm = true := by rfl) (hg : Gl X x := by rfl) (hdb : (x == ("__debug__" : Str)) = false := by decide) :
    DS X tw own oN oL W cl (.Raise (some (.Call (.Name x p) [.Constant (.str m) j p2] [] pos)) none pos2) (fun _ σ H => W (.ref (cl k)) none σ H) (raiseS k) :=
  ⟨L2N.ps_raise hc tk (L2N.pmk_own F q gC kC r hg hdb), EvS.of fun H0 P G env σ H E hp ok ans => ans σ H ok.ln ok.fr⟩
end
end Hz

namespace Hz
open PySem PySem.Spec PyProof.Rows L2

/-! ### several values at once, some of them new objects of ours (k = true) -/
def EvNo (K : PySem.W.Frag) (tw : List Nat) (own : List Nat) (W : WX) (cl : Nat → Addr) (t : TE) (f : Env → R (D × Env)) : Prop :=
  ∀ (H0 : Hp) (P : Par) (G : Hp) (env : Env) (σ : L2.St) (H : Hp) (Q : VK), P.1.map (·.1) = tw → StOk K H0 P own G env σ H →
    Ans (f env) (fun a => ∀ G1 H1 G' H' p os, Gr H0 G G1 → StOk K H0 P own G1 a.2 σ H1 → Grow G1 H1 G' H' → (∀ x ∈ dm os, H1 x = none) → CellO K G' p a.1 os → Held G' H' os → Q (.ref p) H') (fun c => ∀ H', Frm H0 P H' → W (.ref (cl c)) none σ H') → t σ H Q
structure DNo (X : Cx) (tw : List Nat) (own : List Nat) (W : WX) (cl : Nat → Addr) (e : Expr) (t : TE) (f : Env → R (D × Env)) : Prop where
  pe : PE X e t
  ev : EvNo X.K tw own W cl t f
theorem EvN.toNo {K : PySem.W.Frag} {tw : List Nat} {own : List Nat} {W : WX} {cl : Nat → Addr} {t : TE} {f : Env → R (D × Env)} (h : EvN K tw own W cl t f) : EvNo K tw own W cl t f := fun H0 P G env σ H Q hp ok ans => by
  refine h H0 P G env σ H Q hp ok (ans.mono (fun a ha G1 H1 p o g1 ok1 np c => ?_) fun _ h => h)
  obtain ⟨o', c1, h1⟩ := c.os
  refine ha G1 H1 G1 _ p _ g1 ok1 (Grow.drop ok1.sub np) (fun x hx => ?_) c1 h1
  rw [List.mem_singleton.mp hx]
  exact np
theorem EvNo.toI {K : PySem.W.Frag} {tw : List Nat} {own : List Nat} {W : WX} {cl : Nat → Addr} {t : TE} {f : Env → R (D × Env)} (h : EvNo K tw own W cl t f) : EvI K tw own W cl t f := fun H0 P G env σ H Q hp ok ans => by
  refine h H0 P G env σ H Q hp ok (ans.mono (fun a ha G1 H1 G' H' p os g1 ok1 g hf c hd => ?_) fun _ h => h)
  have gg : Grow G1 H1 (addO G' os) H' := ⟨fun x o hx => ?_, fun x o hx => ?_, g.hh, fun x o hx n => ?_⟩
  · refine ha (addO G' os) H' _ (g1.trans (gg.gr ok1)) (ok1.grow gg) (c.rp (fun x o hx => ?_) fun x o m => addO_in hd.nd m)
    rw [addO_out fun m => ?_]
    · exact hx
    · obtain ⟨u, _, h2, _⟩ := hd.there m
      rw [h2] at hx
      cases hx
  · rw [addO_out fun m => ?_]
    · exact g.gg x o hx
    · obtain ⟨u, _, h2, _⟩ := hd.there m
      have := g.gg x o hx
      rw [h2] at this
      cases this
  · by_cases m : x ∈ dm os
    · obtain ⟨u, hu⟩ := dm_mem.mp m
      rw [addO_in hd.nd hu] at hx
      cases hx
      exact (hd.at_ _ _ hu).1
    · rw [addO_out m] at hx
      exact g.gh x o hx
  · rw [addO_out fun m => (by rw [hf x m] at hx; cases hx)]
    exact g.new x o hx n
def Mix (K : PySem.W.Frag) (G H : Hp) : List Bool → List V → List D → List Os → Prop
  | [], [], [], [] => True
  | false :: ks, v :: vs, d :: ds, oss => Rp K G v d ∧ Mix K G H ks vs ds oss
  | true :: ks, v :: vs, d :: ds, os :: oss => (∃ p, v = .ref p ∧ CellO K G p d os ∧ Held G H os) ∧ Mix K G H ks vs ds oss
  | _, _, _, _ => False
def EvM (K : PySem.W.Frag) (tw : List Nat) (own : List Nat) (W : WX) (cl : Nat → Addr) (ks : List Bool) (t : TA) (f : Env → R (List D × Env)) : Prop :=
  ∀ (H0 : Hp) (P : Par) (G : Hp) (env : Env) (σ : L2.St) (H : Hp) (Q : List V → Hp → Prop), P.1.map (·.1) = tw → StOk K H0 P own G env σ H →
    Ans (f env) (fun a => ∀ G' H' vs oss, Gr H0 G G' → StOk K (addO H0 oss.flatten) P own G' a.2 σ H' → (∀ x ∈ dm oss.flatten, H0 x = none ∧ ¬ P.is x) → (dm oss.flatten).Nodup → Mix K G' H' ks vs a.1 oss → Q vs H') (fun c => ∀ H', Frm H0 P H' → W (.ref (cl c)) none σ H') → t σ H Q
structure DM (X : Cx) (tw : List Nat) (own : List Nat) (W : WX) (cl : Nat → Addr) (ks : List Bool) (es : List Expr) (t : TA) (f : Env → R (List D × Env)) : Prop where
  pe : PA X es t
  ev : EvM X.K tw own W cl ks t f
section
variable {K : PySem.W.Frag} {tw : List Nat} {own : List Nat} {W : WX} {cl : Nat → Addr} {ks : List Bool} {te : TE} {fe : Env → R (D × Env)} {tA : TA} {fA : Env → R (List D × Env)}
theorem EvM.nil : EvM K tw own W cl [] tNil nilA := fun H0 P G env σ H Q hp ok ans => ans G H [] [] Gr.refl ok (fun x hx => by cases hx) List.nodup_nil trivial
theorem EvM.val (h : EvI K tw own W cl te fe) (hs : EvM K tw own W cl ks tA fA) : EvM K tw own W cl (false :: ks) (tCons te tA) (consA fe fA) := fun H0 P G env σ H Q hp ok ans => by
  refine h H0 P G env σ H _ hp ok (ans.bind.mono (fun a ha G1 H1 x g1 ok1 rx => ?_) fun _ h => h)
  refine hs H0 P G1 a.2 σ H1 _ hp ok1 (ha.bind.mono (fun b hb G2 H2 ys oss g2 ok2 hn nd m => ?_) fun _ h => h)
  exact hb G2 H2 (x :: ys) oss (g1.trans g2) ok2 hn nd (by cases oss <;> exact ⟨rx.mono g2.1, m⟩)
theorem EvM.newO (h : EvNo K tw own W cl te fe) (hs : EvM K tw own W cl ks tA fA) : EvM K tw own W cl (true :: ks) (tCons te tA) (consA fe fA) := fun H0 P G env σ H Q hp ok ans => by
  refine h H0 P G env σ H _ hp ok (ans.bind.mono (fun a ha G0 H1 G1 H1' p os g1 ok1 g hf c hd => ?_) fun _ h => h)
  have h0 : ∀ x ∈ dm os, H0 x = none := fun x hx => ok1.h0 (hf x hx)
  have nP : ∀ x ∈ dm os, ¬ P.is x := fun x hx => ok1.noP (h0 x hx)
  have okh : StOk K (addO H0 os) P own G1 a.2 σ H1' := ok1.layO g hf hd
  have up : ∀ a' o', H0 a' = some o' → addO H0 os a' = some o' := fun a' o' h1 => by
    rw [addO_out fun z => (by rw [h0 a' z] at h1; cases h1)]
    exact h1
  refine hs (addO H0 os) P G1 a.2 σ H1' _ hp okh (ha.bind.mono (fun b hb G2 H2 ys oss g2 ok2 hn nd m => ?_) fun k h H' fr => h H' fun a' o' h1 h2 => fr a' o' (up a' o' h1) h2)
  have gr : Gr H0 G1 G2 := ⟨g2.1, fun b' o' h' n' => g2.2 b' o' (up b' o' h') n'⟩
  have dj : ∀ x ∈ dm os, x ∉ dm oss.flatten := fun x hx hz => by
    obtain ⟨o, ho⟩ := dm_mem.mp hx
    have := (hn x hz).1
    rw [addO_in hd.nd ho] at this
    cases this
  have nd2 : (dm (os ++ oss.flatten)).Nodup := by
    rw [dm_append, List.nodup_append]
    exact ⟨hd.nd, nd, fun x hx y hy z => dj x hx (z ▸ hy)⟩
  refine hb G2 H2 (.ref p :: ys) (os :: oss) ((g1.trans (g.gr ok1)).trans gr) ?_ (fun x hx => ?_) nd2 ⟨⟨p, rfl, c.mono g2.1, ⟨fun x o hx => ⟨?_, ?_, (hd.at_ x o hx).2.2⟩, hd.nd⟩⟩, m⟩
  · rw [List.flatten_cons, ← addO_comm nd2]
    exact ok2
  · rw [List.flatten_cons, dm_append] at hx
    rcases List.mem_append.mp hx with hx | hx
    · exact ⟨h0 x hx, nP x hx⟩
    · refine ⟨?_, (hn x hx).2⟩
      have := (hn x hx).1
      rw [addO_out fun z => dj x z hx] at this
      exact this
  · have hm := dm_mem.mpr ⟨o, hx⟩
    refine ok2.fr x o ?_ (nP x hm)
    rw [addO_out (dj x hm)]
    exact addO_in hd.nd hx
  · exact (g2.2 x o (addO_in hd.nd hx) (hd.at_ x o hx).2.2).trans (hd.at_ x o hx).2.1
theorem EvM.new (h : EvN K tw own W cl te fe) (hs : EvM K tw own W cl ks tA fA) : EvM K tw own W cl (true :: ks) (tCons te tA) (consA fe fA) := EvM.newO h.toNo hs
def putE : List Nat → List D → Env → Option Env
  | [], [], e => some e
  | i :: is, d :: ds, e => if i < e.length then putE is ds (e.set i (some d)) else none
  | _, _, _ => none
def putV : List Nat → List V → L2.St → L2.St
  | i :: is, v :: vs, σ => putV is vs (σ.set i (some v))
  | _, _, σ => σ
def ownK : List Bool → List Nat → List Nat → List Nat
  | true :: ks, i :: is, own => ownK ks is (i :: own)
  | false :: ks, _ :: is, own => ownK ks is own
  | _, _, own => own
def okK (tw : List Nat) : List Bool → List Nat → List Nat → Bool
  | true :: ks, i :: is, own => decide (i ∉ tw) && !own.contains i && okK tw ks is (i :: own)
  | false :: ks, i :: is, own => !own.contains i && okK tw ks is own
  | [], [], _ => true
  | _, _, _ => false
theorem Mix.put {H0 : Hp} {P : Par} {G H : Hp} (hp : P.1.map (·.1) = tw) : ∀ {ks : List Bool} {is : List Nat} {own : List Nat} {vs : List V} {ds : List D} {oss : List Os} {env env' : Env} {σ : L2.St}, okK tw ks is own = true → StOk K (addO H0 oss.flatten) P own G env σ H → (∀ x ∈ dm oss.flatten, H0 x = none ∧ ¬ P.is x) → (dm oss.flatten).Nodup → Mix K G H ks vs ds oss → putE is ds env = some env' →
    StOk K H0 P (ownK ks is own) G env' (putV is vs σ) H
  | [], [], own, vs, ds, oss, env, env', σ, _, ok, _, _, m, e => by
    cases vs <;> cases ds <;> cases oss <;> first | exact m.elim | skip
    cases e
    exact ok
  | [], _ :: _, _, _, _, _, _, _, _, h, _, _, _, _, _ => by simp [okK] at h
  | true :: _, [], _, _, _, _, _, _, _, h, _, _, _, _, _ => by simp [okK] at h
  | false :: _, [], _, _, _, _, _, _, _, h, _, _, _, _, _ => by simp [okK] at h
  | false :: ks, i :: is, own, vs, ds, oss, env, env', σ, h, ok, hn, nd, m, e => by
    cases vs with
    | nil => cases ds <;> cases oss <;> exact m.elim
    | cons v vs =>
      cases ds with
      | nil => cases oss <;> exact m.elim
      | cons d ds =>
        have m' : Rp K G v d ∧ Mix K G H ks vs ds oss := by cases oss <;> exact m
        obtain ⟨r, m⟩ := m'
        simp only [okK, Bool.and_eq_true, Bool.not_eq_true'] at h
        have hi : i ∉ own := fun z => by
          have := h.1
          rw [List.contains_iff_mem.mpr z] at this
          cases this
        simp only [putE] at e
        split at e
        · exact Mix.put (ks := ks) (is := is) (own := own) (vs := vs) (ds := ds) hp h.2 (ok.set r hi) hn nd m e
        · cases e
  | true :: ks, i :: is, own, vs, ds, oss, env, env', σ, h, ok, hn, nd, m, e => by
    cases vs with
    | nil => cases ds <;> cases oss <;> exact m.elim
    | cons v vs =>
      cases ds with
      | nil => cases oss <;> exact m.elim
      | cons d ds =>
        cases oss with
        | nil => exact m.elim
        | cons os oss =>
          obtain ⟨⟨p, rfl, c, hd⟩, m⟩ := m
          simp only [okK, Bool.and_eq_true, Bool.not_eq_true', decide_eq_true_eq] at h
          obtain ⟨⟨ht, hc⟩, h2⟩ := h
          have hi : i ∉ own := fun z => by
            rw [List.contains_iff_mem.mpr z] at hc
            cases hc
          rw [List.flatten_cons] at ok hn nd
          rw [dm_append] at nd
          rw [List.nodup_append] at nd
          simp only [putE] at e
          split at e
          · rename_i hil
            rw [addO_append] at ok
            have ok' := ok.takeO c hd (fun x hx => ⟨?_, (hn x (by rw [dm_append]; exact List.mem_append_left _ hx)).2⟩) hi (par_ne hp ht) hil
            · exact Mix.put (ks := ks) (is := is) (own := i :: own) (vs := vs) (ds := ds) (oss := oss) hp h2 ok' (fun x hx => hn x (by rw [dm_append]; exact List.mem_append_right _ hx)) nd.2.1 m e
            · rw [addO_out fun z => nd.2.2 x hx x z rfl]
              exact (hn x (by rw [dm_append]; exact List.mem_append_left _ hx)).1
          · cases e
def parS (is : List Nat) (a : Env → R (List D × Env)) : Env → R (Fl × Env) := fun e => (a e).bind fun x => (lift (putE is x.1 x.2)).bind fun e' => .ok (.nx, e')
end
section
variable {X : Cx} {tw : List Nat} {own oL : List Nat} {W : WX} {cl : Nat → Addr} {ks : List Bool} {e : Expr} {es : List Expr} {te : TE} {fe : Env → R (D × Env)} {tA : TA} {fA : Env → R (List D × Env)}
theorem dm_nil : DM X tw own W cl [] [] tNil nilA := ⟨pa_nil, EvM.nil⟩
theorem dm_new (h : DN X tw own W cl e te fe) (hs : DM X tw own W cl ks es tA fA) (hst : starEach (e :: es) X.env = (false, eval e X.env) :: starEach es X.env := by rfl) : DM X tw own W cl (true :: ks) (e :: es) (tCons te tA) (consA fe fA) := ⟨pa_cons h.pe hs.pe hst, EvM.new h.ev hs.ev⟩
theorem Mix.grow {K : PySem.W.Frag} {G H : Hp} {T : Addr} {o : HO} (hT : H T = none) : ∀ {ks : List Bool} {vs : List V} {ds : List D} {oss : List Os}, Mix K G H ks vs ds oss → Mix K G (upd H T o) ks vs ds oss
  | [], [], [], [], _ => trivial
  | false :: ks, v :: vs, d :: ds, oss, h => by
    have h' : Rp K G v d ∧ Mix K G H ks vs ds oss := by cases oss <;> exact h
    have r : Rp K G v d ∧ Mix K G (upd H T o) ks vs ds oss := ⟨h'.1, Mix.grow hT h'.2⟩
    cases oss <;> exact r
  | true :: ks, v :: vs, d :: ds, os :: oss, h => by
    obtain ⟨⟨q, e, c, hd⟩, h2⟩ := h
    refine ⟨⟨q, e, c, hd.mono (fun x m => (hd.there m).choose_spec.2.1) fun x u m => ?_⟩, Mix.grow hT h2⟩
    have := (hd.at_ x u m).1
    rw [upd_ne (ne_of_none this hT)]
    exact this
theorem Mix.len {K : PySem.W.Frag} {G H : Hp} : ∀ {ks : List Bool} {vs : List V} {ds : List D} {oss : List Os}, Mix K G H ks vs ds oss → vs.length = ds.length
  | [], [], [], [], _ => rfl
  | false :: ks, v :: vs, d :: ds, oss, h => by
    have h' : Rp K G v d ∧ Mix K G H ks vs ds oss := by cases oss <;> exact h
    simp [Mix.len h'.2]
  | true :: ks, v :: vs, d :: ds, os :: oss, h => by simp [Mix.len h.2]
theorem putE_len : ∀ {is : List Nat} {ds : List D} {e e' : Env}, putE is ds e = some e' → is.length = ds.length
  | [], [], _, _, _ => rfl
  | [], _ :: _, _, _, h => by cases h
  | _ :: _, [], _, _, h => by cases h
  | i :: is, d :: ds, e, e', h => by
    simp only [putE] at h
    split at h
    · simp [putE_len h]
    · cases h
theorem ds_parG2 {i j : Nat} {x y : Str} {a b : Expr} {px py pt pos : Pos} {kt k2 pt2} (nd : X.N.Nodup) (ha : DM X tw own W cl ks [a, b] tA fA) (hx : Loc X.env.scope x := by first | exact Or.inl rfl | exact Or.inr rfl) (hy : Loc X.env.scope y := by first | exact Or.inl rfl | exact Or.inr rfl) (hk : okK tw ks [i, j] own = true := by rfl) (hi : X.N[i]? = some x := by rfl) (hj : X.N[j]? = some y := by rfl)
    (hs : swapsWithSole [.Tuple [.Name x px, .Name y py] kt pt] (.Tuple [a, b] k2 pt2) pos.line X.env = pure false := by rfl) (hw : swappedStores [.Tuple [.Name x px, .Name y py] kt pt] (.Tuple [a, b] k2 pt2) X.env = pure none := by rfl) (h1 : (assignEach [.Tuple [.Name x px, .Name y py] kt pt] X.env).map (·.2) = [assign (.Tuple [.Name x px, .Name y py] kt pt) X.env] := by rfl)
    (hh1 : (assignEach [.Name x px, .Name y py] X.env).map (·.2) = assign (.Name x px) X.env :: (assignEach [.Name y py] X.env).map (·.2) := by rfl) (hh2 : (assignEach [.Name y py] X.env).map (·.2) = assign (.Name y py) X.env :: (assignEach [] X.env).map (·.2) := by rfl) (hn : (assignEach [.Name x px, .Name y py] X.env).length = 2 := by rfl) (hst : (assignEach [.Name x px, .Name y py] X.env).findIdx? (·.1) = none := by rfl)
    (hfx : X.fn x = true ∨ X.env.scope.names.lookup x = some .local := by first | exact .inl rfl | exact .inr rfl) (hfy : X.fn y = true ∨ X.env.scope.names.lookup y = some .local := by first | exact .inl rfl | exact .inr rfl) (hc : X.calm = true := by rfl) :
    DS X tw own (ownK ks [i, j] own) oL W cl (.Assign [.Tuple [.Name x px, .Name y py] kt pt] (.Tuple [a, b] k2 pt2) pos) (tAsg (tTup tA) (gTup X.K 2 (gCons (gName i) (gCons (gName j) gNil)))) (parS [i, j] fA) :=
  ⟨ps_asg (pe_tup ha.pe) (pg_tup hc (pgs_cons (pg_name nd hi hx hfx) (pgs_cons (pg_name nd hj hy hfy) pgs_nil hh2) hh1) hn hst) hs hw h1, EvS.of fun H0 P G env σ H E hp ok ans => by
    refine ha.ev H0 P G env σ H _ hp ok (ans.bind.mono (fun r hr G1 H1 vs oss g1 ok1 hn nd m => ?_) fun c h H' fr => h σ H' ok.ln fr)
    obtain ⟨e', ee, q⟩ := ans_lift hr
    have hl : vs.length = 2 := m.len.trans (putE_len ee).symm
    refine ⟨by rw [hl]; exact sz100 (by decide), fun T nT => ⟨T, vs, rfl, SqT.of upd_same, hl, ?_⟩⟩
    have fin := Mix.put hp hk (ok1.grow (Grow.drop (o := .tup vs) ok1.sub nT)) hn nd (m.grow (o := .tup vs) nT) ee
    match vs, hl with
    | [v, w], _ => exact ⟨v, [w], rfl, w, [], rfl, rfl, q G1 _ _ g1 fin⟩⟩
theorem ds_setLc (i : Nat) {y : Str} {py pos spos : Pos} {tg elt iter : Expr} {ifs : List Expr} {scope : Scope} {ow : List (Str × Nat)} {vs : List Nat} {sl : List Nat} {wi : TI} {gt : Shared → Hp → Addr → List (Str × Addr) → List Addr → TG} {tt : Shared → Hp → Addr → List (Str × Addr) → List Addr → TT} {te : Shared → Hp → Addr → List (Str × Addr) → List Addr → TE} {bd : D → Env → Option Env} {fi : Env → R (List D × Env)} {ft : Env → R (Bool × Env)} {fe : Env → R (D × Env)} (nd : X.N.Nodup) (hi : DIt X tw own W cl tg iter wi fi) (ok : BlkOk X.N X.env.scope scope ow)
    (hg : ∀ (s : Shared) (H : Hp) (C : Addr) (cl' : List (Str × Addr)) (fp : List Addr), DG (X.blk s H scope (compEnvC scope cl' C X.env) fp) own sl tg (gt s H C cl' fp) bd)
    (ht : ∀ (s : Shared) (H : Hp) (C : Addr) (cl' : List (Str × Addr)) (fp : List Addr), DTs (X.blk s H scope (compEnvC scope cl' C X.env) fp) tw own WF cl ifs (tt s H C cl' fp) ft)
    (he : ∀ (s : Shared) (H : Hp) (C : Addr) (cl' : List (Str × Addr)) (fp : List Addr), DI (X.blk s H scope (compEnvC scope cl' C X.env) fp) tw own WF cl elt (te s H C cl' fp) fe)
    (hio : i ∉ own := by decide) (hsl : ∀ i ∈ sl, i ∈ ow.map (·.2) := by decide) (hv : ∀ i ∈ ow.map (·.2), i ∉ own := by decide) (hc : X.calm = true := by rfl) (hs : ∀ x, foldedSetIterable iter X.env x = pure x := by intro _; rfl) (hy : X.N[i]? = some y := by rfl) (hyl : X.env.scope.names.lookup y = some .local := by rfl)
    (hsw : swapsWith (.ListComp elt [⟨tg, iter, ifs, 0⟩] scope pos) (some (.Name y py)) spos.line X.env = pure true := by exact sw_true rfl rfl rfl (by decide +kernel)) (hvs : ow.map (·.2) = vs := by rfl) (egt : ∀ s H C cl' fp, gt s H C cl' fp = gt X.s_0 (fun _ => none) 0 [] [] := by intros; rfl) (ett : ∀ s H C cl' fp, tt s H C cl' fp = tt X.s_0 (fun _ => none) 0 [] [] := by intros; rfl) (ete : ∀ s H C cl' fp, te s H C cl' fp = te X.s_0 (fun _ => none) 0 [] [] := by intros; rfl) :
    DS X tw own own oL W cl (.Assign [.Name y py] (.ListComp elt [⟨tg, iter, ifs, 0⟩] scope pos) spos) (tAsg (tLc wi (gt X.s_0 (fun _ => none) 0 [] []) (tt X.s_0 (fun _ => none) 0 [] []) (te X.s_0 (fun _ => none) 0 [] []) vs) (gName i)) (setS i (compD fi vs bd ft fe)) := by
  subst hvs
  have d := dn_comp (pos := pos) nd hi ok hg ht he hsl hv hc hs rfl egt ett ete
  exact ⟨ps_setLc hc nd hy hyl hsw hi.pi ok (fun s H C cl' fp => egt s H C cl' fp ▸ (hg s H C cl' fp).pg) (fun s H C cl' fp => ett s H C cl' fp ▸ (ht s H C cl' fp).pe) (fun s H C cl' fp => ete s H C cl' fp ▸ (he s H C cl' fp).pe) hs, EvS.set hio d.ev.toI⟩
end
/-! ### lengths of argument lists -/
theorem ln_nil : ∀ env r, nilA env = .ok r → r.1.length = 0 := fun env r h => by
  cases h
  rfl
theorem ln_cons {a : Env → R (D × Env)} {b : Env → R (List D × Env)} {n : Nat} (h : ∀ env r, b env = .ok r → r.1.length = n) : ∀ env r, consA a b env = .ok r → r.1.length = n + 1 := fun env r e => by
  unfold consA at e
  cases ha : a env with
  | ok x =>
    rw [ha] at e
    cases hb : b x.2 with
    | ok y =>
      have e' : (b x.2).bind (fun y => R.ok (x.1 :: y.1, y.2)) = .ok r := e
      rw [hb] at e'
      cases e'
      exact congrArg (· + 1) (h _ _ hb)
    | err c =>
      have e' : (b x.2).bind (fun y => R.ok (x.1 :: y.1, y.2)) = .ok r := e
      rw [hb] at e'
      cases e'
    | bad =>
      have e' : (b x.2).bind (fun y => R.ok (x.1 :: y.1, y.2)) = .ok r := e
      rw [hb] at e'
      cases e'
  | err c => rw [ha] at e; cases e
  | bad => rw [ha] at e; cases e
theorem ln_le {b : Env → R (List D × Env)} {n m : Nat} (h : ∀ env r, b env = .ok r → r.1.length = n) (hm : n ≤ m) : ∀ env r, b env = .ok r → r.1.length ≤ m := fun env r e => by
  rw [h env r e]
  exact hm
theorem ln_2 {b : Env → R (List D × Env)} {n : Nat} (h : ∀ env r, b env = .ok r → r.1.length = n) : ∀ env r, b env = .ok r → r.1.length + 2 = n + 2 := fun env r e => by
  rw [h env r e]

/-! ### facts of a text -/
structure FnF (K : PySem.W.Frag) (mg : Str → Option Value) (x : Str) (st : Stmt) (ps : List Str) (f : Addr) (fd : FuncData) : Prop where
  fu : Fun K x x st f fd
  bi : Binds K fd ps []
  gl : mg x = some (.ref f)
structure ExF (K : PySem.W.Frag) (mg : Str → Option Value) (x : Str) (C : Addr) (bm : List Value) : Prop where
  xi : PySem.W.excIn K C [.type "ValueError", .type "Exception", .type "BaseException", .type "object"] "ValueError.__new__" = true
  gl : mg x = some (.ref C)
  kp : PySem.W.keepIn K (.ref C) = true
  bs : PySem.W.subIn K (.ref C) (.type "BaseException") = some true
  ty : PySem.W.typeIn K (.ref C) = some (.type "type")
section
variable {P : Program} {w : World} {K : PySem.W.Frag} {mg : Str → Option Value} {base : Heap} {N : List Str} {qual : Str} {scope : Scope} {f : Addr} {cdv : Value} {A : Around} {outer : List PySem.Env} {s : Shared} {H : Hp} {E : XK}
theorem tkD : L2N.Takes (cxOf (L2N.CX P w) P w K mg base N qual scope f cdv A outer s H E) (fun cls d _ H' => E cls d H') := L2N.takes_of rfl rfl rfl rfl
theorem pwD : PassesOwn (model P w) (A.deeper (envOfC qual scope s.heap.objs.size f cdv)) (envOfC qual scope s.heap.objs.size f cdv) (cxOf (L2N.CX P w) P w K mg base N qual scope f cdv A outer s H E).xe := passes_of (X := cxOf (L2N.CX P w) P w K mg base N qual scope f cdv A outer s H E) rfl
end
theorem tkF {X : Cx} : L2N.Takes X WF := fun _ _ ⟨_, _, _, _, _, _, _, _, _, _, _, _, _, _, _, _, z⟩ => (show False from z).elim
theorem u65 {k : Nat} {A : Around} (r : Room k A) : A.units + 65 < cLine := by have := r.un; omega
section
variable {X : Cx} {tw : List Nat} {own oN oL : List Nat} {W : WX} {cl : Nat → Addr} {pos : Pos} {x : Str}
theorem de_gint {i : Int} (hm : ∃ t, X.mg x = some (.int i t)) (hg : Gl X x := by rfl) (hd : (x == ("__debug__" : Str)) = false := by decide) : DI X tw own W cl (.Name x pos) (tC (.int i)) (cD (.int i)) := by
  obtain ⟨t, h⟩ := hm
  exact de_glob h ⟨t, rfl⟩ (fun _ => .int i) hg hd
theorem de_gstr {i : Str} (hm : ∃ t, X.mg x = some (.str i t)) (hg : Gl X x := by rfl) (hd : (x == ("__debug__" : Str)) = false := by decide) : DI X tw own W cl (.Name x pos) (tC (.str i)) (cD (.str i)) := by
  obtain ⟨t, h⟩ := hm
  exact de_glob h ⟨t, rfl⟩ (fun _ => .str i) hg hd
theorem ds_raiseE {k : Nat} {x m : Str} {j : Nat} {p p2 pos2 : Pos} {bm : List Value} (e : ExF X.K X.mg x (cl k) bm) (tk : L2N.Takes X W) (hc : X.calm = true := by rfl) (hg : Gl X x := by rfl) (hdb : (x == ("__debug__" : Str)) = false := by decide) :
    DS X tw own oN oL W cl (.Raise (some (.Call (.Name x p) [.Constant (.str m) j p2] [] pos)) none pos2) (fun _ σ H => W (.ref (cl k)) none σ H) (raiseS k) :=
  ds_raise PySem.F.excBase_ValueError e.xi e.gl e.kp (raises_own e.bs e.ty) tk hc hg hdb
end
end Hz

namespace Hz
open PySem PySem.Spec PyProof.Rows L2

/-! ### new objects out of built-ins -/
def OpNN (K : PySem.W.Frag) (r : List V → Hp → VK → Prop) (g : List D → Option D) : Prop := ∀ (G H : Hp) (xs : List V) (ds : List D) (d : D) (Q : VK), Same G H → RpA K G xs ds → g ds = some d → (∀ p o, H p = none → Cell K G (upd H p o) p d → Q (.ref p) (upd H p o)) → r xs H Q
section
variable {K : PySem.W.Frag} {tw : List Nat} {own : List Nat} {W : WX} {cl : Nat → Addr} {te ta tb : TE} {fe fa fb : Env → R (D × Env)} {tA : TA} {fA : Env → R (List D × Env)}
theorem EvN.opN {r : List V → Hp → VK → Prop} {g : List D → Option D} (ho : OpNN K r g) (ha : EvA K tw own W cl tA fA) : EvN K tw own W cl (tCB r tA) (Hz.opN g fA) := fun H0 P G env σ H Q hp ok ans => by
  refine ha H0 P G env σ H _ hp ok (ans.bind.mono (fun a ha G1 H1 xs g1 ok1 rx => ?_) fun _ h => h)
  obtain ⟨d, e, q⟩ := ans_lift ha
  exact ho G1 H1 xs a.1 d Q ok1.sub rx e fun p o np c => q G1 H1 p o g1 ok1 np c
/-! ranges as lists -/
def rgD (i j : Int) : List D := (List.range (j - i).toNat).map fun k => PyData.int (i + (k : Nat))
def lrg2D : D → D → Option D
  | .int i, .int j => if -1000 ≤ i ∧ i ≤ 1000 ∧ -1000 ≤ j ∧ j ≤ 1000 then some (.list (rgD i j)) else none
  | _, _ => none
/-! dicts -/
def keyOf : D → Option Key
  | .int i => some (.inl i)
  | .str x => some (.inr x)
  | _ => none
theorem keyOf_some {d : D} {k : Key} (h : keyOf d = some k) : d = kD k := by
  cases d <;> first | (cases h; done) | skip
  · cases h; rfl
  · cases h; rfl
theorem Rp.key {G : Hp} {v : V} {k : Key} (h : Rp K G v (kD k)) : v = kV k := by
  cases k with
  | inl i => generalize e : kD (.inl i) = d at h; cases h <;> first | (cases e; rfl; done) | (cases e; done)
  | inr x => generalize e : kD (.inr x) = d at h; cases h <;> first | (cases e; rfl; done) | (cases e; done)
def keq0 : D → D → Bool
  | .int i, .int j => decide (i = j)
  | .str x, .str y => decide (x = y)
  | _, _ => false
def keqL : List D → List D → Bool
  | [], [] => true
  | a :: r, b :: t => keq0 a b && keqL r t
  | _, _ => false
def keqD : D → D → Bool
  | .tuple a, .tuple b => keqL a b
  | a, b => keq0 a b
theorem keq0_k (k k' : Key) : keq0 (kD k) (kD k') = decide (k = k') := by
  cases k <;> cases k' <;> simp [kD, keq0]
theorem keqD_k (k k' : Key) : keqD (kD k) (kD k') = decide (k = k') := by
  rw [← keq0_k]
  cases k <;> cases k' <;> rfl
def valD (ds : List (D × D)) (k : D) : Option D := match ds with
  | [] => none
  | (k', d) :: r => if keqD k' k = true then some d else valD r k
def hasD (ds : List (D × D)) (k : D) : Bool := (valD ds k).isSome
def updD (ds : List (D × D)) (k d : D) : List (D × D) := match ds with
  | [] => []
  | (k', d') :: r => (if keqD k' k = true then (k', d) else (k', d')) :: updD r k d
def putD (ds : List (D × D)) (k d : D) : List (D × D) := if hasD ds k = true then updD ds k d else ds ++ [(k, d)]
theorem keqD_self (k : Key) : keqD (kD k) (kD k) = true := by rw [keqD_k]; simp
theorem keqD_ne {k k' : Key} (h : k' ≠ k) : ¬ keqD (kD k') (kD k) = true := by rw [keqD_k]; simpa using h
theorem RpK.val {G : Hp} {k : Key} : ∀ {kvs : List (Key × V)} {ds : List (D × D)}, RpK K G kvs ds → (∀ d, valD ds (kD k) = some d → ∃ v, valV kvs k = some v ∧ Rp K G v d) ∧ (valD ds (kD k) = none → valV kvs k = none)
  | _, _, .nil => ⟨(fun d h => by cases h), fun _ => rfl⟩
  | _, _, .cons (k := k') (v := v) (d := d') r t => by
    obtain ⟨h1, h2⟩ := RpK.val (k := k) t
    by_cases e : k' = k
    · subst e
      refine ⟨fun d h => ?_, fun h => ?_⟩
      · rw [valD, if_pos (keqD_self _)] at h
        cases h
        exact ⟨v, valV_pos rfl, r⟩
      · rw [valD, if_pos (keqD_self _)] at h
        cases h
    · rw [valD, if_neg (keqD_ne e), valV_neg e]
      exact ⟨h1, h2⟩
theorem RpK.any {G : Hp} {k : Key} {kvs : List (Key × V)} {ds : List (D × D)} (r : RpK K G kvs ds) : (kvs.any fun kv => decide (kv.1 = k)) = hasD ds (kD k) := by
  rw [valV_any]
  unfold hasD
  obtain ⟨h1, h2⟩ := RpK.val (k := k) r
  cases e : valD ds (kD k) with
  | none => rw [h2 e]; rfl
  | some d =>
    obtain ⟨v, hv, _⟩ := h1 d e
    rw [hv]
    rfl
theorem RpK.updK {G : Hp} {k : Key} {v : V} {d : D} (rv : Rp K G v d) : ∀ {kvs : List (Key × V)} {ds : List (D × D)}, RpK K G kvs ds → RpK K G (kvs.map fun kv => if kv.1 = k then (kv.1, v) else kv) (updD ds (kD k) d)
  | _, _, .nil => .nil
  | _, _, .cons (k := k') r t => by
    have ih := RpK.updK (k := k) rv t
    by_cases e : k' = k
    · subst e
      rw [List.map_cons, updD, if_pos (keqD_self _), if_pos rfl]
      exact .cons rv ih
    · rw [List.map_cons, updD, if_neg (keqD_ne e), if_neg e]
      exact .cons r ih
theorem RpK.snoc {G : Hp} {k : Key} {v : V} {d : D} (rv : Rp K G v d) : ∀ {kvs : List (Key × V)} {ds : List (D × D)}, RpK K G kvs ds → RpK K G (kvs ++ [(k, v)]) (ds ++ [(kD k, d)])
  | _, _, .nil => .cons rv .nil
  | _, _, .cons r t => .cons r (RpK.snoc rv t)
theorem RpK.put {G : Hp} {k : Key} {v : V} {d : D} {kvs : List (Key × V)} {ds : List (D × D)} (r : RpK K G kvs ds) (rv : Rp K G v d) : RpK K G (putK kvs k v) (putD ds (kD k) d) := by
  unfold putK putD
  rw [RpK.any (k := k) r]
  split
  · exact r.updK rv
  · exact r.snoc rv
theorem RpK.length {G : Hp} : ∀ {kvs : List (Key × V)} {ds : List (D × D)}, RpK K G kvs ds → kvs.length = ds.length
  | _, _, .nil => rfl
  | _, _, .cons _ t => congrArg (· + 1) (RpK.length t)
def mergeD (ds : List (D × D)) : List (D × D) → List (D × D)
  | [] => ds
  | kd :: r => mergeD (putD ds kd.1 kd.2) r
def pairsOf : List D → Option (List (D × D))
  | [] => some []
  | .tuple [k, d] :: r => match keyOf k, pairsOf r with
    | some _, some l => some ((k, d) :: l)
    | _, _ => none
  | _ :: _ => none
def dictD : List D → Option D
  | [.list ds] => (pairsOf ds).map fun l => .dict (mergeD [] l)
  | _ => none
theorem pairs_rp {G H : Hp} (sub : Same G H) : ∀ {xs : List V} {ds : List D} {l : List (D × D)}, RpA K G xs ds → pairsOf ds = some l → ∃ (ps : List Addr) (kvs : List (Key × V)), xs = ps.map V.ref ∧ Paired (fun p kv => SqT K H p [kV kv.1, kv.2]) ps kvs ∧ RpK K G kvs l
  | _, _, l, .nil, e => by cases e; exact ⟨[], [], rfl, .nil, .nil⟩
  | _, _, l, .cons (d := d) (ds := ds) (v := v) r t, e => by
    unfold pairsOf at e
    split at e
    · rename_i heq
      cases heq
    · rename_i k d' r' heq
      obtain ⟨rfl, rfl⟩ := List.cons.inj heq
      cases hk : keyOf k with
      | none => rw [hk] at e; cases e
      | some k' =>
        cases hp : pairsOf ds with
        | none => rw [hk, hp] at e; cases e
        | some l' =>
          rw [hk, hp] at e
          cases e
          obtain ⟨ps, kvs, rfl, pp, rk⟩ := pairs_rp sub t hp
          have ek := keyOf_some hk
          subst ek
          cases r with
          | tup h a =>
            cases a with
            | cons r1 a =>
              cases a with
              | cons r2 a =>
                cases a
                have e1 := r1.key
                subst e1
                exact ⟨_ :: ps, (k', _) :: kvs, rfl, .cons (Same.sqT sub h) pp, .cons r2 rk⟩
    · cases e
theorem RpK.merge {G : Hp} : ∀ {more : List (Key × V)} {ms : List (D × D)} {kvs : List (Key × V)} {ds : List (D × D)}, RpK K G more ms → RpK K G kvs ds → RpK K G (mergeK kvs more) (mergeD ds ms)
  | _, _, _, _, .nil, r => r
  | _, _, _, _, .cons (k := k) rv t, r => by
    have h := RpK.merge t (r.put (k := k) rv)
    exact h
def rDictP (K : PySem.W.Frag) : List V → Hp → VK → Prop := fun xs H Q => ∃ (a : Addr) (ps : List Addr) (kvs : List (Key × V)), xs = [.ref a] ∧ SqL K H a (ps.map V.ref) ∧ Paired (fun p kv => SqT K H p [kV kv.1, kv.2]) ps kvs ∧ ∀ p, H p = none → Q (.ref p) (upd H p (.dK (mergeK [] kvs)))
theorem v_dict : OpNN K (rDictP K) dictD := fun G H xs ds d Q sub r e q => by
  unfold dictD at e
  split at e
  · rename_i ds'
    rw [Option.map_eq_some_iff] at e
    obtain ⟨l, hl, rfl⟩ := e
    obtain ⟨v, rfl, rr⟩ := rp1 r
    cases rr with
    | lst h a =>
      obtain ⟨ps, kvs, rfl, pp, rk⟩ := pairs_rp sub a hl
      exact ⟨_, ps, kvs, rfl, SqL.of (sub _ _ h), pp, fun p np => q p _ np ⟨sub.free np, .inr (.inl ⟨_, _, rfl, upd_same, rk.merge .nil⟩)⟩⟩
  · cases e
theorem RpT.noval {G : Hp} {k : Key} : ∀ {kvs : List (List Key × V)} {ds : List (D × D)}, RpT K G kvs ds → valD ds (kD k) = none
  | _, _, .nil => rfl
  | _, _, .cons r t => by
    have ih := RpT.noval (k := k) t
    cases k <;> exact ih
theorem dget_rd {H : Hp} {a : Addr} {kvs : List (Key × V)} {k : Key} (e : Rd H a (.dK kvs)) : DGet H a (kV k) (valV kvs k) := .inl ⟨kvs, k, e, rfl, rfl⟩
def dgetD : D → D → Option D
  | .dict ds, k => match keyOf k with
    | some _ => valD ds k
    | none => none
  | _, _ => none
theorem EvI.dget (ha : EvI K tw own W cl ta fa) (hb : EvI K tw own W cl tb fb) : EvI K tw own W cl (tDGet ta tb) (Hz.op2 dgetD fa fb) := fun H0 P G env σ H Q hp ok ans => by
  refine ha H0 P G env σ H _ hp ok (ans.bind.mono (fun a ha G1 H1 x g1 ok1 rx => ?_) fun _ h => h)
  refine hb H0 P G1 a.2 σ H1 _ hp ok1 (ha.bind.mono (fun b hb G2 H2 y g2 ok2 ry => ?_) fun _ h => h)
  obtain ⟨d, e, q⟩ := ans_lift hb
  obtain ⟨a1, a2⟩ := a
  obtain ⟨b1, b2⟩ := b
  have rx := rx.mono g2.1
  cases a1 <;> first | (cases e; done) | skip
  rename_i ds
  simp only [dgetD] at e
  cases hk : keyOf b1 with
  | none => rw [hk] at e; cases e
  | some k =>
    rw [hk] at e
    have ek := keyOf_some hk
    subst ek
    have ey := ry.key
    subst ey
    cases rx with
    | dic h r =>
      obtain ⟨v, hv, rv⟩ := (RpK.val r).1 d e
      exact ⟨_, v, rfl, hv ▸ dget_rd (Same.rd ok2.sub h), q G2 H2 v (g1.trans g2) ok2 rv⟩
    | dit h r =>
      have e' : valD ((PyData.bool true, PyData.none) :: _) (kD k) = some d := e
      have e2 : (if keqD (.bool true) (kD k) = true then some PyData.none else valD _ (kD k)) = some d := e'
      rw [if_neg (by cases k <;> simp [keqD, keq0, kD]), RpT.noval r] at e2
      cases e2
    | scr h =>
      cases k <;> cases e
    | ins h c r =>
      cases k <;> cases e
    | rcd h r =>
      have e2 : (if keqD (.bool false) (kD k) = true then some (PyData.int 1) else valD _ (kD k)) = some d := e
      rw [if_neg (by cases k <;> simp [keqD, keq0, kD])] at e2
      obtain ⟨v, hv, rv⟩ := (RpK.val r).1 d e2
      exact ⟨_, v, rfl, hv ▸ dget_rd (Same.rd ok2.sub h), q G2 H2 v (g1.trans g2) ok2 rv⟩
def revD : D → Option D
  | .list ds => some (.list ds.reverse)
  | _ => none
end
section
variable {X : Cx} {tw : List Nat} {own : List Nat} {W : WX} {cl : Nat → Addr} {a b c e : Expr} {es : List Expr} {pos p p1 p2 p3 : Pos} {ta tb te : TE} {fa fb fe : Env → R (D × Env)} {tA : TA} {fA : Env → R (List D × Env)}
theorem hu_of {k : Nat} {A : Around} (r : Room k A) : A.units + 1 < cLine := by have := r.un; omega
theorem dn_bty {x : Str} {T : String} {r : List V → Hp → VK → Prop} {g : List D → Option D} (hc : CallR X (.type T) r) (hv : OpNN X.K r g) (hm : X.mg x = none) (hbt : bootBuiltins x = some (.type T)) (ha : DA X tw own W cl (e :: es) tA fA) (hg : Gl X x := by rfl) (hn : x ≠ "__name__" := by decide) (hdb : (x == ("__debug__" : Str)) = false := by decide)
    (he : starEach (e :: es) X.env = (false, eval e X.env) :: starEach es X.env := by rfl) (hpl : (backTo pos (starEach es X.env)).any (·.1) = false := by rfl) : DN X tw own W cl (.Call (.Name x p) (e :: es) [] pos) (tCB r tA) (opN g fA) :=
  ⟨pe_callTy hc hg hm hbt ha.pe hn hdb he hpl, EvN.opN hv ha.ev⟩
theorem dn_dict (hm : X.mg "dict" = none) (ha : DA X tw own W cl [e] tA fA) (hc : X.calm = true := by rfl) (hg : Gl X "dict" := by rfl) (he : starEach [e] X.env = (false, eval e X.env) :: starEach [] X.env := by rfl) (hpl : (backTo pos (starEach [] X.env)).any (·.1) = false := by rfl) :
    DN X tw own W cl (.Call (.Name "dict" p) [e] [] pos) (tCB (rDictP X.K) tA) (opN dictD fA) := dn_bty (call_dictP hc) v_dict hm boot_dict ha hg (by decide) (by decide) he hpl
theorem de_dget (hu : X.A.units + 1 < cLine) (ha : DI X tw own W cl a ta fa) (hb : DI X tw own W cl b tb fb) (hs : NoSl b := by exact fun _ _ => rfl) : DI X tw own W cl (.Subscript a b pos) (tDGet ta tb) (op2 dgetD fa fb) := ⟨pe_dget hu ha.pe hb.pe hs, EvI.dget ha.ev hb.ev⟩
theorem EvS.retO {K : PySem.W.Frag} {oN oL : List Nat} (h : EvI K tw own W cl te fe) : EvS K tw own oN oL W cl (tRet te) (retS fe) := EvS.of fun H0 P G env σ H E hp ok ans => by
  refine h H0 P G env σ H _ hp ok (ans.bind.mono (fun a ha G1 H1 x g1 ok1 rx => ?_) fun c h H' fr => h σ H' ok.ln fr)
  obtain ⟨G2, g2, ok2⟩ := StOk.freezeAll hp own.length own G1 (Nat.le_refl _) ok1
  exact ha G2 σ H1 x (g1.trans g2) ok2 (rx.mono g2.1)
theorem ds_retO {oN oL : List Nat} (h : DI X tw own W cl e te fe) : DS X tw own oN oL W cl (.Return (some e) pos) (tRet te) (retS fe) := ⟨ps_ret h.pe, EvS.retO h.ev⟩
end
end Hz

namespace Hz
open PySem PySem.Spec PyProof.Rows L2 L2H

/-! ### a def that is handed the error that is handled -/
section
variable {P : Program} {w : World} {K : PySem.W.Frag} {mg : Str → Option Value} {base : Heap} {cl : Nat → Addr} {js : List Nat} {CX : CXT}
end
section
variable {X : Cx} {cl : Nat → Addr} {js : List Nat} {CX : CXT} {f : Addr} {fd : FuncData} {k : Nat}
end
end Hz

namespace Hz
open PySem PySem.Spec PyProof.Rows L2 L2H

/-! ### list.count -/
/-! ### one question: isinstance(e, c) -/
theorem RoomH.u65 {k : Nat} {A : Around} (r : RoomH k A) : A.units + 65 < cLine := by have := r.un; omega
/-! ### try: .. except X as n: return f(n), the whole body of a def -/
section
variable {P : Program} {w : World} {K : PySem.W.Frag} {mg : Str → Option Value} {base : Heap} {cl : Nat → Addr} {js : List Nat}
end
end Hz

namespace Hz
open PySem PySem.Spec PyProof.Rows L2

/-! ### [f, g, ..][i](args) -/
section
variable {X : Cx} {cl : Nat → Addr} {k n : Nat} {e : Expr} {es : List Expr} {fs : List (Addr × (List D → R D))} {pos q lp sp p3 : Pos} {W : WX} {tw : List Nat} {own : List Nat} {ti : TE} {fi : Env → R (D × Env)} {tA : TA} {fA : Env → R (List D × Env)}
end

/-! ### reading the def that tells which error it is -/
end Hz

namespace Hz
open PySem PySem.Spec PyProof.Rows L2

/-! ### a tuple of texts in the module -/
def strsV : List Value → List Str → Bool
  | [], [] => true
  | .str x _ :: r, y :: t => decide (x = y) && strsV r t
  | _, _ => false
theorem strsV_ok : ∀ {us : List Value} {xs : List Str}, strsV us xs = true → Vals (xs.map V.str) us
  | [], [], _ => .nil
  | [], _ :: _, h => by cases h
  | u :: us, [], h => by cases u <;> cases h
  | u :: us, x :: xs, h => by
    cases u <;> first | (cases h; done) | skip
    rename_i y t
    have h' : (decide (y = x) && strsV us xs) = true := h
    rw [Bool.and_eq_true, decide_eq_true_eq] at h'
    rw [← h'.1]
    exact .cons ⟨t, rfl⟩ (strsV_ok h'.2)
def gtup (o : Obj) (xs : List Str) : Bool := (match o.cls with
  | .type n => decide (n = "tuple")
  | _ => false) && (match o.data with
  | .seq its _ => decide (its.size ≤ 1000) && strsV its.toList xs
  | _ => false)
theorem gtup_ok {K : PySem.W.Frag} {A : Addr} {o : Obj} {xs : List Str} (h : K.lookup A = some o) (g : gtup o xs = true) (H : Hp) : SqT K H A (xs.map V.str) := by
  obtain ⟨c, d, dt, sl⟩ := o
  unfold gtup at g
  rw [Bool.and_eq_true] at g
  obtain ⟨g1, g2⟩ := g
  cases c <;> first | (cases g1; done) | skip
  cases dt <;> first | (cases g2; done) | skip
  rename_i n its m
  have e1 : n = "tuple" := of_decide_eq_true g1
  subst e1
  have g3 : (decide (its.size ≤ 1000) && strsV its.toList xs) = true := g2
  rw [Bool.and_eq_true, decide_eq_true_eq] at g3
  exact .inr ⟨_, its, m, h, rfl, rfl, sz100 (by omega), strsV_ok g3.2⟩
theorem RpA.strs_of {K : PySem.W.Frag} {G : Hp} : ∀ xs : List Str, RpA K G (xs.map V.str) (xs.map PyData.str)
  | [] => .nil
  | x :: xs => .cons (.str x) (RpA.strs_of xs)
section
variable {X : Cx} {tw : List Nat} {own : List Nat} {W : WX} {cl : Nat → Addr} {pos : Pos} {x : Str}
theorem de_gtup {A : Addr} {xs : List Str} {ds : List D} (hm : X.mg x = some (.ref A) ∧ ∀ H, SqT X.K H A (xs.map V.str)) (hg : Gl X x := by rfl) (hd : (x == ("__debug__" : Str)) = false := by decide) (hds : xs.map PyData.str = ds := by rfl) (hnn : needN (xs.map PyData.str) = false := by decide +kernel) : DI X tw own W cl (.Name x pos) (tC (.ref A)) (cD (.tuple ds)) := by
  subst hds
  exact de_glob hm.1 rfl (fun G => .tup (hm.2 G) (RpA.strs_of xs) ⟨fun z => (by rw [hnn] at z; cases z), fun z => by obtain ⟨x, y, e⟩ := isPr_eq z; cases xs <;> simp at e⟩) hg hd
end
/-! ### list(xs) -/
theorem vn_list {K : PySem.W.Frag} : OpNN K (rListOf K) listD := fun G H xs ds d Q sub r e q => by
  obtain ⟨ys, h, rfl⟩ := list_shape e
  rcases h with rfl | rfl
  · obtain ⟨v, rfl, rr⟩ := rp1 r
    cases rr with
    | lst h a => exact ⟨_, _, rfl, .inl (SqL.of (sub _ _ h)), fun l nl => q l _ nl ⟨sub.free nl, .inl ⟨_, _, rfl, upd_same, a⟩⟩⟩
  · obtain ⟨v, rfl, rr⟩ := rp1 r
    cases rr with
    | tup h a => exact ⟨_, _, rfl, .inr (Same.sqT sub h), fun l nl => q l _ nl ⟨sub.free nl, .inl ⟨_, _, rfl, upd_same, a⟩⟩⟩
section
variable {X : Cx} {tw : List Nat} {own : List Nat} {W : WX} {cl : Nat → Addr} {e : Expr} {p pos : Pos} {tA : TA} {fA : Env → R (List D × Env)}
theorem dn_list (hm : X.mg "list" = none) (ha : DA X tw own W cl [e] tA fA) (hg : Gl X "list" := by rfl) (he : starEach [e] X.env = (false, eval e X.env) :: starEach [] X.env := by rfl) (hpl : (backTo pos (starEach [] X.env)).any (·.1) = false := by rfl) :
    DN X tw own W cl (.Call (.Name "list" p) [e] [] pos) (tCB (rListOf X.K) tA) (opN listD fA) := dn_bty call_list_of vn_list hm boot_list ha hg (by decide) (by decide) he hpl
end
end Hz

namespace Hz
open PySem PySem.Spec PyProof.Rows L2
/-! ### k in d, k not in d: numbers, texts as keys -/
def numKeys : List (D × D) → Bool
  | (.bool _, _) :: _ => false
  | (.none, _) :: _ => false
  | _ => true
def dinD (k d : D) : Option D := match keyOf k, d with
  | some _, .dict ds => if numKeys ds = true then some (.bool (hasD ds k)) else none
  | _, _ => none
def dnotInD (k d : D) : Option D := match dinD k d with
  | some (.bool b) => some (.bool (!b))
  | _ => none
section
variable {K : PySem.W.Frag} {tw : List Nat} {own : List Nat} {W : WX} {cl : Nat → Addr} {ta tb : TE} {fa fb : Env → R (D × Env)}
theorem din_rp {G : Hp} {x : V} {k : D} {dd d : D} (rx : Rp K G x dd) (e : dinD k dd = some d) : ∃ ky a o, k = kD ky ∧ x = .ref a ∧ d = .bool o.isSome ∧ ∀ H, Same G H → DGet H a (kV ky) o := by
  unfold dinD at e
  cases hk : keyOf k with
  | none => rw [hk] at e; cases e
  | some ky =>
    rw [hk] at e
    have ek := keyOf_some hk
    subst ek
    cases dd <;> first | (cases e; done) | skip
    rename_i ds
    simp only at e
    split at e
    · rename_i hno
      cases e
      cases rx with
      | dic h r =>
        refine ⟨ky, _, valV _ ky, rfl, rfl, ?_, fun H s => dget_rd (Same.rd s h)⟩
        rw [← RpK.any (k := ky) r, valV_any]
      | dit h r => cases hno
      | scr h => cases hno
      | ins h c r => cases hno
      | rcd h r => cases hno
    · cases e
theorem EvI.din (ha : EvI K tw own W cl ta fa) (hb : EvI K tw own W cl tb fb) : EvI K tw own W cl (tDIn ta tb) (Hz.op2 dinD fa fb) := fun H0 P G env σ H Q hp ok ans => by
  refine ha H0 P G env σ H _ hp ok (ans.bind.mono (fun a ha G1 H1 x g1 ok1 rx => ?_) fun _ h => h)
  refine hb H0 P G1 a.2 σ H1 _ hp ok1 (ha.bind.mono (fun b hb G2 H2 y g2 ok2 ry => ?_) fun _ h => h)
  obtain ⟨d, e, q⟩ := ans_lift hb
  obtain ⟨ky, p, o, e1, rfl, rfl, hg⟩ := din_rp ry e
  obtain ⟨a1, a2⟩ := a
  cases e1
  have ex := rx.key
  subst ex
  exact ⟨p, o, rfl, hg H2 ok2.sub, q G2 H2 _ (g1.trans g2) ok2 (.bl _)⟩
theorem EvI.dnotin (ha : EvI K tw own W cl ta fa) (hb : EvI K tw own W cl tb fb) : EvI K tw own W cl (tDNotIn ta tb) (Hz.op2 dnotInD fa fb) := fun H0 P G env σ H Q hp ok ans => by
  refine ha H0 P G env σ H _ hp ok (ans.bind.mono (fun a ha G1 H1 x g1 ok1 rx => ?_) fun _ h => h)
  refine hb H0 P G1 a.2 σ H1 _ hp ok1 (ha.bind.mono (fun b hb G2 H2 y g2 ok2 ry => ?_) fun _ h => h)
  obtain ⟨d, e, q⟩ := ans_lift hb
  unfold dnotInD at e
  split at e
  · rename_i b' e'
    cases e
    obtain ⟨ky, p, o, e1, rfl, e2, hg⟩ := din_rp ry e'
    obtain ⟨a1, a2⟩ := a
    cases e1
    cases e2
    have ex := rx.key
    subst ex
    exact ⟨p, o, rfl, hg H2 ok2.sub, q G2 H2 _ (g1.trans g2) ok2 (.bl _)⟩
  · cases e
end
section
variable {X : Cx} {tw : List Nat} {own : List Nat} {W : WX} {cl : Nat → Addr} {a b : Expr} {pos : Pos} {ta tb : TE} {fa fb : Env → R (D × Env)}
theorem dt_din (hu : X.A.units + 1 < cLine) (ha : DI X tw own W cl a ta fa) (hb : DI X tw own W cl b tb fb) (hm : behindInMarks .In b = false := by rfl) : DT X tw own W cl (.Compare a [.In] [b] pos) (tB (tDIn ta tb)) (tstD (op2 dinD fa fb)) := ⟨pt_cmp (pc_din hu ha.pe hb.pe) hm, EvT.tB (EvI.din ha.ev hb.ev)⟩
theorem dt_dinN (hu : X.A.units + 1 < cLine) (ha : DI X tw own W cl a ta fa) (hb : DI X tw own W cl b tb fb) (hm : behindInMarks .NotIn b = false := by rfl) : DT X tw own W cl (.Compare a [.NotIn] [b] pos) (tB (tDNotIn ta tb)) (tstD (op2 dnotInD fa fb)) := ⟨pt_cmp (pc_dnotin hu ha.pe hb.pe) hm, EvT.tB (EvI.dnotin ha.ev hb.ev)⟩
end
end Hz

/-! ### enumerate of a tuple: the same road as for a list, by the tuple's own iterator -/
namespace Hz
open PySem PySem.Sem
open AutoSeq1 (wpAny_loadPart')
theorem meets_enumT (l : Addr) (items : Array Value) (n : Nat) (dct : Option Addr) (sl : Array (Option Value)) :
    Meets (Builtin.«enumerate.__new__» ⟨[.type "enumerate", .ref l], []⟩) (fun _ R s => s.heap.get? l = some { cls := .type "tuple", dict := dct, data := .seq items n, slots := sl } ∧
      R (.ok (.ret (.ref (s.heap.push { cls := .type "tuple_iterator", data := .fields #[.ref l, .int 0 0] }).objs.size)))
        { s with heap := (s.heap.push { cls := .type "tuple_iterator", data := .fields #[.ref l, .int 0 0] }).push { cls := .type "enumerate", data := .fields #[.none, .bool false, .ref s.heap.objs.size, rawInt 0, .none, .none] } }) :=
  .of_wp fun prog w A R s h => by
    obtain ⟨hp, g, d, tk, os⟩ := s; obtain ⟨hl, h⟩ := h
    have hsub := sub_enumerate
    have hL : Heap.IsTuple (Shared.heap ⟨hp, g, d, tk, os⟩) l items := ⟨_, hl, rfl, n, rfl⟩
    wp_walk using wpAny_loadPart' hl
    refine wpAny_stack_any fun st => wpAny_pure ?_
    split
    · rename_i c _ _ _ _ _
      cases (c == Value.type "enumerate")
      · wp_walk using wpAny_loadPart' hl, wpAny_pyIter_tuple hL
        exact ⟨_, rfl, h⟩
      · wp_walk using wpAny_loadPart' hl, wpAny_pyIter_tuple hL
        exact ⟨_, rfl, h⟩
    · wp_walk using wpAny_loadPart' hl, wpAny_pyIter_tuple hL
      exact ⟨_, rfl, h⟩
section
variable {prog : Program} {w : World} {A : Around} {E : Value → Shared → Prop} {s : Shared}
theorem call_enumT {l : Addr} {items : Array Value} {Q : Value → Shared → Prop} (hL : s.heap.IsTuple l items)
    (h : ∀ h', IsEnum h' (s.heap.objs.size + 1) s.heap.objs.size 0 .none → h'.IsTupleIter s.heap.objs.size l 0 → h'.objs.size = s.heap.objs.size + 2 →
      (∀ b o, s.heap.get? b = some o → h'.get? b = some o) → Q (.ref (s.heap.objs.size + 1)) { s with heap := h' }) :
    wpAny (model prog w) A (call (.type "enumerate") [.ref l]) Q E s := by
  obtain ⟨⟨c, dct, dt, sl⟩, hl, hc, n, hd⟩ := hL
  replace hc : c = .type "tuple" := hc
  replace hd : dt = .seq items n := hd
  subst hc hd
  refine callType_new F.called_enumerate (by decide) (F.typeCall_enumerate_1 _) (F.newCall_enumerate_1 _) (fun obj => F.args_object_init_2 obj _) F.entry_enumerate_new
    (meets_enumT l items n dct sl) ⟨hl, ?_⟩
  have hz : (s.heap.push { cls := .type "tuple_iterator", data := .fields #[.ref l, .int 0 0] }).objs.size = s.heap.objs.size + 1 := Heap.size_push ..
  show _ ∧ _
  rw [hz]
  have he : IsEnum ((s.heap.push { cls := .type "tuple_iterator", data := .fields #[.ref l, .int 0 0] }).push
      { cls := .type "enumerate", data := .fields #[.none, .bool false, .ref s.heap.objs.size, rawInt 0, .none, .none] }) (s.heap.objs.size + 1) s.heap.objs.size 0 .none := by
    have := Heap.get?_push_size (s.heap.push { cls := .type "tuple_iterator", data := .fields #[.ref l, .int 0 0] })
      (o := { cls := .type "enumerate", data := .fields #[.none, .bool false, .ref s.heap.objs.size, rawInt 0, .none, .none] }) rfl
    rw [hz] at this; exact this
  refine ⟨⟨_, he, rfl⟩, h _ he ⟨_, Heap.get?_push_of_some _ (Heap.get?_push_size _ rfl), rfl, rfl⟩ (by rw [Heap.size_push, hz]) fun b o x => Heap.get?_push_of_some _ (Heap.get?_push_of_some _ x)⟩
theorem enumT_next {e it l : Addr} {i : Nat} {items : Array Value} {x old : Value} {Q : Value → Shared → Prop}
    (he : IsEnum s.heap e it i old) (hit : s.heap.IsTupleIter it l i) (hl : s.heap.IsTuple l items) (hx : items[i]? = some x) (hne : e ≠ it)
    (hQ : ∀ h', IsEnumOut h' e it ((i : Int) + 1) x s.heap.objs.size → h'.IsTupleIter it l (i + 1) →
      h'.get? s.heap.objs.size = some { cls := .type "tuple", data := .seq #[.int i s.toks, x] } → h'.objs.size = s.heap.objs.size + 1 →
      (∀ b o, b ≠ e → b ≠ it → s.heap.get? b = some o → h'.get? b = some o) → Q (.ref s.heap.objs.size) { s with heap := h', toks := s.toks + 1 }) :
    wpAny (model prog w) A (Builtin.«enumerate.__next__» ⟨[.ref e], []⟩) (fun fin s' => ∃ v, fin = .done (.ret v) ∧ Q v s') E s := by
  obtain ⟨hp, g, d, tk, os⟩ := s
  show wpAny _ _ (field (.ref e) 2 >>= _) _ _ _
  refine wpAny_bind (wpAny_field he rfl (x := .ref it) rfl ?_)
  refine wpAny_bind (RZ.nextOf_tuple_item hit hl hx fun h₁ hit₁ hs₁ => ?_)
  replace hs₁ : Heap.SameBut it hp h₁ := hs₁
  have he₁ : IsEnum h₁ e it i old := (hs₁.2 e hne).trans he
  show wpAny _ _ (field (.ref e) 3 >>= _) _ _ ⟨h₁, g, d, tk, os⟩
  refine wpAny_bind (wpAny_field he₁ rfl (x := rawInt i) rfl ?_)
  show wpAny _ _ (field (.ref e) 4 >>= _) _ _ ⟨h₁, g, d, tk, os⟩
  refine wpAny_bind (wpAny_field he₁ rfl (x := .none) rfl ?_)
  show wpAny _ _ (mkInt i >>= _) _ _ ⟨h₁, g, d, tk, os⟩
  refine wpAny_bind (wpAny_mkInt ?_)
  show wpAny _ _ (setField (.ref e) 3 (rawInt ((i : Int) + 1)) >>= _) _ _ ⟨h₁, g, d, tk + 1, os⟩
  refine wpAny_bind (wpAny_setField_rec he₁ (by simp) fun h₂ he₂ hs₂ => ?_)
  replace hs₂ : Heap.SameBut e h₁ h₂ := hs₂
  replace he₂ : IsEnum h₂ e it ((i : Int) + 1) old := he₂
  show wpAny _ _ (setField (.ref e) 4 .none >>= _) _ _ ⟨h₂, g, d, tk + 1, os⟩
  refine wpAny_bind (wpAny_setField_rec he₂ (by simp) fun h₃ he₃ hs₃ => ?_)
  replace hs₃ : Heap.SameBut e h₂ h₃ := hs₃
  replace he₃ : IsEnum h₃ e it ((i : Int) + 1) old := he₃
  show wpAny _ _ (newTuple [.int i tk, x] >>= _) _ _ ⟨h₃, g, d, tk + 1, os⟩
  refine wpAny_bind (wpAny_newTuple ?_)
  have he₄ : IsEnum (h₃.push { cls := .type "tuple", data := .seq #[.int i tk, x] }) e it ((i : Int) + 1) old := Heap.get?_push_of_some _ he₃
  generalize hh₄ : h₃.push { cls := .type "tuple", data := .seq #[.int i tk, x] } = h₄ at he₄
  have hsz : h₃.objs.size = hp.objs.size := by rw [hs₃.1, hs₂.1, hs₁.1]
  have hel : e < hp.objs.size := Heap.lt_size he
  have ht₄ : h₄.get? hp.objs.size = some { cls := .type "tuple", data := .seq #[.int i tk, x] } := by rw [← hh₄, ← hsz]; exact Heap.get?_push_size _ rfl
  have hz₄ : h₄.objs.size = hp.objs.size + 1 := by rw [← hh₄, Heap.size_push, hsz]
  have hk₄ : ∀ b o, b ≠ e → b ≠ it → hp.get? b = some o → h₄.get? b = some o := fun b o hbe hbi hb => by
    rw [← hh₄]; exact Heap.get?_push_of_some _ (hs₃.extBut b o hbe (hs₂.extBut b o hbe (hs₁.extBut b o hbi hb)))
  have hit₄ : h₄.IsTupleIter it l (i + 1) := by
    rw [← hh₄]; obtain ⟨o, ho, r⟩ := (hit₁.extBut hs₂.extBut (Ne.symm hne)).extBut hs₃.extBut (Ne.symm hne); exact ⟨o, Heap.get?_push_of_some _ ho, r⟩
  show wpAny _ _ (Builtin.SmallTypes.ownedTupleIsFree (.ref e) >>= _) _ _ ⟨h₄, g, d, tk + 1, os⟩
  rw [hsz]
  clear hh₄ he₃ hs₃ he₂ hs₂ he₁ hs₁ hit₁ hsz h₃ h₂ h₁
  refine wpAny_bind ?_
  · unfold Builtin.SmallTypes.ownedTupleIsFree
    refine wpAny_bind (wpAny_field he₄ rfl (x := .none) rfl (wpAny_pure ?_))
    simp only [if_true]
    refine wpAny_bind (wpAny_rule ?_)
    refine wpAny_bind (wpAny_field he₄ rfl (x := old) rfl ?_)
    refine wpAny_bind (wpAny_setField_rec he₄ (by simp) fun h₅ he₅ hs₅ => ?_)
    replace hs₅ : Heap.SameBut e h₄ h₅ := hs₅
    replace he₅ : IsEnum h₅ e it ((i : Int) + 1) x := he₅
    show wpAny _ _ (Builtin.SmallTypes.ownedTupleHandOut (.ref e) (.ref hp.objs.size) >>= _) _ _ ⟨h₅, g, d, tk + 1, os⟩
    refine wpAny_bind ?_
    · unfold Builtin.SmallTypes.ownedTupleHandOut
      refine wpAny_bind (wpAny_setField_rec he₅ (by simp) fun h₆ he₆ hs₆ => ?_)
      replace hs₆ : Heap.SameBut e h₅ h₆ := hs₆
      replace he₆ : IsEnumOut h₆ e it ((i : Int) + 1) x hp.objs.size := he₆
      refine wpAny_setField_rec he₆ (by simp) fun h₇ he₇ hs₇ => ?_
      replace hs₇ : Heap.SameBut e h₆ h₇ := hs₇
      replace he₇ : IsEnumOut h₇ e it ((i : Int) + 1) x hp.objs.size := he₇
      refine wpAny_bind (wpAny_letGo (wpAny_pure ⟨_, rfl, hQ h₇ he₇ ?_ ?_ ?_ ?_⟩))
      · exact ((hit₄.extBut hs₅.extBut (Ne.symm hne)).extBut hs₆.extBut (Ne.symm hne)).extBut hs₇.extBut (Ne.symm hne)
      · exact hs₇.extBut _ _ (Nat.ne_of_gt hel) (hs₆.extBut _ _ (Nat.ne_of_gt hel) (hs₅.extBut _ _ (Nat.ne_of_gt hel) ht₄))
      · rw [hs₇.1, hs₆.1, hs₅.1, hz₄]
      · exact fun b o hbe hbi hb => hs₇.extBut b o hbe (hs₆.extBut b o hbe (hs₅.extBut b o hbe (hk₄ b o hbe hbi hb)))
theorem pyNext_enumT {e it l : Addr} {i : Nat} {items : Array Value} {x old : Value} {Q : Option Value → Shared → Prop}
    (he : IsEnum s.heap e it i old) (hit : s.heap.IsTupleIter it l i) (hl : s.heap.IsTuple l items) (hx : items[i]? = some x) (hne : e ≠ it)
    (hQ : ∀ h', IsEnumOut h' e it ((i : Int) + 1) x s.heap.objs.size → h'.IsTupleIter it l (i + 1) →
      h'.get? s.heap.objs.size = some { cls := .type "tuple", data := .seq #[.int i s.toks, x] } → h'.objs.size = s.heap.objs.size + 1 →
      (∀ b o, b ≠ e → b ≠ it → s.heap.get? b = some o → h'.get? b = some o) → Q (some (.ref s.heap.objs.size)) { s with heap := h', toks := s.toks + 1 }) :
    wpAny (model prog w) A (pyNext (.ref e)) Q E s := by
  have hT : s.TypeIs (.ref e) "enumerate" := ⟨_, he, rfl⟩
  unfold pyNext
  exact wpAny_bind (wpAny_attempt (wpAny_callSpecial?_slot (name := Str.ofString "__next__") hT F.slot_enumerate_next
    (wpAny_call_entry F.slot_enumerate_next hT F.entry_enumerate_next
      (enumT_next he hit hl hx hne fun h' a b c d k => wpAny_pure (hQ h' a b c d k)) (F.args_enumerate_next_1 _))))
theorem pyNext_enumT_end {e it l : Addr} {i : Nat} {items : Array Value} {old : Value} {Q : Option Value → Shared → Prop} (hh : A.handled = none)
    (he : IsEnum s.heap e it i old) (hit : s.heap.IsTupleIter it l i) (hl : s.heap.IsTuple l items) (hx : items[i]? = none)
    (hQ : ∀ h', Heap.ExtBut it s.heap h' → Q none { s with heap := h' }) : wpAny (model prog w) A (pyNext (.ref e)) Q E s := by
  have hT : s.TypeIs (.ref e) "enumerate" := ⟨_, he, rfl⟩
  unfold pyNext
  refine wpAny_bind (wpAny_attempt (wpAny_callSpecial?_slot (name := Str.ofString "__next__") hT F.slot_enumerate_next
    (wpAny_call_entry F.slot_enumerate_next hT F.entry_enumerate_next ?_ (F.args_enumerate_next_1 _))))
  show wpAny _ _ (field (.ref e) 2 >>= _) _ _ _
  refine wpAny_bind (wpAny_field he rfl (x := .ref it) rfl ?_)
  refine wpAny_bind (RZ.nextOf_tuple_end hh hit hl hx fun h' x he' hx' => ?_)
  obtain ⟨o, ho, hc⟩ := hx'
  refine wpAny_bind (wpAny_isInstance (T := "StopIteration") (b := true) ⟨o, ho, hc⟩ isSubtype_stop ?_)
  exact wpAny_pure (hQ _ he')
end
end Hz
namespace Hz
open PySem PySem.Spec PyProof.Rows L2
def IteT (K : PySem.W.Frag) (a : Addr) : It :=
  ⟨fun i H => ∃ (xs : List V) (x : V), SqT K H a xs ∧ xs[i]? = some x, fun i H v H' => ∃ T x, v = .ref T ∧ H T = none ∧ H' = upd H T (.tup [.int (i : Nat), x]) ∧ ∀ xs, SqT K H a xs → xs[i]? = some x, fun i H => ∃ xs : List V, SqT K H a xs ∧ xs.length ≤ i⟩
theorem turn_enumT {P : Program} {w : World} {K : PySem.W.Frag} {elts : List Expr} {kk : Nat} {tpos : Pos} (a e it : Addr) :
    Turn P w K (.Tuple elts kk tpos) (IteT K a) [e, it] e (fun i h => (∃ old, IsEnum h e it ((i : Nat) : Int) old) ∧ h.IsTupleIter it a i ∧ e ≠ it) where
  mem := by simp
  obj := fun i h st b hb => by
    obtain ⟨⟨old, he⟩, ⟨o, ho, hc, hd⟩, _⟩ := st
    have e' : b = e ∨ b = it := by simpa using hb
    rcases e' with z | z
    · rw [z]; exact ⟨_, he, fun v q => nomatch q⟩
    · rw [z]; exact ⟨o, ho, fun v q => by rw [hd] at q; cases q⟩
  keep := fun i h h' st k => let ⟨⟨old, he⟩, hi, hne⟩ := st; ⟨⟨old, k e (by simp) _ he⟩, hi.at fun o q => k it (by simp) o q, hne⟩
  item := by
    intro X hP hw hK hc i pins s σ H E I hf st hg
    subst hP hw hK
    obtain ⟨⟨old, he⟩, hit, hne⟩ := st
    obtain ⟨xs, x, hq, hx⟩ := hg
    obtain ⟨its, rv, p, hz⟩ := I.tuple hq
    obtain ⟨u, hu, ru⟩ := rv.get hx
    have hel : e < s.heap.objs.size := Heap.lt_size he
    have hil : it < s.heap.objs.size := by obtain ⟨_, q, _⟩ := hit; exact Heap.lt_size q
    refine pyNext_enumT he hit p (x := u) (by simpa using hu) hne fun h' ho hit' hT hsz hk => ?_
    refine ⟨_, rfl, wpAny_letOwnedTupleGo_enum (s := { s with heap := h', toks := s.toks + 1 }) ho fun h'' he' sb => ?_⟩
    have hT2 : h''.get? s.heap.objs.size = some { cls := .type "tuple", data := .seq #[.int i s.toks, u] } := (sb.2 _ (Nat.ne_of_gt hel)).trans hT
    have new : ObjOk X.prog X.w (upd H s.heap.objs.size (.tup [.int (i : Nat), x])) h'' s.heap.objs.size (.tup [.int (i : Nat), x]) :=
      ⟨by show 2 ≤ sizeLine; decide, [.int i s.toks, u], .cons ⟨_, rfl⟩ (.cons ru .nil), ⟨_, hT2, rfl, _, rfl⟩⟩
    have I1 : Inv X pins σ (upd H s.heap.objs.size (.tup [.int (i : Nat), x])) { s with heap := h'', toks := s.toks + 1 } :=
      I.turnedNew (ch := [e, it]) (fun b ob hb q => (sb.2 b (fun z => hb (by simp [z]))).trans (hk b ob (fun z => hb (by simp [z])) (fun z => hb (by simp [z])) q)) hf (Nat.le_refl _) new
    refine ⟨.ref s.heap.objs.size, _, I1, rfl, ⟨_, x, rfl, I.hok.fresh (Nat.le_refl _), rfl, fun ys hy => by rw [I.tuple_inj hy hq]; exact hx⟩, ⟨⟨u, ?_⟩, hit'.at fun o q => (sb.2 it (Ne.symm hne)).trans q, hne⟩, fun b hb => ?_⟩
    · have e1 : ((i + 1 : Nat) : Int) = (i : Int) + 1 := by omega
      rw [e1]; exact he'
    · have hb' : b < s.heap.objs.size := by
        have e' : b = e ∨ b = it := by simpa using hb
        rcases e' with z | z
        · rw [z]; exact hel
        · rw [z]; exact hil
      rw [upd_ne (Nat.ne_of_lt hb')]
      exact (hf b hb).1
  done := by
    intro X hP hw hK hc i pins s σ H E I hf st hg
    subst hP hw hK
    obtain ⟨⟨old, he⟩, hit, hne⟩ := st
    obtain ⟨xs, hq, hx⟩ := hg
    obtain ⟨its, rv, p, hz⟩ := I.tuple hq
    obtain ⟨f0, f1, f2, f3, f4, f5⟩ := hf it (by simp)
    have hl := rv.length
    exact pyNext_enumT_end (I.ok.hd hc) he hit p (by simp; omega) fun h' eb => ⟨rfl, I.turned (t' := s.toks) (fun b o hb q => eb b o hb q) f0 f1 f3 f4 f5⟩
  self := fun A i s Q E st h => let ⟨⟨_, he⟩, _⟩ := st; wpAny_pyIter_enum he h
def iEnumT (K : PySem.W.Frag) (ta : TA) : TI := fun σ H R => ta σ H fun vs H1 => ∃ a xs, vs = [.ref a] ∧ SqT K H1 a xs ∧ R (IteT K a) H1
theorem pi_enumT {X : Cx} {e : Expr} {ta : TA} {p pos tpos : Pos} {elts : List Expr} {kk : Nat} (hg : Gl X "enumerate") (hm : X.mg "enumerate" = none) (ha : PA X [e] ta) (hs : starEach [e] X.env = [(false, eval e X.env)] := by rfl) :
    PI X (.Tuple elts kk tpos) (.Call (.Name "enumerate" p) [e] [] pos) (iEnumT X.K ta) := by
  refine ⟨fun pins s σ H R I h => ?_⟩
  refine Call_ (ld_blt I hg hm boot_enumerate (PyProof.Rows.callWith_type1 (thn (ha.run pos pins s σ H _ I h) fun us s1 ⟨vs, H1, I1, r1, q1⟩ => ?_) hs rfl))
  obtain ⟨a, xs, ex, hq, q⟩ := q1
  subst ex
  cases r1 with
  | cons r rr =>
    cases rr
    cases r
    obtain ⟨its, rv, p', hz⟩ := I1.tuple hq
    refine call_enumT p' fun h' he hit hsz hk => wpAny_pyIter_enum he ?_
    have I2 : Inv X pins σ H1 { s1 with heap := h' } := I1.kept (t' := s1.toks) hk
    refine ⟨s1.heap.objs.size + 1, [s1.heap.objs.size + 1, s1.heap.objs.size], _, _, H1, rfl, I2, turn_enumT a (s1.heap.objs.size + 1) s1.heap.objs.size, ⟨⟨.none, he⟩, hit, Nat.succ_ne_self _⟩, fun b hb => ?_, q⟩
    have e' : b = s1.heap.objs.size + 1 ∨ b = s1.heap.objs.size := by simpa using hb
    have hle : s1.heap.objs.size ≤ b := by
      rcases e' with z | z
      · rw [z]; exact Nat.le_add_right _ _
      · rw [z]; exact Nat.le_refl _
    exact I1.fpOk hle (I1.hok.fresh hle)
def enumT : List D → Option (List D)
  | [.tuple xs] => some (enumL xs)
  | _ => none
theorem enumT_inv {l ds : List D} (h : enumT l = some ds) : ∃ xs, l = [.tuple xs] ∧ ds = enumL xs := by
  unfold enumT at h
  split at h
  · cases h
    exact ⟨_, rfl, rfl⟩
  · cases h
section
variable {K : PySem.W.Frag} {tw : List Nat} {own : List Nat} {W : WX} {cl : Nat → Addr} {ta : TA} {fa : Env → R (List D × Env)}
theorem items_enumT {G0 : Hp} {a : Addr} {xs : List V} {ds : List D} (h : SqT K G0 a xs) (r : RpA K G0 xs ds) : Items K G0 (IteT K a) (enumL ds) := fun i G H s1 s2 => by
  have hq : SqT K H a xs := Same.sqT s2 (Same.sqT s1 h)
  have hl : (enumL ds).length = ds.length := by simp [enumL]
  refine ⟨fun d hd => ?_, fun hn => ⟨xs, hq, ?_⟩⟩
  · have hi := lt_of_get hd
    rw [hl] at hi
    obtain ⟨v, hv, rv⟩ := r.get (List.getElem?_eq_getElem hi)
    refine ⟨⟨xs, v, hq, hv⟩, fun x H' y => ?_⟩
    obtain ⟨T, x1, rfl, nT, rfl, f1⟩ := y
    have e1 := f1 xs hq
    rw [hv] at e1
    cases e1
    have gg : Grow G H (upd G T (.tup [.int (i : Nat), v])) (upd H T (.tup [.int (i : Nat), v])) := Grow.lay s2 nT
    refine ⟨_, gg, ?_⟩
    have : d = .tuple [.int (i : Nat), ds[i]] := by
      unfold enumL at hd
      rw [List.getElem?_map, List.getElem?_zipIdx, List.getElem?_eq_getElem hi] at hd
      simp at hd
      exact hd.symm
    rw [this]
    exact .tup (SqT.of upd_same) (.cons (.int _) (.cons (rv.mono (s1.trans gg.gg)) .nil)) ⟨fun z => (by cases z), fun _ => upd_same⟩
  · rw [r.length]
    have := List.getElem?_eq_none_iff.mp hn
    rw [hl] at this
    exact this
theorem EvIt.enumT (h : EvA K tw own W cl ta fa) : EvIt K tw own W cl (iEnumT K ta) (argI enumT fa) := fun H0 P G env σ H Q hp ok ans => by
  refine h H0 P G env σ H _ hp ok (ans.bind.mono (fun a ha G1 H1 vs g1 ok1 rx => ?_) fun _ h => h)
  obtain ⟨ds, e, q⟩ := ans_lift ha
  obtain ⟨xs, el, rfl⟩ := enumT_inv e
  rw [el] at rx
  obtain ⟨v, rfl, r⟩ := rp1 rx
  cases r with
  | tup h1 a1 => exact ⟨_, _, rfl, Same.sqT ok1.sub h1, q G1 H1 _ g1 ok1 (items_enumT h1 a1)⟩
end
section
variable {X : Cx} {tw : List Nat} {own : List Nat} {W : WX} {cl : Nat → Addr} {e : Expr} {p pos tpos : Pos} {ta : TA} {fa : Env → R (List D × Env)}
theorem di_enumT {elts : List Expr} {kk : Nat} (hm : X.mg "enumerate" = none) (h : DA X tw own W cl [e] ta fa) (hg : Gl X "enumerate" := by rfl) (hs : starEach [e] X.env = [(false, eval e X.env)] := by rfl) : DIt X tw own W cl (.Tuple elts kk tpos) (.Call (.Name "enumerate" p) [e] [] pos) (iEnumT X.K ta) (argI enumT fa) := ⟨pi_enumT hg hm h.pe hs, EvIt.enumT h.ev⟩
end
end Hz

namespace Hz
open PySem PySem.Spec PyProof.Rows L2
/-! ### sorted(set(xs)), xs a list of pairs of small numbers: by one number for each pair -/
theorem sorted_one : ∀ {l m : List Int}, l.Pairwise (· < ·) → m.Pairwise (· < ·) → (∀ x, x ∈ l ↔ x ∈ m) → l = m
  | [], [], _, _, _ => rfl
  | [], b :: m, _, _, h => by
    have := (h b).mpr List.mem_cons_self
    cases this
  | a :: l, [], _, _, h => by
    have := (h a).mp List.mem_cons_self
    cases this
  | a :: l, b :: m, hl, hm, h => by
    obtain ⟨l1, l2⟩ := List.pairwise_cons.mp hl
    obtain ⟨m1, m2⟩ := List.pairwise_cons.mp hm
    have e : a = b := by
      rcases List.mem_cons.mp ((h a).mp List.mem_cons_self) with z | z
      · exact z
      · rcases List.mem_cons.mp ((h b).mpr List.mem_cons_self) with y | y
        · exact y.symm
        · have := l1 b y
          have := m1 a z
          omega
    subst e
    rw [sorted_one l2 m2 fun x => ?_]
    constructor
    · intro hx
      rcases List.mem_cons.mp ((h x).mp (List.mem_cons_of_mem _ hx)) with z | z
      · have := l1 x hx
        omega
      · exact z
    · intro hx
      rcases List.mem_cons.mp ((h x).mpr (List.mem_cons_of_mem _ hx)) with z | z
      · have := m1 x hx
        omega
      · exact z
section
variable {K : PySem.W.Frag}
end
section
variable {X : Cx} {tw : List Nat} {own : List Nat} {W : WX} {cl : Nat → Addr} {a : Expr} {p p2 q pos : Pos} {ta : TE} {fa : Env → R (D × Env)}
end
/-! ### slices by twos -/
section
variable {X : Cx}
variable {tw : List Nat} {own : List Nat} {W : WX} {cl : Nat → Addr} {a : Expr} {p p1 p2 p3 pos : Pos} {ta : TE} {fa : Env → R (D × Env)}
end
end Hz

/-! ### set of a tuple of tuples: the library's way for a list, turned to the tuple's iterator -/
namespace Hz
open PySem PySem.Spec PyProof.Rows L2
section
variable {P : Program} {w : World} {A : Around} {E : Value → Shared → Prop} {s : Shared}
end
section
variable {X : Cx}
end
section
variable {X : Cx} {tw : List Nat} {own : List Nat} {W : WX} {cl : Nat → Addr} {a : Expr} {p p2 q pos : Pos} {ta : TE} {fa : Env → R (D × Env)}
end
end Hz

namespace Hz
open PySem PySem.Spec PyProof.Rows L2
/-! ### a chain of three comparisons, as a test -/
section
variable {X : Cx} {a b c d : Expr} {ta tb tc td : TE} {pos : Pos}
end
section
variable {K : PySem.W.Frag} {tw : List Nat} {own : List Nat} {W : WX} {cl : Nat → Addr} {ta tb tc td : TE} {fa fb fc fd : Env → R (D × Env)}
end
section
variable {X : Cx} {tw : List Nat} {own : List Nat} {W : WX} {cl : Nat → Addr} {a b c d : Expr} {ta tb tc td : TE} {fa fb fc fd : Env → R (D × Env)} {pos : Pos}
end
end Hz

namespace Hz
open PySem PySem.Spec PyProof.Rows L2
/-! ### sorted(t), t a tuple of pairs of small numbers, all different -/
theorem perm_lift {α β : Type} {f : α → β} {l m : List β} (h : l.Perm m) : ∀ ks : List α, m = ks.map f → ∃ L : List α, L.Perm ks ∧ l = L.map f := by
  induction h with
  | nil =>
    intro ks e
    have : ks = [] := List.map_eq_nil_iff.mp e.symm
    subst this
    exact ⟨[], List.Perm.refl _, rfl⟩
  | cons x _ ih =>
    intro ks e
    cases ks with
    | nil => cases e
    | cons k ks =>
      rw [List.map_cons] at e
      injection e with e1 e2
      obtain ⟨L, h1, h2⟩ := ih ks e2
      exact ⟨k :: L, h1.cons k, by rw [List.map_cons, e1, h2]⟩
  | swap x y l =>
    intro ks e
    match ks, e with
    | [], e => cases e
    | [_], e => simp at e
    | a :: b :: ks, e =>
      simp only [List.map_cons, List.cons.injEq] at e
      obtain ⟨e1, e2, e3⟩ := e
      exact ⟨b :: a :: ks, List.Perm.swap a b ks, by rw [List.map_cons, List.map_cons, e1, e2, e3]⟩
  | trans _ _ ih1 ih2 =>
    intro ks e
    obtain ⟨L2, h1, h2⟩ := ih2 ks e
    obtain ⟨L1, h3, h4⟩ := ih1 L2 h2
    exact ⟨L1, h3.trans h1, h4⟩
section
variable {prog : Program} {w : World} {A : Around} {E : Value → Shared → Prop} {s : Shared}
end
section
variable {X : Cx}
end
section
variable {X : Cx} {tw : List Nat} {own : List Nat} {W : WX} {cl : Nat → Addr} {a : Expr} {p pos : Pos} {ta : TE} {fa : Env → R (D × Env)}
end
end Hz

namespace Hz
open PySem PySem.Spec PyProof.Rows L2
/-! ### texts: str, int, split, join -/
def strsOf : List D → Option (List Str)
  | [] => some []
  | .str a :: r => (strsOf r).map (a :: ·)
  | _ => none
theorem strsOf_eq : ∀ {ds : List D} {ys : List Str}, strsOf ds = some ys → ds = ys.map PyData.str
  | [], ys, h => by
    cases h
    rfl
  | d :: ds, ys, h => by
    cases d <;> first | (cases h; done) | skip
    rename_i a
    simp only [strsOf, Option.map_eq_some_iff] at h
    obtain ⟨r, e, rfl⟩ := h
    rw [strsOf_eq e]
    rfl
def splitM : D → D → Option D
  | .str a, .str b => if (b.length == 0) = false ∧ a.length ≤ 100000 then some (.list ((Txt.split a b).map PyData.str)) else none
  | _, _ => none
def joinM : D → D → Option D
  | .str a, .list ds => match strsOf ds with
    | some ys => if (ys.map (·.length)).sum + ys.length * a.length ≤ 16777216 then some (.str (Txt.join a ys)) else none
    | none => none
  | _, _ => none
section
variable {X : Cx}
end
section
variable {K : PySem.W.Frag}
end
/-! methods of texts with one argument: the text comes first -/
def isStrD : D → Bool
  | .str _ => true
  | _ => false
def strM (g : D → D → Option D) (a b : Env → R (D × Env)) : Env → R (D × Env) := fun e => (a e).bind fun x => if isStrD x.1 = true then (b x.2).bind fun y => (lift (g x.1 y.1)).bind fun d => .ok (d, y.2) else .bad
section
variable {K : PySem.W.Frag} {tw : List Nat} {own : List Nat} {W : WX} {cl : Nat → Addr} {ta tb : TE} {fa fb : Env → R (D × Env)}
def OpS (K : PySem.W.Frag) (r : V → List V → Hp → VK → Prop) (g : D → D → Option D) : Prop := ∀ (G H : Hp) (x y : V) (dx dy d : D) (Q : VK), Same G H → Rp K G x dx → Rp K G y dy → g dx dy = some d → (∀ G' H' v, Grow G H G' H' → Rp K G' v d → Q v H') → r x [y] H Q
theorem EvI.strM {r : V → List V → Hp → VK → Prop} {g : D → D → Option D} (ho : OpS K r g) (ha : EvI K tw own W cl ta fa) (hb : EvI K tw own W cl tb fb) : EvI K tw own W cl (tM1 r ta tb) (Hz.strM g fa fb) := fun H0 P G env σ H Q hp ok ans => by
  refine ha H0 P G env σ H _ hp ok (ans.bind.mono (fun a ha' G1 H1 x g1 ok1 rx => ?_) fun _ h => h)
  by_cases ht : isStrD a.1 = true
  · rw [if_pos ht] at ha'
    refine ⟨?_, hb H0 P G1 a.2 σ H1 _ hp ok1 (ha'.bind.mono (fun b hb' G2 H2 y g2 ok2 ry => ?_) fun _ h => h)⟩
    · obtain ⟨a1, a2⟩ := a
      cases rx <;> first | exact ⟨_, rfl⟩ | cases ht
    · obtain ⟨d, e, q⟩ := ans_lift hb'
      exact ho G2 H2 x y a.1 b.1 d Q ok2.sub (rx.mono g2.1) ry e fun G' H' v gg rv => q G' H' v ((g1.trans g2).trans (gg.gr ok2)) (ok2.grow gg) rv
  · rw [if_neg ht] at ha'
    exact ha'.elim
theorem v_split : OpS K (fun x xs H Q => ∃ a b, x = .str a ∧ xs = [.str b] ∧ (b.length == 0) = false ∧ a.length + 2 ≤ sizeLine ∧ rNewStrs (Txt.split a b) H Q) splitM := fun G H x y dx dy d Q sub rx ry e q => by
  cases rx <;> first | (cases e; done) | skip
  cases ry <;> first | (cases e; done) | skip
  rename_i a b
  simp only [splitM] at e
  split at e
  · rename_i hc
    cases e
    refine ⟨a, b, rfl, rfl, hc.1, by rw [sizeLine_eq]; omega, fun p np => ?_⟩
    exact q _ _ _ (Grow.lay sub np) (.lst upd_same (RpA.of_strs _))
  · cases e
theorem v_join : OpS K (fun x xs H Q => ∃ a p, ∃ ys : List Str, x = .str a ∧ xs = [.ref p] ∧ (SqL K H p (ys.map V.str) ∨ SqT K H p (ys.map V.str)) ∧ (ys.map (·.length)).sum + ys.length * a.length ≤ 16777216 ∧ Q (.str (Txt.join a ys)) H) joinM := fun G H x y dx dy d Q sub rx ry e q => by
  cases rx <;> first | (cases e; done) | skip
  rename_i a
  cases ry <;> first | (cases e; done) | skip
  rename_i l vs ds h r
  simp only [joinM] at e
  split at e
  · rename_i ys hys
    split at e
    · rename_i hz
      cases e
      have ed := strsOf_eq hys
      subst ed
      have ev := RpA.strs r
      subst ev
      exact ⟨a, l, ys, rfl, rfl, .inl (SqL.of (sub _ _ h)), hz, q G H _ (Grow.refl sub) (.str _)⟩
    · cases e
  · cases e
end
section
variable {X : Cx} {tw : List Nat} {own : List Nat} {W : WX} {cl : Nat → Addr} {o e : Expr} {apos pos : Pos} {ta tb : TE} {fa fb : Env → R (D × Env)} {k : Nat}
theorem de_m_split (hr : Room k X.A) (ho : DI X tw own W cl o ta fa) (he : DI X tw own W cl e tb fb) (hs : starEach [e] X.env = [(false, eval e X.env)] := by rfl) (hbase : attributeBase o "split" X.env (eval o X.env) = eval o X.env := by rfl) (hline : (apos.endLine == pos.line) = true := by rfl) :
    DI X tw own W cl (.Call (.Attribute o "split" apos) [e] [] pos) (tM1 (fun x xs H Q => ∃ a b, x = .str a ∧ xs = [.str b] ∧ (b.length == 0) = false ∧ a.length + 2 ≤ sizeLine ∧ rNewStrs (Txt.split a b) H Q) ta tb) (strM splitM fa fb) := ⟨pe_split ho.pe he.pe hs hbase hline, EvI.strM v_split ho.ev he.ev⟩
theorem de_m_join (hr : Room k X.A) (ho : DI X tw own W cl o ta fa) (he : DI X tw own W cl e tb fb) (hs : starEach [e] X.env = [(false, eval e X.env)] := by rfl) (hbase : attributeBase o "join" X.env (eval o X.env) = eval o X.env := by rfl) (hline : (apos.endLine == pos.line) = true := by rfl) :
    DI X tw own W cl (.Call (.Attribute o "join" apos) [e] [] pos) (tM1 (fun x xs H Q => ∃ a p, ∃ ys : List Str, x = .str a ∧ xs = [.ref p] ∧ (SqL X.K H p (ys.map V.str) ∨ SqT X.K H p (ys.map V.str)) ∧ (ys.map (·.length)).sum + ys.length * a.length ≤ 16777216 ∧ Q (.str (Txt.join a ys)) H) ta tb) (strM joinM fa fb) := ⟨pe_join ho.pe he.pe hs hbase hline, EvI.strM v_join ho.ev he.ev⟩
end
/-! a text some times -/
end Hz

/-! ### sum of a tuple -/
namespace Hz
open PySem PySem.Spec PyProof.Rows L2
section
variable {prog : Program} {w : World} {A : Around} {E : Value → Shared → Prop} {s : Shared} {l : Addr}
theorem sum_rawT {its : List Value} {ns : List Int} {Q : Value → Shared → Prop} (hh : A.handled = none) (hl : s.heap.IsTuple l its.toArray) (hi : IntsAre its ns)
    (h : ∀ h' tk t', (∀ b o, s.heap.get? b = some o → h'.get? b = some o) → Q (.int ns.sum t') { s with heap := h', toks := tk }) : wpAny (model prog w) A (call (.builtin "sum") [.ref l]) Q E s := by
  obtain ⟨xs, e⟩ := hi.allInts.items
  have hn : numsOf (intItems xs).toList = ns := by rw [← e]; exact hi.numsOf
  rw [nums_intItems] at hn
  rw [e] at hl
  have hlt : l < s.heap.objs.size := by obtain ⟨_, e, _⟩ := hl; exact Heap.lt_size e
  refine call_sum_walkG (wpAny_pyIter_tuple hl ?_)
  refine ⟨_, _, _, _, _, _, numAt xs, rfl, Walks.tuple (A := A.in1) hh _ l (Nat.ne_of_lt hlt) (intItems xs), ⟨⟨_, Heap.get?_push_size _ rfl, rfl, rfl⟩, hl.push _⟩, fun b hb => ?_, (fun _ _ => intItems_at), fun h' tk t' hk => ?_⟩
  · show b < (s.heap.push _).objs.size
    rw [Heap.size_push]
    rcases List.mem_cons.mp hb with rfl | hb
    · exact Nat.lt_succ_self _
    · rcases List.mem_cons.mp hb with rfl | hb
      · exact Nat.lt_succ_of_lt hlt
      · cases hb
  · have := h h' tk t' fun b o e => hk b o (by
      simp only [List.mem_cons, List.not_mem_nil, or_false]
      exact Nat.ne_of_lt (Heap.lt_size e)) (Heap.get?_push_of_some _ e)
    rw [show (intItems xs).size = xs.size by simp [intItems], preSum_eq, List.take_of_length_le (by simp), hn]
    exact this
end
section
variable {X : Cx}
def rSumT (K : PySem.W.Frag) : List V → Hp → VK → Prop := fun vs H Q => ∃ (a : Addr) (ns : List Int), vs = [V.ref a] ∧ SqT K H a (ns.map V.int) ∧ Q (.int ns.sum) H
theorem cr_sumT (hc : X.calm = true) : CallR X (.builtin "sum") (rSumT X.K) := by
  intro pins s σ H vs us Q I r h
  obtain ⟨a, ns, rfl, hs, q⟩ := h
  obtain ⟨its, rv, hl, _⟩ := I.tuple hs
  rw [Vals.ref1 r]
  exact sum_rawT (I.ok.hd hc) hl rv.ints fun h' tk t' hk => ⟨.int _, H, I.kept hk, ⟨_, rfl⟩, q⟩
end
def sumT : List D → Option D
  | [.tuple ds] => (intsOf ds).map fun ns => .int ns.sum
  | _ => none
theorem v_sumT {K : PySem.W.Frag} : OpN K (rSumT K) sumT := fun G H xs ds d Q sub r e q => by
  unfold sumT at e
  split at e
  · rw [Option.map_eq_some_iff] at e
    obtain ⟨ns, hb, rfl⟩ := e
    have ed := intsOf_eq hb
    subst ed
    obtain ⟨v, rfl, rv⟩ := rp1 r
    cases rv with
    | tup h1 a1 =>
      have ev := RpA.ints a1
      subst ev
      exact ⟨_, ns, rfl, Same.sqT sub h1, q G H _ (Grow.refl sub) (.int _)⟩
  · cases e
/-! ### len of a dict -/
def lenK : List D → Option D
  | [.dict ds] => if numKeys ds = true then some (.int (ds.length : Nat)) else none
  | _ => none
def rLenK (K : PySem.W.Frag) : List V → Hp → VK → Prop := fun xs H Q => ∃ (p : Addr) (kvs : List (Key × V)), xs = [.ref p] ∧ Rd H p (.dK kvs) ∧ Q (.int ((kvs.length : Nat) : Int)) H
theorem call_lenK {X : Cx} : CallR X (.builtin "len") (rLenK X.K) := by
  intro pins s σ H xs us Q I r h
  obtain ⟨p, kvs, rfl, hp, q⟩ := h
  rw [Vals.ref1 r]
  exact d_len I hp fun t s' I' => ⟨.int _, H, I', ⟨_, rfl⟩, q⟩
theorem v_lenK {K : PySem.W.Frag} : OpN K (rLenK K) lenK := fun G H xs ds d Q sub r e q => by
  unfold lenK at e
  split at e
  · split at e
    · rename_i hk
      cases e
      obtain ⟨v, rfl, rv⟩ := rp1 r
      cases rv with
      | dic h1 a1 =>
        refine ⟨_, _, rfl, Same.rd sub h1, ?_⟩
        have := q G H _ (Grow.refl sub) (.int _)
        rw [← a1.length] at this
        exact this
      | dit h1 a1 => simp [numKeys] at hk
      | scr h1 => simp [numKeys] at hk
      | ins _ _ _ => simp [numKeys] at hk
      | rcd _ _ => simp [numKeys] at hk
    · cases e
  · cases e
/-! ### sorted(list of ints) -/
def insL (p : Int) : List Int → List Int
  | [] => [p]
  | q :: l => if p ≤ q then p :: q :: l else q :: insL p l
def sortL (l : List Int) : List Int := l.foldr insL []
theorem insL_perm (p : Int) : ∀ l : List Int, (insL p l).Perm (p :: l)
  | [] => List.Perm.refl _
  | q :: l => by
    unfold insL
    split
    · exact List.Perm.refl _
    · exact ((insL_perm p l).cons q).trans (List.Perm.swap p q l)
theorem sortL_perm : ∀ l : List Int, (sortL l).Perm l
  | [] => List.Perm.refl _
  | p :: l => (insL_perm p (sortL l)).trans ((sortL_perm l).cons p)
theorem insL_sorted {p : Int} : ∀ {l : List Int}, l.Pairwise (· ≤ ·) → (insL p l).Pairwise (· ≤ ·)
  | [], _ => by simp [insL]
  | q :: l, h => by
    obtain ⟨h1, h2⟩ := List.pairwise_cons.mp h
    unfold insL
    split
    · rename_i h3
      refine List.pairwise_cons.mpr ⟨fun y hy => ?_, h⟩
      rcases List.mem_cons.mp hy with z | z
      · omega
      · have := h1 y z
        omega
    · rename_i h3
      refine List.pairwise_cons.mpr ⟨fun y hy => ?_, insL_sorted h2⟩
      rcases List.mem_cons.mp ((insL_perm p l).mem_iff.mp hy) with z | z
      · omega
      · exact h1 y z
theorem sortL_sorted : ∀ l : List Int, (sortL l).Pairwise (· ≤ ·)
  | [] => List.Pairwise.nil
  | p :: l => insL_sorted (sortL_sorted l)
theorem sorted_perm : ∀ {l m : List Int}, l.Pairwise (· ≤ ·) → m.Pairwise (· ≤ ·) → l.Perm m → l = m
  | [], m, _, _, h => by rw [h.nil_eq]
  | a :: l, [], _, _, h => by have := h.length_eq; simp at this
  | a :: l, b :: m, hl, hm, h => by
    obtain ⟨l1, l2⟩ := List.pairwise_cons.mp hl
    obtain ⟨m1, m2⟩ := List.pairwise_cons.mp hm
    have e : a = b := by
      rcases List.mem_cons.mp (h.mem_iff.mp List.mem_cons_self) with z | z
      · exact z
      · rcases List.mem_cons.mp (h.symm.mem_iff.mp List.mem_cons_self) with y | y
        · exact y.symm
        · have := l1 b y
          have := m1 a z
          omega
    subst e
    rw [sorted_perm l2 m2 (List.Perm.cons_inv h)]
def sortedD : List D → Option D
  | [.list ds] => match intsOf ds with
    | some ns => if ns.length < 64 then some (.list ((sortL ns).map PyData.int)) else none
    | none => none
  | _ => none
theorem v_sorted {K : PySem.W.Frag} : OpNN K (rSorted K) sortedD := fun G H xs ds d Q sub r e q => by
  unfold sortedD at e
  split at e
  · split at e
    · rename_i ns hns
      split at e
      · rename_i hl
        cases e
        have ed := intsOf_eq hns
        subst ed
        obtain ⟨v, rfl, rv⟩ := rp1 r
        cases rv with
        | lst h1 a1 =>
          have ev := RpA.ints a1
          subst ev
          refine ⟨_, ns, rfl, SqL.of (sub _ _ h1), hl, fun ns' p pm pw np => ?_⟩
          have : ns' = sortL ns := sorted_perm pw (sortL_sorted ns) (pm.trans (sortL_perm ns).symm)
          subst this
          exact q p _ np ⟨sub.free np, .inl ⟨_, _, rfl, upd_same, RpA.of_ints _⟩⟩
      · cases e
    · cases e
  · cases e
section
variable {X : Cx} {tw : List Nat} {own : List Nat} {W : WX} {cl : Nat → Addr} {e : Expr} {p pos : Pos} {tA : TA} {fA : Env → R (List D × Env)} {k : Nat}
theorem dn_sorted (hr : Room k X.A) (hm : X.mg "sorted" = none) (ha : DA X tw own W cl [e] tA fA) (hg : Gl X "sorted" := by rfl) (he : starEach [e] X.env = (false, eval e X.env) :: starEach [] X.env := by rfl) (hpl : (backTo pos (starEach [] X.env)).any (·.1) = false := by rfl) :
    DN X tw own W cl (.Call (.Name "sorted" p) [e] [] pos) (tCB (rSorted X.K) tA) (opN sortedD fA) := ⟨pe_callB cr_sorted hg hm boot_sorted ha.pe (by decide) (by decide) he hpl, EvN.opN v_sorted ha.ev⟩
end
/-! ### a dict of ours with number keys -/
def ownD (e : Env) (i : Nat) : Option (List (D × D)) := match e[i]? with
  | some (some (.dict ds)) => if numKeys ds = true then some ds else none
  | _ => none
theorem ownD_eq {e : Env} {i : Nat} {ds : List (D × D)} (h : ownD e i = some ds) : e[i]? = some (some (.dict ds)) ∧ numKeys ds = true := by
  unfold ownD at h
  split at h
  · split at h
    · rename_i h1 h2
      cases h
      exact ⟨h1, h2⟩
    · cases h
  · cases h
def dgetO (i : Nat) (b : Env → R (D × Env)) : Env → R (D × Env) := fun e => (b e).bind fun y => (lift (ownD y.2 i)).bind fun ds => (lift ((keyOf y.1).bind fun k => valD ds (kD k))).bind fun d => .ok (d, y.2)
def dinNotO (a : Env → R (D × Env)) (i : Nat) : Env → R (D × Env) := fun e => (a e).bind fun y => (lift (ownD y.2 i)).bind fun ds => (lift ((keyOf y.1).map fun k => PyData.bool (!hasD ds (kD k)))).bind fun d => .ok (d, y.2)
def dputS (i : Nat) (k v : Env → R (D × Env)) : Env → R (Fl × Env) := fun e => (v e).bind fun x => (k x.2).bind fun y => (lift (ownD y.2 i)).bind fun ds => (lift (keyOf y.1)).bind fun ky => if ds.length < 1000 then .ok (.nx, y.2.set i (some (.dict (putD ds (kD ky) x.1)))) else .bad
section
variable {K : PySem.W.Frag} {tw : List Nat} {own oL : List Nat} {W : WX} {cl : Nat → Addr} {ta tb : TE} {fa fb : Env → R (D × Env)}
theorem flat_num {ds : List (D × D)} (h : numKeys ds = true) : flatD (.dict ds) = true := by
  unfold flatD
  split
  · rename_i e
    cases e
    simp [numKeys] at h
  · rfl
theorem own_dict {H0 : Hp} {P : Par} {G : Hp} {env : Env} {σ : L2.St} {H : Hp} {i : Nat} {ds : List (D × D)} (ok : StOk K H0 P own G env σ H) (hi : i ∈ own) (h : ownD env i = some ds) :
    ∃ p kvs, σ[i]? = some (some (.ref p)) ∧ H p = some (.dK kvs) ∧ G p = none ∧ RpK K G kvs ds := by
  obtain ⟨e0, hk⟩ := ownD_eq h
  obtain ⟨p, e1, c⟩ := ok.celF e0 hi (flat_num hk)
  obtain ⟨hg, c⟩ := c
  rcases c with ⟨vs, ds', e, e2, r⟩ | ⟨vs, ds', e, e2, r⟩ | ⟨vs, ds', e, e2, r⟩
  · cases e
  · cases e
    exact ⟨p, vs, e1, e2, hg, r⟩
  · cases e
    simp [numKeys] at hk
theorem EvI.dgetO {i : Nat} (hi : i ∈ own) (hb : EvI K tw own W cl tb fb) : EvI K tw own W cl (tDGet (tVar i) tb) (Hz.dgetO i fb) := fun H0 P G env σ H Q hp ok ans => by
  obtain ⟨p0, e0⟩ := slot_of ok hi
  refine ⟨.ref p0, e0, hb H0 P G env σ H _ hp ok (ans.bind.mono (fun b hb' G2 H2 y g2 ok2 ry => ?_) fun _ h => h)⟩
  obtain ⟨ds, eo, q1⟩ := ans_lift hb'
  obtain ⟨d, e, q⟩ := ans_lift q1
  obtain ⟨p, kvs, e1, hH, hg, r1⟩ := own_dict ok2 hi eo
  rw [e0] at e1
  cases e1
  obtain ⟨bd, be⟩ := b
  simp only at e
  cases hk : keyOf bd with
  | none => rw [hk] at e; cases e
  | some k =>
    rw [hk] at e
    have ek := keyOf_some hk
    subst ek
    have ey := ry.key
    subst ey
    obtain ⟨v, hv, rv⟩ := (RpK.val r1).1 d e
    exact ⟨p0, v, rfl, hv ▸ DGet.k hH, q G2 H2 v g2 ok2 rv⟩
theorem EvI.dinNotO {i : Nat} (hi : i ∈ own) (ha : EvI K tw own W cl ta fa) : EvI K tw own W cl (tDNotIn ta (tVar i)) (Hz.dinNotO fa i) := fun H0 P G env σ H Q hp ok ans => by
  refine ha H0 P G env σ H _ hp ok (ans.bind.mono (fun b hb' G2 H2 y g2 ok2 ry => ?_) fun _ h => h)
  obtain ⟨ds, eo, q1⟩ := ans_lift hb'
  obtain ⟨d, e, q⟩ := ans_lift q1
  obtain ⟨p, kvs, e1, hH, hg, r1⟩ := own_dict ok2 hi eo
  obtain ⟨bd, be⟩ := b
  simp only at e
  cases hk : keyOf bd with
  | none => rw [hk] at e; cases e
  | some k =>
    rw [hk] at e
    cases e
    have ek := keyOf_some hk
    subst ek
    have ey := ry.key
    subst ey
    refine ⟨.ref p, e1, p, valV kvs k, rfl, DGet.k hH, ?_⟩
    have := q G2 H2 (.bl (!hasD ds (kD k))) g2 ok2 (.bl _)
    rw [← RpK.any (k := k) r1, valV_any] at this
    exact this
theorem EvS.dput {i : Nat} {tk tv : TE} {fk fv : Env → R (D × Env)} (hi : i ∈ own) (hk : EvI K tw own W cl tk fk) (hv : EvI K tw own W cl tv fv) : EvS K tw own own oL W cl (sDPut (tVar i) tk tv) (dputS i fk fv) := EvS.of fun H0 P G env σ H E hp ok ans => by
  obtain ⟨p0, e0⟩ := slot_of ok hi
  refine hv H0 P G env σ H _ hp ok (ans.bind.mono (fun a ha G1 H1 x g1 ok1 rx => ?_) fun c h H' fr => h σ H' ok.ln fr)
  refine ⟨.ref p0, e0, hk H0 P G1 a.2 σ H1 _ hp ok1 (ha.bind.mono (fun b hb G2 H2 y g2 ok2 ry => ?_) fun c h H' fr => h σ H' ok.ln fr)⟩
  obtain ⟨ds, eo, q1⟩ := ans_lift hb
  obtain ⟨ky, ek1, q⟩ := ans_lift q1
  clear q1
  obtain ⟨p, kvs, e1, hH, hg, r1⟩ := own_dict ok2 hi eo
  rw [e0] at e1
  cases e1
  obtain ⟨bd, be⟩ := b
  have ek := keyOf_some ek1
  simp only at ek
  subst ek
  have ey := ry.key
  subst ey
  by_cases hl : ds.length < 1000
  · rw [if_pos hl] at q
    refine ⟨p0, _, rfl, DPut.k hH (by rw [r1.length, sizeLine_eq]; omega), ?_⟩
    exact q G2 σ _ (g1.trans g2) (ok2.write (ownD_eq eo).1 hi e0 (flat_num (ownD_eq eo).2) ⟨hg, .inr (.inl ⟨_, _, rfl, upd_same, r1.put (rx.mono g2.1)⟩)⟩)
  · rw [if_neg hl] at q
    exact q.elim
def disp1 (c : Int) : D → Option D
  | .int k => some (.dict [(.int k, .int c)])
  | _ => none
theorem EvN.disp1 {i : Nat} {c : Int} (hi : i ∉ own) : EvN K tw own W cl (tDisp [(tVar i, tC (.int c))]) (op1 (Hz.disp1 c) (varD i)) := fun H0 P G env σ H Q hp ok ans => by
  intro p np
  cases he : env[i]? with
  | none =>
    unfold Hz.op1 varD at ans
    simp only [he] at ans
    exact ans.elim
  | some o =>
    cases o with
    | none =>
      unfold Hz.op1 varD at ans
      simp only [he] at ans
      exact ans.elim
    | some d =>
      obtain ⟨v, hv, rv⟩ := ok.val i d he hi
      unfold Hz.op1 varD at ans
      simp only [he] at ans
      obtain ⟨d2, e2, q⟩ := ans_lift (show Ans ((lift (Hz.disp1 c d)).bind fun d2 => R.ok (d2, env)) _ _ from ans)
      cases d <;> first | (cases e2; done) | skip
      rename_i k
      cases e2
      cases rv
      refine ⟨.int k, hv, ?_⟩
      refine ⟨upd_same, [(.inl k, .int c)], rfl, by simp, ?_⟩
      have e3 : upd (upd H p (.dK [])) p (.dK (mergeK [] [(Sum.inl k, V.int c)])) = upd H p (.dK [(Sum.inl k, V.int c)]) := by
        funext b
        by_cases z : b = p
        · subst z
          rw [upd_same, upd_same]
          rfl
        · rw [upd_ne z, upd_ne z, upd_ne z]
      rw [e3]
      exact q G H p _ Gr.refl ok np ⟨ok.sub.free np, .inr (.inl ⟨_, _, rfl, upd_same, .cons (.int c) .nil⟩)⟩
end
section
variable {X : Cx} {tw : List Nat} {own oL : List Nat} {W : WX} {cl : Nat → Addr} {a b e : Expr} {p p1 p2 pos pos' q : Pos} {ta tb te : TE} {fa fb fe : Env → R (D × Env)}
theorem de_dgetO (i : Nat) {x : Str} (hu : X.A.units + 1 < cLine) (hi : i ∈ own) (hx : PE X (.Name x q) (tVar i)) (hb : DI X tw own W cl b tb fb) (hs : NoSl b := by exact fun _ _ => rfl) : DI X tw own W cl (.Subscript (.Name x q) b pos) (tDGet (tVar i) tb) (dgetO i fb) := ⟨pe_dget hu hx hb.pe hs, EvI.dgetO hi hb.ev⟩
theorem dt_dinNO (i : Nat) {x : Str} (hu : X.A.units + 1 < cLine) (hi : i ∈ own) (ha : DI X tw own W cl a ta fa) (hx : PE X (.Name x q) (tVar i)) (hm : behindInMarks .NotIn (.Name x q) = false := by rfl) : DT X tw own W cl (.Compare a [.NotIn] [.Name x q] pos) (tB (tDNotIn ta (tVar i))) (tstD (dinNotO fa i)) := ⟨pt_cmp (pc_dnotin hu ha.pe hx) hm, EvT.tB (EvI.dinNotO hi ha.ev)⟩
theorem ds_dput (i : Nat) {x : Str} (hu : X.A.units + 1 < cLine) (hi : i ∈ own) (hx : PE X (.Name x q) (tVar i)) (hk : DI X tw own W cl b tb fb) (hv : DI X tw own W cl e te fe) (hs : swapsWith e (some (.Subscript (.Name x q) b pos')) pos.line X.env = pure false := by rfl) :
    DS X tw own own oL W cl (.Assign [.Subscript (.Name x q) b pos'] e pos) (sDPut (tVar i) tb te) (dputS i fb fe) := ⟨ps_dput hu hx hk.pe hv.pe hs, EvS.dput hi hk.ev hv.ev⟩
theorem dn_disp1 (i : Nat) {x : Str} {c : Int} {j : Nat} (hi : i ∉ own) (hx : PE X (.Name x q) (tVar i)) : DN X tw own W cl (.Dict [some (.Name x q)] [.Constant (.int c) j p2] pos) (tDisp [(tVar i, tC (.int c))]) (op1 (disp1 c) (varD i)) :=
  ⟨pe_disp (pps_cons hx pe_int pps_nil) rfl rfl (by simp) (by simp), EvN.disp1 hi⟩
end
end Hz

/-! ### set of a tuple of texts -/
namespace Hz
open PySem PySem.Spec PyProof.Rows L2 PySem.Froz
section
variable {P : Program} {w : World} {A : Around} {E : Value → Shared → Prop} {s : Shared}
end
section
variable {X : Cx}
variable {tw : List Nat} {own : List Nat} {W : WX} {cl : Nat → Addr} {a : Expr} {p p2 q pos : Pos} {ta : TE} {fa : Env → R (D × Env)}
end
end Hz

/-! ### set of a list of numbers, list(text), list(dict), d.get(k, x) -/
namespace Hz
open PySem PySem.Spec PyProof.Rows L2
section
variable {P : Program} {w : World} {A : Around} {E : Value → Shared → Prop} {s : Shared}
end
section
variable {X : Cx}
variable {tw : List Nat} {own : List Nat} {W : WX} {cl : Nat → Addr} {a : Expr} {p p2 q pos : Pos} {ta : TE} {fa : Env → R (D × Env)}
end
/-! ### list(text), list(dict) -/
section
variable {X : Cx}
variable {tw : List Nat} {own : List Nat} {W : WX} {cl : Nat → Addr} {e : Expr} {p pos : Pos} {tA : TA} {fA : Env → R (List D × Env)}
end
/-! ### d.get(k, x), d ours -/
section
variable {K : PySem.W.Frag} {tw : List Nat} {own oL : List Nat} {W : WX} {cl : Nat → Addr} {ta tb : TE} {fa fb : Env → R (D × Env)}
end
section
variable {X : Cx} {tw : List Nat} {own oL : List Nat} {W : WX} {cl : Nat → Addr} {a b : Expr} {apos pos q : Pos} {ta tb : TE} {fa fb : Env → R (D × Env)}
end
end Hz

/-! ### t.index(x) of a tuple of words, s.index(x) of a text -/
namespace Hz
open PySem PySem.Spec PyProof.Rows L2
section
variable {X : Cx} {o e : Expr} {apos cpos : Pos} {to te : TE}
def rTIx (K : PySem.W.Frag) : V → List V → Hp → VK → Prop := fun x xs H Q => ∃ p, ∃ ys : List Str, ∃ z j, x = .ref p ∧ xs = [.str z] ∧ SqT K H p (ys.map V.str) ∧ ys[j]? = some z ∧ (∀ m, m < j → ys[m]? ≠ some z) ∧ Q (.int (j : Nat)) H
def tTIx (K : PySem.W.Frag) (to te : TE) : TE := fun σ H Q => to σ H fun x H1 => ∃ p xs, x = .ref p ∧ NoD K H1 p ∧ SqT K H1 p xs ∧ te σ H1 fun y H2 => rTIx K x [y] H2 Q
theorem nd_at {pins : List (Addr × Obj)} {σ : L2.St} {H : Hp} {s : Shared} {p : Addr} {xs : List V} (I : L2.Inv X pins σ H s) (nd : NoD X.K H p) (hq : SqT X.K H p xs) : s.TypeIs (.ref p) "tuple" ∧ ∃ ob, s.heap.get? p = some ob ∧ ob.dict = none := by
  obtain ⟨its, r, pl, hz⟩ := I.tuple hq
  refine ⟨pl.typeIs, ?_⟩
  rcases nd with ⟨ob, u, h, hd⟩ | ⟨ob, h, _, hd⟩
  · exact ⟨ob, (I.hok p _ h).1, hd⟩
  · exact ⟨ob, I.kIn p ob h, hd⟩
theorem pe_tix (ho : PE X o to) (he : PE X e te) (hbase : attributeBase o "index" X.env (eval o X.env) = eval o X.env := by rfl)
    (hfew : ((backTo cpos (starEach [e] X.env)).all (fun x => !x.1) && (backToKw cpos (keywordEach [] X.env)).all (fun x => x.1.isSome) && decide (([e] : List Expr).length + ([] : List Keyword).length + (if ([] : List Keyword).isEmpty then 0 else 1) < 30)) = true := by rfl)
    (hline : (apos.endLine == cpos.line) = true := by rfl) (hs : starEach [e] X.env = (false, eval e X.env) :: starEach [] X.env := by rfl) (hplain : (backTo cpos (starEach [] X.env)).any (·.1) = false := by rfl) :
    PE X (.Call (.Attribute o "index" apos) [e] [] cpos) (tTIx X.K to te) := by
  refine ⟨fun pins s σ H Q I h => ?_⟩
  refine wpAny_Call_method_late hbase hfew hline rfl (thn (ho.run pins s σ H _ I h) fun v s1 hx => ?_)
  obtain ⟨x, H1, I1, r1, p, xs, rfl, nd, hq, q1⟩ := hx
  cases r1
  obtain ⟨h1, ob, h2, h3⟩ := nd_at I1 nd hq
  refine ⟨"tuple", "tuple.index", PySem.F.plainAttrs_tuple, PySem.F.slot_tuple_index, PySem.F.type_tuple_index, h1, fun a z => by cases z; exact ⟨ob, h2, h3⟩, ?_⟩
  have hA := (pa_cons he pa_nil hs).run cpos pins s1 σ H1 (fun vs H2 => rTIx X.K (.ref p) vs H2 Q) I1 q1
  rw [hs] at hA ⊢
  refine Calls.callWith_builtin (by show (false || (backTo cpos (starEach [] X.env)).any (·.1)) = false; rw [hplain] <;> rfl) (Calls.evalArgs_plain ?_)
  exact thn hA fun us s2 hx => by
    obtain ⟨vs, H2, I2, r2, q2⟩ := hx
    exact mt_tup_index pins s2 σ H2 (.ref p) vs (.ref p) us Q I2 rfl r2 q2
end
/-! by data -/
def tixD : D → D → Option D
  | .tuple ds, .str z => match strsOf ds with
    | some ys => if z ∈ ys then some (.int (ys.idxOf z : Nat)) else none
    | none => none
  | _, _ => none
def tixM (a b : Env → R (D × Env)) : Env → R (D × Env) := fun e => (a e).bind fun x => match x.1 with
  | .tuple ds => if needN ds = true then (b x.2).bind fun y => (lift (tixD x.1 y.1)).bind fun d => .ok (d, y.2) else .bad
  | _ => .bad
def sixD : D → D → Option D
  | .str a, .str b => match Builtin.Str.occurrences a b 0 a.length 1 with
    | i :: _ => some (.int (i : Nat))
    | [] => none
  | _, _ => none
section
variable {K : PySem.W.Frag} {tw : List Nat} {own : List Nat} {W : WX} {cl : Nat → Addr} {ta tb : TE} {fa fb : Env → R (D × Env)}
theorem EvI.tix (ha : EvI K tw own W cl ta fa) (hb : EvI K tw own W cl tb fb) : EvI K tw own W cl (tTIx K ta tb) (tixM fa fb) := fun H0 P G env σ H Q hp ok ans => by
  refine ha H0 P G env σ H _ hp ok (ans.bind.mono (fun a ha' G1 H1 x g1 ok1 rx => ?_) fun _ h => h)
  obtain ⟨ad, ae⟩ := a
  cases rx <;> first | exact ha'.elim | skip
  rename_i p xs ds h r n
  simp only at ha'
  by_cases hn : needN ds = true
  · rw [if_pos hn] at ha'
    refine ⟨p, xs, rfl, Same.nd ok1.sub (n.1 hn), Same.sqT ok1.sub h, hb H0 P G1 ae σ H1 _ hp ok1 (ha'.bind.mono (fun b hb' G2 H2 y g2 ok2 ry => ?_) fun _ h => h)⟩
    obtain ⟨d, e, q⟩ := ans_lift hb'
    obtain ⟨bd, be⟩ := b
    cases ry <;> first | (cases e; done) | skip
    rename_i z
    simp only [tixD] at e
    split at e
    · rename_i ys hys
      split at e
      · rename_i hz
        cases e
        have ed := strsOf_eq hys
        subst ed
        have ev := RpA.strs r
        subst ev
        have hlt := List.idxOf_lt_length_of_mem hz
        refine ⟨p, ys, z, ys.idxOf z, rfl, rfl, Same.sqT ok2.sub (Same.sqT g2.1 h), ?_, fun m hm hc => ?_, q G2 H2 _ (g1.trans g2) ok2 (.int _)⟩
        · rw [List.getElem?_eq_getElem hlt]
          exact congrArg some (List.getElem_idxOf hlt)
        · have hml : m < ys.length := lt_of_get hc
          unfold List.idxOf at hm
          have := List.not_of_lt_findIdx hm
          rw [List.getElem?_eq_getElem hml] at hc
          have hc' : ys[m] = z := Option.some.inj hc
          rw [hc'] at this
          simp at this
      · cases e
    · cases e
  · rw [if_neg hn] at ha'
    exact ha'.elim
theorem v_six : OpS K (fun x xs H Q => ∃ a b i rest, x = .str a ∧ xs = [.str b] ∧ Builtin.Str.occurrences a b 0 a.length 1 = i :: rest ∧ Q (.int (i : Nat)) H) sixD := fun G H x y dx dy d Q sub rx ry e q => by
  cases rx <;> first | (cases e; done) | skip
  cases ry <;> first | (cases e; done) | skip
  rename_i a b
  simp only [sixD] at e
  split at e
  · rename_i i rest ho
    cases e
    exact ⟨a, b, i, rest, rfl, rfl, ho, q G H _ (Grow.refl sub) (.int _)⟩
  · cases e
end
section
variable {X : Cx} {tw : List Nat} {own : List Nat} {W : WX} {cl : Nat → Addr} {o e : Expr} {apos pos : Pos} {ta tb : TE} {fa fb : Env → R (D × Env)} {k : Nat}
theorem de_m_tix (hr : Room k X.A) (ho : DI X tw own W cl o ta fa) (he : DI X tw own W cl e tb fb) (hbase : attributeBase o "index" X.env (eval o X.env) = eval o X.env := by rfl)
    (hfew : ((backTo pos (starEach [e] X.env)).all (fun x => !x.1) && (backToKw pos (keywordEach [] X.env)).all (fun x => x.1.isSome) && decide (([e] : List Expr).length + ([] : List Keyword).length + (if ([] : List Keyword).isEmpty then 0 else 1) < 30)) = true := by rfl)
    (hline : (apos.endLine == pos.line) = true := by rfl) (hs : starEach [e] X.env = (false, eval e X.env) :: starEach [] X.env := by rfl) (hplain : (backTo pos (starEach [] X.env)).any (·.1) = false := by rfl) :
    DI X tw own W cl (.Call (.Attribute o "index" apos) [e] [] pos) (tTIx X.K ta tb) (tixM fa fb) := ⟨pe_tix ho.pe he.pe hbase hfew hline hs hplain, EvI.tix ho.ev he.ev⟩
theorem de_m_six (hr : Room k X.A) (ho : DI X tw own W cl o ta fa) (he : DI X tw own W cl e tb fb) (hs : starEach [e] X.env = [(false, eval e X.env)] := by rfl) (hbase : attributeBase o "index" X.env (eval o X.env) = eval o X.env := by rfl) (hline : (apos.endLine == pos.line) = true := by rfl) :
    DI X tw own W cl (.Call (.Attribute o "index" apos) [e] [] pos) (tM1 (fun x xs H Q => ∃ a b i rest, x = .str a ∧ xs = [.str b] ∧ Builtin.Str.occurrences a b 0 a.length 1 = i :: rest ∧ Q (.int (i : Nat)) H) ta tb) (strM sixD fa fb) := ⟨pe_m1 PySem.F.slot_str_index PySem.F.type_str_index mt_sindex ho.pe he.pe hs hbase hline, EvI.strM v_six ho.ev he.ev⟩
end
end Hz

/-! ### a comprehension over a dict: the dict is locked meanwhile -/
namespace Hz
open PySem PySem.Spec PyProof.Rows L2
section
variable {K : PySem.W.Frag} {G G' H H' H0 H0' : Hp} {d : Addr} {kvs : List (Key × V)}
structure Sw (G G' : Hp) (d : Addr) (kvs : List (Key × V)) : Prop where
  ne : ∀ a, a ≠ d → G' a = G a
  old : Rd G d (.dK kvs)
  new : Rd G' d (.dK kvs)
theorem Sw.no (s : Sw G G' d kvs) {a : Addr} {u : HO} (h : G a = some u) (h1 : ∀ k, u ≠ .dK k) (h2 : ∀ o k, u ≠ .frz o (.dK k)) : a ≠ d := fun z => by
  subst z
  rcases s.old with e | ⟨o, e⟩
  · rw [h] at e
    exact h1 _ (Option.some.inj e)
  · rw [h] at e
    exact h2 _ _ (Option.some.inj e)
theorem Sw.at (s : Sw G G' d kvs) {a : Addr} {u : HO} (h : G a = some u) (h1 : ∀ k, u ≠ .dK k) (h2 : ∀ o k, u ≠ .frz o (.dK k)) : G' a = some u := by
  rw [s.ne a (s.no h h1 h2)]
  exact h
theorem Sw.rd (s : Sw G G' d kvs) {a : Addr} {u : HO} (h : Rd G a u) (h1 : ∀ k, u ≠ .dK k) (h2 : ∀ o k, u ≠ .frz o (.dK k)) : Rd G' a u := by
  rcases h with h | ⟨o, h⟩
  · exact .inl (s.at h h1 h2)
  · exact .inr ⟨o, s.at h (fun k z => by cases z) fun o' k z => by cases z; exact h1 k rfl⟩
theorem Sw.sqT (s : Sw G G' d kvs) {a : Addr} {xs : List V} (h : SqT K G a xs) : SqT K G' a xs := by
  rcases h with h | h
  · exact .inl (s.rd h (fun k z => by cases z) fun o k z => by cases z)
  · exact .inr h
theorem Sw.nd (s : Sw G G' d kvs) {a : Addr} (h : NoD K G a) : NoD K G' a := by
  rcases h with ⟨o, xs, h, hd⟩ | h
  · exact .inl ⟨o, xs, s.at h (fun k z => by cases z) (fun o' k z => by cases z), hd⟩
  · exact .inr h
theorem Sw.gd (s : Sw G G' d kvs) : ∃ u, G d = some u := by
  rcases s.old with e | ⟨o, e⟩ <;> exact ⟨_, e⟩
theorem Sw.none (s : Sw G G' d kvs) {p : Addr} (h : G p = none) : G' p = none := by
  rw [s.ne p fun z => ?_]
  · exact h
  · obtain ⟨u, hu⟩ := s.gd
    rw [z, hu] at h
    cases h
variable {P : Par} {own : List Nat} {env : Env} {σ : L2.St}
end
section
variable {K : PySem.W.Frag} {tw : List Nat} {own sl vs : List Nat} {W : WX} {cl : Nat → Addr}
end
section
variable {X : Cx} {tw : List Nat} {own sl : List Nat} {W : WX} {cl : Nat → Addr} {tg : Expr} {pos : Pos} {ft : Env → R (Bool × Env)} {fe : Env → R (D × Env)}
end
end Hz

/-! ### a list comprehension whose elements may raise (a def's own comprehension) -/
namespace Hz
open PySem PySem.Spec PyProof.Rows L2
open PySem.W (hideAll of_hideAll hideAll_get hideAll_none)
section
variable {M : Model} {A : Around} {E : Value → Shared → Prop} {s : Shared} {env : PySem.Env}
end
section
variable {M : Model} {A : Around} {E : Value → Shared → Prop} {s : Shared} {Z : Obj → Prop} {base : Heap} {env : PySem.Env} {outer l : List PySem.Env} {L L' e : Addr}
end
section
variable {X : Cx} {pins : List (Addr × Obj)} {σ : L2.St} {H : Hp} {s : Shared} {W Wb : WX} {scope : Scope} {ce : PySem.Env} {fp : List Addr} {Qf : Value → Shared → Prop} {acc : Value}
end
section
variable {K : PySem.W.Frag} {tw : List Nat} {own sl vs : List Nat} {W : WX} {cl : Nat → Addr}
end
section
variable {X : Cx}
end
section
variable {X : Cx} {tw : List Nat} {own sl : List Nat} {W : WX} {cl : Nat → Addr} {tg : Expr} {pos : Pos} {ft : Env → R (Bool × Env)} {fe : Env → R (D × Env)}
end
end Hz

namespace Hz
open PySem PySem.Spec PyProof.Rows L2
/-! ### dicts with pairs of numbers as keys -/
def keyT : D → Option (Int × Int)
  | .tuple [.int x, .int y] => some (x, y)
  | _ => none
theorem keyT_eq {d : D} {p : Int × Int} (h : keyT d = some p) : d = .tuple [.int p.1, .int p.2] := by
  unfold keyT at h
  split at h
  · cases h
    rfl
  · cases h
def kT (p : Int × Int) : List Key := [.inl p.1, .inl p.2]
def pkD (p : Int × Int) : D := .tuple [.int p.1, .int p.2]
theorem keyT_k {k : List Key} {p : Int × Int} : keyT (.tuple (k.map kD)) = some p ↔ k = kT p := by
  constructor
  · intro h
    have e := keyT_eq h
    injection e with e
    match k, e with
    | [a, b], e =>
      simp only [List.map_cons, List.map_nil, List.cons.injEq, and_true] at e
      obtain ⟨e1, e2⟩ := e
      cases a <;> cases b <;> simp [kD] at e1 e2
      unfold kT
      rw [e1, e2]
    | [], e => simp at e
    | [_], e => simp at e
    | _ :: _ :: _ :: _, e => simp at e
  · rintro rfl
    rfl
def valT : List (D × D) → Int × Int → Option D
  | [], _ => none
  | (k, d) :: r, p => if keyT k = some p then some d else valT r p
def hasT (ds : List (D × D)) (p : Int × Int) : Bool := ds.any fun e => decide (keyT e.1 = some p)
def putT (ds : List (D × D)) (p : Int × Int) (d : D) : List (D × D) := if hasT ds p = true then ds.map (fun e => if keyT e.1 = some p then (e.1, d) else e) else ds ++ [(pkD p, d)]
section
variable {K : PySem.W.Frag} {G : Hp}
theorem RpT.val {p : Int × Int} : ∀ {kvs : List (List Key × V)} {ds : List (D × D)}, RpT K G kvs ds → (∀ d, valT ds p = some d → ∃ v, valV kvs (kT p) = some v ∧ Rp K G v d) ∧ (valT ds p = none → valV kvs (kT p) = none)
  | _, _, .nil => ⟨fun _ h => (by cases h), fun _ => rfl⟩
  | _, _, .cons (k := k) r t => by
    obtain ⟨i1, i2⟩ := RpT.val (p := p) t
    unfold valT
    by_cases e : k = kT p
    · rw [if_pos (keyT_k.mpr e)]
      refine ⟨fun d h => ?_, fun h => by cases h⟩
      cases h
      exact ⟨_, valV_pos e, r⟩
    · rw [if_neg (fun z => e (keyT_k.mp z))]
      refine ⟨fun d h => ?_, fun h => ?_⟩
      · obtain ⟨v, hv, rv⟩ := i1 d h
        exact ⟨v, by rw [valV_neg e]; exact hv, rv⟩
      · rw [valV_neg e]
        exact i2 h
theorem RpT.has {p : Int × Int} : ∀ {kvs : List (List Key × V)} {ds : List (D × D)}, RpT K G kvs ds → (kvs.any fun kv => decide (kv.1 = kT p)) = hasT ds p
  | _, _, .nil => rfl
  | _, _, .cons (k := k) r t => by
    have ih := RpT.has (p := p) t
    unfold hasT at ih ⊢
    rw [List.any_cons, List.any_cons, ih]
    congr 1
    exact decide_eq_decide.mpr keyT_k.symm
theorem RpT.repl {p : Int × Int} {v : V} {d : D} (rv : Rp K G v d) : ∀ {kvs : List (List Key × V)} {ds : List (D × D)}, RpT K G kvs ds → RpT K G (kvs.map fun kv => if kv.1 = kT p then (kv.1, v) else kv) (ds.map fun e => if keyT e.1 = some p then (e.1, d) else e)
  | _, _, .nil => .nil
  | _, _, .cons (k := k) r t => by
    have ih := RpT.repl (p := p) rv t
    rw [List.map_cons, List.map_cons]
    by_cases e : k = kT p
    · rw [if_pos e, if_pos (keyT_k.mpr e)]
      exact .cons rv ih
    · rw [if_neg e, if_neg (fun z => e (keyT_k.mp z))]
      exact .cons r ih
theorem RpT.snoc {p : Int × Int} {v : V} {d : D} (rv : Rp K G v d) : ∀ {kvs : List (List Key × V)} {ds : List (D × D)}, RpT K G kvs ds → RpT K G (kvs ++ [(kT p, v)]) (ds ++ [(pkD p, d)])
  | _, _, .nil => .cons rv .nil
  | _, _, .cons r t => .cons r (RpT.snoc rv t)
theorem RpT.put {p : Int × Int} {v : V} {d : D} (rv : Rp K G v d) {kvs : List (List Key × V)} {ds : List (D × D)} (r : RpT K G kvs ds) : RpT K G (putK kvs (kT p) v) (putT ds p d) := by
  unfold putK putT
  rw [r.has]
  split
  · exact r.repl rv
  · exact r.snoc rv
theorem RpT.length : ∀ {kvs : List (List Key × V)} {ds : List (D × D)}, RpT K G kvs ds → kvs.length = ds.length
  | _, _, .nil => rfl
  | _, _, .cons _ t => by simp [RpT.length t]
theorem Rp.dT {v : V} {ds : List (D × D)} (r : Rp K G v (.dict ((.bool true, .none) :: ds))) : ∃ a kvs, v = .ref a ∧ G a = some (.dT kvs) ∧ RpT K G kvs ds := by
  cases r with
  | dit h r => exact ⟨_, _, rfl, h, r⟩
  | dic h r =>
    exfalso
    generalize e : ((PyData.bool true, PyData.none) :: ds : List (D × D)) = l at r
    cases r with
    | nil => cases e
    | cons rv t =>
      rename_i k _ _ _ _
      injection e with e _
      injection e with e _
      cases k <;> cases e
end
section
variable {K : PySem.W.Frag} {tw : List Nat} {own oL : List Nat} {W : WX} {cl : Nat → Addr} {ta tb tc : TE} {fa fb fc : Env → R (D × Env)}
end
section
variable {X : Cx} {tw : List Nat} {own oL : List Nat} {W : WX} {cl : Nat → Addr} {a b c e : Expr} {p p1 p2 pos pos' q apos : Pos} {ta tb tc te : TE} {fa fb fc fe : Env → R (D × Env)}
end
end Hz

namespace Hz
open PySem PySem.Spec PyProof.Rows L2
/-! ### sorted(d.keys()), the keys pairs of small numbers -/
section
open PySem.W PySem.Calls PyProof.V
variable {prog : Program} {w : World} {A : Around} {E : Value → Shared → Prop} {s : Shared} {T : String} {r d : Addr} {n : Nat} {P : Nat → Value → Prop} {OK : Heap → Prop}
end
section
variable {X : Cx}
end
end Hz

namespace Hz
open PySem PySem.Spec PyProof.Rows L2
/-! ### tuples that stand already may be frozen -/
/-! ### sorted(d.keys()) -/
section
variable {K : PySem.W.Frag}
end
section
variable {X : Cx} {tw : List Nat} {own : List Nat} {W : WX} {cl : Nat → Addr} {a : Expr} {p p2 q pos apos : Pos} {ta : TE} {fa : Env → R (D × Env)}
end
end Hz

namespace Hz
open PySem PySem.Spec PyProof.Rows L2
/-! ### dict(xs), xs a list of pairs whose keys are pairs of numbers -/
section
variable {X : Cx}
end
section
variable {K : PySem.W.Frag}
end
section
variable {X : Cx} {tw : List Nat} {own : List Nat} {W : WX} {cl : Nat → Addr} {e : Expr} {pos p : Pos} {tA : TA} {fA : Env → R (List D × Env)}
end
end Hz

namespace Hz
open PySem PySem.Spec PyProof.Rows L2
/-! ### defs that give a list of their own: the caller owns it -/
def spN (K : PySem.W.Frag) (cl : Nat → Addr) (n : Nat) (F : List D → R D) : Sp := fun vs H Q E => ∃ G ds, Same G H ∧ RpA K G vs ds ∧ ds.length = n ∧
  Ans (F ds) (fun d => ∀ G' H' p os, Grow G H G' H' → (∀ x ∈ dm os, H x = none) → CellO K G' p d os → Held G' H' os → Q (.ref p) H') (fun c => ∀ H', Same H H' → E (.ref (cl c)) none H')
theorem spN.len {K : PySem.W.Frag} {cl : Nat → Addr} {n : Nat} {F : List D → R D} (vs : List V) (H : Hp) (Q : VK) (E : XK) (h : spN K cl n F vs H Q E) : vs.length = n := by
  obtain ⟨G, ds, _, r, e, _⟩ := h
  rw [r.length]
  exact e
section
variable {X : Cx} {tw : List Nat} {own oM : List Nat} {W : WX} {cl : Nat → Addr} {st : Stmt} {sts : List Stmt} {ts tu : TS} {f g : Env → R (Fl × Env)} {pos q : Pos}
end
section
variable {P : Program} {w : World} {K : PySem.W.Frag} {mg : Str → Option Value} {base : Heap} {cl : Nat → Addr}
end
section
variable {K : PySem.W.Frag} {tw : List Nat} {own : List Nat} {W : WX} {cl : Nat → Addr} {tA : TA} {fA : Env → R (List D × Env)}
end
section
variable {X : Cx} {tw : List Nat} {own : List Nat} {W : WX} {cl : Nat → Addr} {e : Expr} {es : List Expr} {pos p : Pos} {tA : TA} {fA : Env → R (List D × Env)}
end
end Hz

namespace Hz
open PySem PySem.Spec PyProof.Rows L2
open PySem.W (AlikeAll iter_listW moved_old cmpIn_lt argBest_fold)
/-! ### min(xs), xs a list of data that are alike -/
section
variable {X : Cx}
end
section
variable {K : PySem.W.Frag}
end
section
variable {X : Cx} {tw : List Nat} {own : List Nat} {W : WX} {cl : Nat → Addr} {e : Expr} {pos p : Pos} {tA : TA} {fA : Env → R (List D × Env)}
end
end Hz

namespace Hz
open PySem PySem.Spec PyProof.Rows L2
/-! ### xs.extend(tuple) -/

section
variable {X : Cx}
end
section
variable {K : PySem.W.Frag} {tw : List Nat} {own : List Nat} {W : WX} {cl : Nat → Addr} {te : TE} {fe : Env → R (D × Env)}
end
section
variable {X : Cx} {tw : List Nat} {own oL : List Nat} {W : WX} {cl : Nat → Addr} {e : Expr} {pos : Pos} {te : TE} {fe : Env → R (D × Env)}
end
end Hz

namespace Hz
open PySem PySem.Spec PyProof.Rows L2
/-! ### a, b, c = x, y, z with plain local names: stored from the right -/
section
variable {X : Cx} {tw : List Nat} {own oL : List Nat} {W : WX} {cl : Nat → Addr} {ks : List Bool} {tA : TA} {fA : Env → R (List D × Env)}
end
end Hz

namespace Hz
open PySem PySem.Spec PyProof.Rows L2
/-! ### text.count(text) -/
def countM : D → D → Option D
  | .str a, .str b => some (.int (Txt.count a b))
  | _, _ => none
section
variable {K : PySem.W.Frag}
theorem v_count : OpS K (fun x xs H Q => ∃ a b, x = .str a ∧ xs = [.str b] ∧ Q (.int (Txt.count a b)) H) countM := fun G H x y dx dy d Q sub rx ry e q => by
  cases rx <;> first | (cases e; done) | skip
  cases ry <;> first | (cases e; done) | skip
  rename_i a b
  simp only [countM] at e
  cases e
  exact ⟨a, b, rfl, rfl, q G H _ (Grow.refl sub) (.int _)⟩
end
section
variable {X : Cx} {tw : List Nat} {own : List Nat} {W : WX} {cl : Nat → Addr} {o e : Expr} {apos pos : Pos} {ta tb : TE} {fa fb : Env → R (D × Env)} {k : Nat}
theorem de_m_count (hr : Room k X.A) (ho : DI X tw own W cl o ta fa) (he : DI X tw own W cl e tb fb) (hs : starEach [e] X.env = [(false, eval e X.env)] := by rfl) (hbase : attributeBase o "count" X.env (eval o X.env) = eval o X.env := by rfl) (hline : (apos.endLine == pos.line) = true := by rfl) :
    DI X tw own W cl (.Call (.Attribute o "count" apos) [e] [] pos) (tM1 (fun x xs H Q => ∃ a b, x = .str a ∧ xs = [.str b] ∧ Q (.int (Txt.count a b)) H) ta tb) (strM countM fa fb) := ⟨pe_m1 F.slot_str_count F.type_str_count mt_count ho.pe he.pe hs hbase hline, EvI.strM v_count ho.ev he.ev⟩
end
end Hz

/-! looks at what is ours: frozen for the time of an expression that changes nothing -/
namespace Hz
open PySem PySem.Spec PyProof.Rows L2

mutual
def lightD : D → Bool
  | .tuple ds => lightL ds
  | .list _ => false
  | .dict _ => false
  | .none => true
  | .bool _ => true
  | .int _ => true
  | .str _ => true
def lightL : List D → Bool
  | [] => true
  | d :: ds => lightD d && lightL ds
end
def TupS (G G' : Hp) : Prop := (∀ a xs, G a = some (.tup xs) → G' a = some (.tup xs)) ∧ ∀ a o xs, G a = some (.frz o (.tup xs)) → G' a = some (.frz o (.tup xs))
section
variable {K : PySem.W.Frag} {G G' : Hp}
theorem TupS.sq (e : TupS G G') {a : Addr} {xs : List V} (h : SqT K G a xs) : SqT K G' a xs := by
  rcases h with (h | ⟨o, h⟩) | h
  · exact .inl (.inl (e.1 _ _ h))
  · exact .inl (.inr ⟨o, e.2 _ _ _ h⟩)
  · exact .inr h
theorem TupS.nd (e : TupS G G') {a : Addr} (h : NoD K G a) : NoD K G' a := by
  rcases h with ⟨o, xs, h, hd⟩ | h
  · exact .inl ⟨o, xs, e.2 _ _ _ h, hd⟩
  · exact .inr h
mutual
theorem Rp.light (e : TupS G G') : ∀ {v : V} {d : D}, Rp K G v d → lightD d = true → Rp K G' v d
  | _, _, .non, _ => .non
  | _, _, .bl b, _ => .bl b
  | _, _, .int i, _ => .int i
  | _, _, .str x, _ => .str x
  | _, _, .lst h a, l => by simp [lightD] at l
  | _, _, .scr h, l => by simp [lightD] at l
  | _, _, .tup h a n, l => .tup (e.sq h) (RpA.light e a (by simpa [lightD] using l)) ⟨fun z => e.nd (n.1 z), fun z => e.1 _ _ (n.2 z)⟩
  | _, _, .dic h a, l => by simp [lightD] at l
  | _, _, .dit h a, l => by simp [lightD] at l
  | _, _, .ins h c a, l => by simp [lightD] at l
  | _, _, .rcd h a, l => by simp [lightD] at l
theorem RpA.light (e : TupS G G') : ∀ {vs : List V} {ds : List D}, RpA K G vs ds → lightL ds = true → RpA K G' vs ds
  | _, _, .nil, _ => .nil
  | _, _, .cons h a, l => by
    simp only [lightL, Bool.and_eq_true] at l
    exact .cons (Rp.light e h l.1) (RpA.light e a l.2)
end
theorem RpK.light (e : TupS G G') : ∀ {vs : List (Key × V)} {ds : List (D × D)}, RpK K G vs ds → lightL (ds.map (·.2)) = true → RpK K G' vs ds
  | _, _, .nil, _ => .nil
  | _, _, .cons h a, l => by
    simp only [List.map_cons, lightL, Bool.and_eq_true] at l
    exact .cons (h.light e l.1) (RpK.light e a l.2)
end
open Classical in
noncomputable def onF (F : Addr → Prop) (A B : Hp) : Hp := fun a => if F a then A a else B a
theorem onF_in {F : Addr → Prop} {A B : Hp} {a : Addr} (h : F a) : onF F A B a = A a := if_pos h
theorem onF_out {F : Addr → Prop} {A B : Hp} {a : Addr} (h : ¬ F a) : onF F A B a = B a := if_neg h
section
variable {K : PySem.W.Frag} {H0 : Hp} {P : Par} {own : List Nat} {G H : Hp} {env : Env} {σ : L2.St}
def NF (o : HO) : Prop := ∀ b u, o ≠ .frz b u
theorem Fl1.nf {v : V} {d : D} {os : Os} (h : Fl1 K G v d os) : ∀ x o, (x, o) ∈ os → NF o := by
  cases h <;> (intro x o m b u z; cases List.mem_singleton.mp m; cases z)
theorem FlA.nf : ∀ {vs : List V} {ds : List D} {os : Os}, FlA K G vs ds os → ∀ x o, (x, o) ∈ os → NF o
  | _, _, _, .nil, x, o, m => by cases m
  | _, _, _, .cons h t, x, o, m => (List.mem_append.mp m).elim (h.nf x o) (FlA.nf t x o)
theorem FlK.nf : ∀ {vs : List (Key × V)} {ds : List (D × D)} {os : Os}, FlK K G vs ds os → ∀ x o, (x, o) ∈ os → NF o
  | _, _, _, .nil, x, o, m => by cases m
  | _, _, _, .cons h t, x, o, m => (List.mem_append.mp m).elim (h.nf x o) (FlK.nf t x o)
theorem Fd.nf {n : Nat} {v : V} {d : D} {os : Os} (h : Fd K G n v d os) : ∀ x o, (x, o) ∈ os → NF o := by
  intro x o m
  cases h with
  | fz r => cases m
  | fl r => exact r.nf x o m
  | ll r => exact (List.mem_cons.mp m).elim (fun z => by cases z; exact fun b u y => by cases y) (r.nf x o)
  | dl r => exact (List.mem_cons.mp m).elim (fun z => by cases z; exact fun b u y => by cases y) (r.nf x o)
theorem DFs.nf : ∀ {fs : List (Str × V)} {ds : List (D × D)} {os : Os}, DFs K G fs ds os → ∀ x o, (x, o) ∈ os → NF o
  | _, _, _, .nil, x, o, m => by cases m
  | _, _, _, .cons h t, x, o, m => (List.mem_append.mp m).elim (h.nf x o) (DFs.nf t x o)
theorem CellO.nf {p : Addr} {d : D} {os : Os} (h : CellO K G p d os) : ∀ x o, (x, o) ∈ os → NF o := by
  intro x o m
  cases h with
  | lst r => cases List.mem_singleton.mp m; exact fun b u y => by cases y
  | dic r => cases List.mem_singleton.mp m; exact fun b u y => by cases y
  | dit r => cases List.mem_singleton.mp m; exact fun b u y => by cases y
  | ins c r =>
    rcases List.mem_cons.mp m with z | m
    · cases z
      exact fun b u y => by cases y
    · exact (List.mem_cons.mp m).elim (fun z => by cases z; exact fun b u y => by cases y) (r.nf x o)
  | rcd r => exact (List.mem_cons.mp m).elim (fun z => by cases z; exact fun b u y => by cases y) (r.nf x o)
def Foot (G H : Hp) (F : Addr → Prop) : Prop := ∀ x, F x → ∃ o, H x = some o ∧ G x = none ∧ NT o ∧ NF o
theorem StOk.borrow (s : StOk K H0 P own G env σ H) : ∃ F, Foot G H F ∧ StOk K H ([], P.2) [] (onF F H G) env σ H := by
  obtain ⟨f, h1, h2⟩ := s.cel
  let F : Addr → Prop := fun x => ∃ i ∈ own, x ∈ dm (f i)
  have ft : Foot G H F := fun x ⟨i, hi, hx⟩ => by
    obtain ⟨_, _, _, _, c, hh, _⟩ := h1 i hi
    obtain ⟨o, ho⟩ := dm_mem.mp hx
    obtain ⟨a1, a2, a3⟩ := hh.at_ x o ho
    exact ⟨o, a1, a2, a3, c.nf x o ho⟩
  have gg : Same G (onF F H G) := fun a o ha => by
    rw [onF_out fun z => ?_]
    · exact ha
    · obtain ⟨u, _, hg, _⟩ := ft a z
      rw [ha] at hg
      cases hg
  refine ⟨F, ft, fun a o ha => ?_, fun a o h _ => h, fun a o h => ⟨o, h, id⟩, s.len, fun i d he _ => ?_, ⟨fun _ => [], fun i z => absurd z List.not_mem_nil, fun i z => absurd z List.not_mem_nil⟩, fun q z => absurd z List.not_mem_nil, fun x ⟨q, z, _⟩ => absurd z List.not_mem_nil, s.ln⟩
  · by_cases z : F a
    · rw [onF_in z] at ha
      exact ha
    · rw [onF_out z] at ha
      exact s.sub a o ha
  · by_cases hi : i ∈ own
    · obtain ⟨p, d', e1, e2, c, hh, _⟩ := h1 i hi
      rw [he] at e1
      cases e1
      exact ⟨.ref p, e2, c.rp gg fun x o m => by rw [onF_in ⟨i, hi, dm_mem.mpr ⟨o, m⟩⟩]; exact (hh.at_ x o m).1⟩
    · obtain ⟨v, e1, r⟩ := s.val i d he hi
      exact ⟨v, e1, r.mono gg⟩
theorem StOk.hide (s : StOk K H0 P own G env σ H) : StOk K H ([], P.2) [] G (wipeE env own) σ H := by
  refine ⟨s.sub, fun a o h _ => h, fun a o h => ⟨o, h, id⟩, by rw [wipeE_length]; exact s.len, fun i d he _ => ?_, ⟨fun _ => [], fun i z => absurd z List.not_mem_nil, fun i z => absurd z List.not_mem_nil⟩, fun q z => absurd z List.not_mem_nil, fun x ⟨q, z, _⟩ => absurd z List.not_mem_nil, s.ln⟩
  obtain ⟨h1, h2⟩ := wipeE_some he
  exact s.val i d h2 h1
theorem Foot.back {F : Addr → Prop} {G' H' : Hp} (ft : Foot G H F) (sub : Same G H) (gr : Gr H (onF F H G) G') (gh : Same G' H') (hh : Same H H') : Grow G H (onF F (fun _ => none) G') H' ∧ TupS G' (onF F (fun _ => none) G') := by
  refine ⟨⟨fun a o ha => ?_, fun a o ha => ?_, hh, fun a o ha n => ?_⟩, fun a xs ha => ?_, fun a u xs ha => ?_⟩
  · have nf : ¬ F a := fun z => by
      obtain ⟨u, _, hg, _⟩ := ft a z
      rw [ha] at hg
      cases hg
    rw [onF_out nf]
    exact gr.1 a o (by rw [onF_out nf]; exact ha)
  · by_cases z : F a
    · rw [onF_in z] at ha
      cases ha
    · rw [onF_out z] at ha
      exact gh a o ha
  · by_cases z : F a
    · rw [onF_in z]
      obtain ⟨u, _, hg, _⟩ := ft a z
      exact hg.symm
    · rw [onF_out z, gr.2 a o ha n, onF_out z]
  · have nf : ¬ F a := fun z => by
      obtain ⟨o, ho, _, n, _⟩ := ft a z
      have h1 := hh a o ho
      rw [gh a _ ha] at h1
      cases h1
      exact n xs rfl
    rw [onF_out nf]
    exact ha
  · have nf : ¬ F a := fun z => by
      obtain ⟨o, ho, _, _, n⟩ := ft a z
      have h1 := hh a o ho
      rw [gh a _ ha] at h1
      cases h1
      exact n _ _ rfl
    rw [onF_out nf]
    exact ha
/-! ### quiet: nothing that stands is changed -/
def QI (K : PySem.W.Frag) (own : List Nat) (W : WX) (cl : Nat → Addr) (t : TE) (f : Env → R D) : Prop :=
  ∀ (H0 : Hp) (P : Par) (G : Hp) (env : Env) (σ : L2.St) (H : Hp) (Q : VK), StOk K H0 P own G env σ H →
    Ans (f env) (fun d => ∀ G' H' v, Grow G H G' H' → Rp K G' v d → Q v H') (fun c => ∀ H', Same H H' → W (.ref (cl c)) none σ H') → t σ H Q
def QA (K : PySem.W.Frag) (own : List Nat) (W : WX) (cl : Nat → Addr) (t : TA) (f : Env → R (List D)) : Prop :=
  ∀ (H0 : Hp) (P : Par) (G : Hp) (env : Env) (σ : L2.St) (H : Hp) (Q : List V → Hp → Prop), StOk K H0 P own G env σ H →
    Ans (f env) (fun ds => ∀ G' H' vs, Grow G H G' H' → RpA K G' vs ds → Q vs H') (fun c => ∀ H', Same H H' → W (.ref (cl c)) none σ H') → t σ H Q
def QT (K : PySem.W.Frag) (own : List Nat) (W : WX) (cl : Nat → Addr) (t : TT) (f : Env → R Bool) : Prop :=
  ∀ (H0 : Hp) (P : Par) (G : Hp) (env : Env) (σ : L2.St) (H : Hp) (Q : Bool → Hp → Prop), StOk K H0 P own G env σ H →
    Ans (f env) (fun b => ∀ G' H', Grow G H G' H' → Q b H') (fun c => ∀ H', Same H H' → W (.ref (cl c)) none σ H') → t σ H Q
def QN (K : PySem.W.Frag) (own : List Nat) (W : WX) (cl : Nat → Addr) (t : TE) (f : Env → R D) : Prop :=
  ∀ (H0 : Hp) (P : Par) (G : Hp) (env : Env) (σ : L2.St) (H : Hp) (Q : VK), StOk K H0 P own G env σ H →
    Ans (f env) (fun d => ∀ G' H' p os, Grow G H G' H' → (∀ x ∈ dm os, H x = none) → CellO K G' p d os → Held G' H' os → Q (.ref p) H') (fun c => ∀ H', Same H H' → W (.ref (cl c)) none σ H') → t σ H Q
theorem StOk.frm (s : StOk K H0 P own G env σ H) {H' : Hp} (h : Same H H') : Frm H0 P H' := fun a o h0 n => h a o (s.fr a o h0 n)
theorem Frm.same {H H' : Hp} {n : Nat} (h : Frm H ([], n) H') : Same H H' := fun a o ha => h a o ha fun ⟨q, z, _⟩ => absurd z List.not_mem_nil
variable {W : WX} {cl : Nat → Addr} {tw : List Nat}
def brwQ (f : Env → R (D × Env)) : Env → R D := fun e => (f e).bind fun x => if lightD x.1 = true then .ok x.1 else .bad
theorem EvI.brwQ {t : TE} {f : Env → R (D × Env)} (h : EvI K [] [] W cl t f) : QI K own W cl t (Hz.brwQ f) := fun H0 P G env σ H Q ok ans => by
  obtain ⟨F, ft, okb⟩ := ok.borrow
  refine h H ([], P.2) _ env σ H Q rfl okb (ans.bind.mono (fun a ha G' H' v gr ok' rv => ?_) fun c hc H' fr => hc H' fr.same)
  by_cases hl : lightD a.1 = true
  · rw [if_pos hl] at ha
    obtain ⟨g, tp⟩ := ft.back ok.sub gr ok'.sub ok'.fr.same
    exact ha _ H' v g (rv.light tp hl)
  · rw [if_neg hl] at ha
    exact ha.elim
def brwB (f : Env → R (Bool × Env)) : Env → R Bool := fun e => (f e).bind fun x => .ok x.1
theorem EvT.brwB {t : TT} {f : Env → R (Bool × Env)} (h : EvT K [] [] W cl t f) : QT K own W cl t (Hz.brwB f) := fun H0 P G env σ H Q ok ans => by
  obtain ⟨F, ft, okb⟩ := ok.borrow
  refine h H ([], P.2) _ env σ H Q rfl okb (ans.bind.mono (fun a ha G' H' gr ok' => ?_) fun c hc H' fr => hc H' fr.same)
  obtain ⟨g, tp⟩ := ft.back ok.sub gr ok'.sub ok'.fr.same
  exact ha _ H' g
def lightC : D → Bool
  | .list ds => lightL ds
  | .dict ds => flatD (.dict ds) && lightL (ds.map (·.2))
  | _ => false
def brwN (f : Env → R (D × Env)) : Env → R D := fun e => (f e).bind fun x => if lightC x.1 = true then .ok x.1 else .bad
theorem RpT.light {G G' : Hp} (e : TupS G G') : ∀ {vs : List (List Key × V)} {ds : List (D × D)}, RpT K G vs ds → lightL (ds.map (·.2)) = true → RpT K G' vs ds
  | _, _, .nil, _ => .nil
  | _, _, .cons h a, l => by
    simp only [List.map_cons, lightL, Bool.and_eq_true] at l
    exact .cons (h.light e l.1) (RpT.light e a l.2)
theorem CellO.light {G G' : Hp} (e : TupS G G') {p : Addr} {d : D} {os : Os} (c : CellO K G p d os) (h : lightC d = true) : CellO K G' p d os := by
  cases c with
  | lst r => exact .lst (r.light e h)
  | dic r =>
    simp only [lightC, Bool.and_eq_true] at h
    exact .dic (r.light e h.2)
  | dit r =>
    simp only [lightC, Bool.and_eq_true, List.map_cons, lightL] at h
    exact .dit (r.light e h.2.2)
  | ins _ _ => simp [lightC, flatD] at h
  | rcd _ => simp [lightC, flatD] at h
theorem EvNo.brwN {t : TE} {f : Env → R (D × Env)} (h : EvNo K [] [] W cl t f) : QN K own W cl t (Hz.brwN f) := fun H0 P G env σ H Q ok ans => by
  obtain ⟨F, ft, okb⟩ := ok.borrow
  refine h H ([], P.2) _ env σ H Q rfl okb (ans.bind.mono (fun a ha G1 H1 G' H' p os gr ok1 gw hf c hd => ?_) fun c hc H' fr => hc H' fr.same)
  by_cases hl : lightC a.1 = true
  · rw [if_pos hl] at ha
    have sh1 : Same H H1 := ok1.fr.same
    have sh : Same H H' := sh1.trans gw.hh
    have gr' : Gr H (onF F H G) G' := gr.trans (gw.gr ok1)
    obtain ⟨g, tp⟩ := ft.back ok.sub gr' gw.gh sh
    refine ha _ H' p os g (fun x hx => sh1.free (hf x hx)) (c.light tp hl) (hd.mono (fun x m => ?_) fun x o m => (hd.at_ x o m).1)
    by_cases z : F x
    · rw [onF_in z]
    · rw [onF_out z]
      exact (hd.there m).choose_spec.2.1
  · rw [if_neg hl] at ha
    exact ha.elim
def hidQ (own : List Nat) (f : Env → R (D × Env)) : Env → R D := fun e => (f (wipeE e own)).bind fun x => .ok x.1
theorem EvI.hidQ {t : TE} {f : Env → R (D × Env)} (h : EvI K [] [] W cl t f) : QI K own W cl t (Hz.hidQ own f) := fun H0 P G env σ H Q ok ans => by
  refine h H ([], P.2) G _ σ H Q rfl ok.hide (ans.bind.mono (fun a ha G' H' v gr ok' rv => ?_) fun c hc H' fr => hc H' fr.same)
  exact ha G' H' v ⟨gr.1, ok'.sub, ok'.fr.same, gr.2⟩ rv
theorem EvNo.hidQ {t : TE} {f : Env → R (D × Env)} (h : EvNo K [] [] W cl t f) : QN K own W cl t (Hz.hidQ own f) := fun H0 P G env σ H Q ok ans => by
  refine h H ([], P.2) G _ σ H Q rfl ok.hide (ans.bind.mono (fun a ha G1 H1 G' H' p os gr ok1 gw hf c hd => ?_) fun c hc H' fr => hc H' fr.same)
  have sh1 : Same H H1 := ok1.fr.same
  exact ha G' H' p os ⟨gr.1.trans gw.gg, gw.gh, sh1.trans gw.hh, fun x o hx n => (gw.new x o (sh1 x o hx) n).trans (gr.2 x o hx n)⟩ (fun x hx => sh1.free (hf x hx)) c hd
/-! as any expression -/
def quI (f : Env → R D) : Env → R (D × Env) := fun e => (f e).bind fun d => .ok (d, e)
def quT (f : Env → R Bool) : Env → R (Bool × Env) := fun e => (f e).bind fun d => .ok (d, e)
theorem QI.toI {t : TE} {f : Env → R D} (h : QI K own W cl t f) : EvI K tw own W cl t (quI f) := fun H0 P G env σ H Q hp ok ans => by
  refine h H0 P G env σ H Q ok (ans.bind.mono (fun d hd G' H' v g rv => hd G' H' v (g.gr ok) (ok.grow g) rv) fun c hc H' sm => hc H' (ok.frm sm))
theorem QN.toNo {t : TE} {f : Env → R D} (h : QN K own W cl t f) : EvNo K tw own W cl t (quI f) := fun H0 P G env σ H Q hp ok ans => by
  refine h H0 P G env σ H Q ok (ans.bind.mono (fun d hd G' H' p os g hf c hh => hd G H G' H' p os Gr.refl ok g hf c hh) fun c hc H' sm => hc H' (ok.frm sm))
theorem QN.toQ {t : TE} {f : Env → R D} (h : QN K own W cl t f) : QI K own W cl t f := fun H0 P G env σ H Q ok ans => by
  refine h H0 P G env σ H Q ok (ans.mono (fun d hd G' H' p os g hf c hh => ?_) fun c hc => hc)
  refine hd (addO G' os) H' _ ⟨fun x o hx => ?_, fun x o hx => ?_, g.hh, fun x o hx n => ?_⟩ (c.rp (fun x o hx => ?_) fun x o m => addO_in hh.nd m)
  · rw [addO_out fun m => ?_]
    · exact g.gg x o hx
    · have := g.gg x o hx
      rw [(hh.there m).choose_spec.2.1] at this
      cases this
  · by_cases m : x ∈ dm os
    · obtain ⟨u, hu⟩ := dm_mem.mp m
      rw [addO_in hh.nd hu] at hx
      cases hx
      exact (hh.at_ _ _ hu).1
    · rw [addO_out m] at hx
      exact g.gh x o hx
  · rw [addO_out fun m => (by rw [hf x m] at hx; cases hx)]
    exact g.new x o hx n
  · rw [addO_out fun m => ?_]
    · exact hx
    · rw [(hh.there m).choose_spec.2.1] at hx
      cases hx
/-! rules for quiet expressions -/
def qNil : Env → R (List D) := fun _ => .ok []
def qCons (a : Env → R D) (b : Env → R (List D)) : Env → R (List D) := fun e => (a e).bind fun x => (b e).bind fun y => .ok (x :: y)
def qTup (a : Env → R (List D)) : Env → R D := fun e => (a e).bind fun x => .ok (.tuple x)
def qCall (F : List D → R D) (a : Env → R (List D)) : Env → R D := fun e => (a e).bind F
def qOp2 (g : D → D → Option D) (a b : Env → R D) : Env → R D := fun e => (a e).bind fun x => (b e).bind fun y => lift (g x y)
theorem QA.nil : QA K own W cl tNil qNil := fun H0 P G env σ H Q ok ans => ans G H [] (Grow.refl ok.sub) .nil
theorem QA.cons {te : TE} {tA : TA} {fe : Env → R D} {fA : Env → R (List D)} (ha : QI K own W cl te fe) (hb : QA K own W cl tA fA) : QA K own W cl (tCons te tA) (qCons fe fA) := fun H0 P G env σ H Q ok ans => by
  refine ha H0 P G env σ H _ ok (ans.bind.mono (fun a ha' G1 H1 x g1 rx => ?_) fun _ h => h)
  refine hb H0 P G1 env σ H1 _ (ok.grow g1) (ha'.bind.mono (fun b hb' G2 H2 y g2 ry => ?_) fun _ h H' sm => h H' (g1.hh.trans sm))
  exact hb' G2 H2 (x :: y) (g1.trans g2) (.cons (rx.mono g2.gg) ry)
theorem QI.tup {tA : TA} {fA : Env → R (List D)} (ha : QA K own W cl tA fA) (hl : ∀ env r, fA env = .ok r → r.length ≤ 1000) : QI K own W cl (tTupP tA) (qTup fA) := fun H0 P G env σ H Q ok ans => by
  refine ha H0 P G env σ H _ ok (ans.bind.monoE (fun a e ha' G1 H1 vs g1 rx => ?_) fun _ h => h)
  refine ⟨by rw [rx.length]; exact sz100 (Nat.le_trans (hl env a e) (by decide)), fun p ob np hd => ?_⟩
  have gg : Grow G1 H1 (upd G1 p (tupO ob vs)) (upd H1 p (tupO ob vs)) := Grow.lay g1.gh np
  exact ha' _ _ (.ref p) (g1.trans gg) (Rp.lay upd_same hd (rx.mono gg.gg))
theorem QI.call {n : Nat} {F : List D → R D} {tA : TA} {fA : Env → R (List D)} (ha : QA K own W cl tA fA) (hl : ∀ env r, fA env = .ok r → r.length = n) : QI K own W cl (tCallS (spP K cl n F) (WE W) tA) (qCall F fA) := fun H0 P G env σ H Q ok ans => by
  refine ha H0 P G env σ H _ ok (ans.bind.monoE (fun a e ha' G1 H1 vs g1 rx => ?_) fun _ h => h)
  refine ⟨G1, a, g1.gh, rx, hl env a e, ha'.mono (fun d q G' H' v gg rv => q G' H' v (g1.trans gg) rv) fun c h H' hs => h H' (g1.hh.trans hs)⟩
theorem QI.op2 {r : R2} {g : D → D → Option D} {ta tb : TE} {fa fb : Env → R D} (ho : Op2 K r g) (ha : QI K own W cl ta fa) (hb : QI K own W cl tb fb) : QI K own W cl (tOp r ta tb) (qOp2 g fa fb) := fun H0 P G env σ H Q ok ans => by
  refine ha H0 P G env σ H _ ok (ans.bind.mono (fun a ha' G1 H1 x g1 rx => ?_) fun _ h => h)
  refine hb H0 P G1 env σ H1 _ (ok.grow g1) (ha'.bind.mono (fun b hb' G2 H2 y g2 ry => ?_) fun _ h H' sm => h H' (g1.hh.trans sm))
  have hb'' : Ans ((lift (g a b)).bind .ok) (fun d => ∀ G' H' v, Grow G H G' H' → Rp K G' v d → Q v H') (fun c => ∀ H', Same H H' → W (.ref (cl c)) none σ H') := by
    cases hg : g a b with
    | none => rw [hg] at hb'; exact hb'.elim
    | some d => rw [hg] at hb'; exact hb'
  obtain ⟨d, e, q⟩ := ans_lift hb''
  exact ho G2 H2 x y a b d Q g2.gh (rx.mono g2.gg) ry e fun G' H' v gg rv => q G' H' v ((g1.trans g2).trans gg) rv
end
end Hz

/-! instances: their attributes, their methods -/
namespace Hz
open PySem PySem.Spec PyProof.Rows L2 L2H

def insD (ds : List (D × D)) : D := .dict [(.bool false, .dict ds)]
def insOf : D → Option (List (D × D))
  | .dict [(.bool false, .dict ds)] => some ds
  | _ => none
theorem insOf_eq {d : D} {ds : List (D × D)} (h : insOf d = some ds) : d = insD ds := by
  unfold insOf at h
  split at h
  · cases h
    rfl
  · cases h
def fldD (f : Str) (d : D) : Option D := (insOf d).bind fun ds => valD ds (.str f)
def mOk (m : Str) (d : D) : Bool := match insOf d with
  | some ds => (valD ds (.str m)).isNone
  | none => false
theorem valV_fK (f : Str) : ∀ fs : List (Str × V), valV (fK fs) (.inr f) = fs.lookup f
  | [] => rfl
  | (g, v) :: fs => by
    have ih := valV_fK f fs
    unfold fK at ih ⊢
    rw [List.map_cons, List.lookup_cons]
    unfold valV at ih ⊢
    by_cases h : f = g
    · subst h
      simp
    · have h1 : (f == g) = false := by simpa using h
      rw [h1]
      have h2 : (decide ((Sum.inr g : Key) = .inr f)) = false := decide_eq_false fun z => h (Sum.inr.inj z).symm
      simp only [List.find?_cons]
      first
        | (rw [h2]; exact ih)
        | (simp [Ne.symm h] at ih ⊢; exact ih)
theorem Rp.insI {K : PySem.W.Frag} {G : Hp} {v : V} {ds : List (D × D)} (r : Rp K G v (insD ds)) : ∃ a C dx fs, v = .ref a ∧ G a = some (.ins C dx fs) ∧ PostC K C ∧ RpK K G (fK fs) ds := by
  unfold insD at r
  generalize e : PyData.dict [(PyData.bool false, PyData.dict ds)] = d at r
  cases r with
  | ins h c a =>
    cases e
    exact ⟨_, _, _, _, rfl, h, c, a⟩
  | dic h a =>
    cases e
    generalize e2 : [(PyData.bool false, PyData.dict ds)] = l at a
    cases a with
    | nil => cases e2
    | @cons k v kvs d' ds' h1 h2 =>
      injection e2 with e3 _
      injection e3 with e4 _
      cases k <;> cases e4
  | scr h => cases e
  | dit h a => cases e
  | rcd h a => cases e
  | _ => cases e
structure PoF (K : PySem.W.Frag) (C : Addr) : Prop where
  at_ : PostC K C
  cl : Cls K C
  no : ∀ f, f ∈ (["tree", "book", "shows", "items_left", "at", "tellings", "here", "broken", "fogs", "wrong", "books", "got_there", "told"] : List Str) → NoAttr K C f
theorem PoF.eq {K : PySem.W.Frag} {C C' : Addr} (h : PoF K C) (h' : PostC K C') : C' = C := by
  have := h'.symm.trans h.at_
  cases this
  rfl
section
variable {K : PySem.W.Frag} {tw own : List Nat} {W : WX} {cl : Nat → Addr} {ta : TE} {fa : Env → R (D × Env)} {tA : TA} {fA : Env → R (List D × Env)} {C : Addr}
theorem fld_rp {G H : Hp} {x : V} {dx d : D} {f : Str} (pf : PoF K C) (hf : f ∈ (["tree", "book", "shows", "items_left", "at", "tellings", "here", "broken", "fogs", "wrong", "books", "got_there", "told"] : List Str)) (sub : Same G H) (rx : Rp K G x dx) (e : fldD f dx = some d) :
    ∃ a C dx fs v, x = .ref a ∧ H a = some (.ins C dx fs) ∧ Cls K C ∧ NoAttr K C f ∧ fs.lookup f = some v ∧ Rp K G v d := by
  obtain ⟨ds, h1, h2⟩ := Option.bind_eq_some_iff.mp e
  rw [insOf_eq h1] at rx
  obtain ⟨a, C', dx', fs, rfl, hg, hc, r⟩ := rx.insI
  cases pf.eq hc
  obtain ⟨v, hv, rv⟩ := (RpK.val (k := .inr f) r).1 d h2
  rw [valV_fK] at hv
  exact ⟨a, C, dx', fs, v, rfl, sub _ _ hg, pf.cl, pf.no f hf, hv, rv⟩
theorem EvI.fld {f : Str} (pf : PoF K C) (hf : f ∈ (["tree", "book", "shows", "items_left", "at", "tellings", "here", "broken", "fogs", "wrong", "books", "got_there", "told"] : List Str)) (ha : EvI K tw own W cl ta fa) : EvI K tw own W cl (tFld K ta f) (Hz.op1 (fldD f) fa) := fun H0 P G env σ H Q hp ok ans => by
  refine ha H0 P G env σ H _ hp ok (ans.bind.mono (fun a ha' G1 H1 x g1 ok1 rx => ?_) fun _ h => h)
  obtain ⟨d, e, q⟩ := ans_lift ha'
  obtain ⟨a', C', dx, fs, v, h1, h2, h3, h4, h5, h6⟩ := fld_rp pf hf ok1.sub rx e
  exact ⟨a', C', dx, fs, v, h1, h2, h3, h4, h5, q G1 H1 v g1 ok1 h6⟩
def callMP (m : Str) (F : List D → R D) (a : Env → R (D × Env)) (b : Env → R (List D × Env)) : Env → R (D × Env) := fun e => (a e).bind fun x => if mOk m x.1 = true then (b x.2).bind fun y => (F (x.1 :: y.1)).bind fun d => .ok (d, y.2) else .bad
def spM (K : PySem.W.Frag) (cl : Nat → Addr) (n : Nat) (F : List D → R (D × D)) : Sp := fun vs H Q E => ∃ G p vb dt db os, vs = .ref p :: vb ∧ Same G H ∧ CellO K G p dt os ∧ Held G H os ∧ RpA K G vb db ∧ db.length + 1 = n ∧
  Ans (F (dt :: db)) (fun a => ∀ G' H' v os', Does K G H os G' H' p a.2 os' → Rp K G' v a.1 → Q v H') (fun c => ∀ H', Same H H' → E (.ref (cl c)) none H')
theorem spM.len {cl : Nat → Addr} {n : Nat} {F : List D → R (D × D)} (vs : List V) (H : Hp) (Q : VK) (E : XK) (h : spM K cl n F vs H Q E) : vs.length = n := by
  obtain ⟨G, p, vb, dt, db, os, rfl, _, _, _, rb, e, _⟩ := h
  rw [← e, ← rb.length, List.length_cons]
def callM (m : Str) (F : List D → R (D × D)) (i : Nat) (b : Env → R (List D × Env)) : Env → R (D × Env) := fun e => match e[i]? with
  | some (some t0) => if mOk m t0 = true then (b e).bind fun y => match y.2[i]? with
      | some (some t) => (F (t :: y.1)).bind fun r => .ok (r.1, y.2.set i (some r.2))
      | _ => .bad
    else .bad
  | _ => .bad
theorem CellO.insI {G H : Hp} {p : Addr} {d : D} {os : Os} {ds : List (D × D)} (c : CellO K G p d os) (h : Held G H os) (e : insOf d = some ds) : ∃ C dx fs o, PostC K C ∧ DFs K G fs ds o ∧ os = (p, .ins C dx fs) :: (dx, .own p) :: o ∧ H p = some (.ins C dx fs) := by
  rw [insOf_eq e] at c
  unfold insD at c
  generalize e : PyData.dict [(PyData.bool false, PyData.dict ds)] = d' at c
  cases c with
  | ins hc hd =>
    cases e
    exact ⟨_, _, _, _, hc, hd, rfl, (h.at_ _ _ List.mem_cons_self).1⟩
  | dic a =>
    cases e
    generalize e2 : [(PyData.bool false, PyData.dict ds)] = l at a
    cases a with
    | nil => cases e2
    | @cons k v kvs d' ds' h1 h2 =>
      injection e2 with e3 _
      injection e3 with e4 _
      cases k <;> cases e4
  | dit a => cases e
  | rcd a => cases e
  | lst a => cases e
theorem DFs.none {G : Hp} {m : Str} : ∀ {fs : List (Str × V)} {ds : List (D × D)} {o : Os}, DFs K G fs ds o → valD ds (.str m) = Option.none → fs.lookup m = Option.none
  | _, _, _, .nil, _ => rfl
  | _, _, _, .cons (f := f) (ds := ds) h t, e => by
    have e' : (if keqD (.str f) (.str m) = true then some _ else valD ds (.str m)) = Option.none := e
    have hk : keqD (.str f) (.str m) = decide (f = m) := by simp [keqD, keq0]
    rw [hk] at e'
    by_cases z : f = m
    · subst z
      simp at e'
    · rw [if_neg (by simpa using z)] at e'
      rw [List.lookup_cons, show (m == f) = false by simpa using Ne.symm z]
      exact DFs.none t e'
/-! ### what is asked ahead of any change -/
def EvC (K : PySem.W.Frag) (own : List Nat) (W : WX) (cl : Nat → Addr) (t : TS) (f : Env → R Unit) : Prop :=
  ∀ (H0 : Hp) (P : Par) (G : Hp) (env : Env) (σ : L2.St) (H : Hp) (E : Ends), StOk K H0 P own G env σ H →
    Ans (f env) (fun _ => ∀ G' H', Grow G H G' H' → E.nx σ H') (fun c => ∀ H', Same H H' → W (.ref (cl c)) none σ H') → t E σ H
def dropC (f : Env → R D) : Env → R Unit := fun e => (f e).bind fun _ => .ok ()
def guardC (f : Env → R Bool) (k : Nat) : Env → R Unit := fun e => (f e).bind fun b => if b = true then .err k else .ok ()
theorem EvC.drop {te : TE} {f : Env → R D} (h : QI K own W cl te f) : EvC K own W cl (tDrop te) (dropC f) := fun H0 P G env σ H E ok ans => by
  refine h H0 P G env σ H _ ok (ans.bind.mono (fun a ha G' H' v g rv => ha G' H' g) fun _ h => h)
def EvW (K : PySem.W.Frag) (k : Nat) (oN : List Nat) (W : WX) (cl : Nat → Addr) (t : TS) (f : Env → R (Fl × Env)) : Prop :=
  ∀ (H0 : Hp) (P : Par) (G : Hp) (env : Env) (σ : L2.St) (H : Hp) (E : Ends), P.1.map (·.1) = [k] → StOk K H0 P [k] G env σ H → Same H0 H →
    Ans (f env) (Aft K [k] oN [k] H0 P G E) (fun c => ∀ (σ' : L2.St) (H' : Hp), σ'.length = P.2 → Same H0 H' → W (.ref (cl c)) none σ' H') → t E σ H
def chkS (c : Env → R Unit) (g : Env → R (Fl × Env)) : Env → R (Fl × Env) := fun e => (c e).bind fun _ => g e
def neS (f : Env → R (Fl × Env)) : Env → R (Fl × Env) := fun e => (f e).ne
end
section
variable {P : Program} {w : World} {K : PySem.W.Frag} {mg : Str → Option Value} {base : Heap} {cl : Nat → Addr}
end
end Hz

/-! attributes that are set, and changed in place -/
namespace Hz
open PySem PySem.Spec PyProof.Rows L2 L2H

abbrev flds : List Str := ["tree", "book", "shows", "items_left", "at", "tellings", "here", "broken", "fogs", "wrong", "books", "got_there", "told"]
def setD (f : Str) (d : D) : List (D × D) → List (D × D)
  | [] => [(.str f, d)]
  | (k, x) :: r => if keqD k (.str f) = true then (k, d) :: r else (k, x) :: setD f d r
theorem keqS (f g : Str) : keqD (.str f) (.str g) = decide (f = g) := by simp [keqD, keq0]
section
variable {K : PySem.W.Frag} {G : Hp}
theorem DFs.put {f : Str} : ∀ {fs : List (Str × V)} {ds : List (D × D)} {os : Os}, DFs K G fs ds os → ∃ o0 o1 o2, os = o0 ++ (o1 ++ o2) ∧
    ∀ G', Same G G' → ∀ v' d' o1', Fd K G' (fk f) v' d' o1' → DFs K G' (putF f v' fs) (setD f d' ds) (o0 ++ (o1' ++ o2))
  | _, _, _, .nil => ⟨[], [], [], rfl, fun G' e v' d' o1' h => DFs.cons (o1 := o1') (o2 := []) h .nil⟩
  | _, _, _, .cons (f := g) (v := v) (d := d) (o1 := a) (o2 := b) (fs := fs) (ds := ds) h t => by
    by_cases z : g = f
    · subst z
      refine ⟨[], a, b, rfl, fun G' e v' d' o1' h' => ?_⟩
      have h1 : putF g v' ((g, v) :: fs) = (g, v') :: fs := by simp [putF]
      have h2 : setD g d' ((.str g, d) :: ds) = (.str g, d') :: ds := by simp [setD, keqS]
      rw [h1, h2]
      exact DFs.cons (o1 := o1') (o2 := b) h' (t.mono e)
    · obtain ⟨o0, o1, o2, e1, hp⟩ := DFs.put (f := f) t
      refine ⟨a ++ o0, o1, o2, by rw [e1, List.append_assoc], fun G' e v' d' o1' h' => ?_⟩
      have h1 : putF f v' ((g, v) :: fs) = (g, v) :: putF f v' fs := by simp [putF, z]
      have h2 : setD f d' ((.str g, d) :: ds) = (.str g, d) :: setD f d' ds := by simp [setD, keqS, z]
      rw [h1, h2, List.append_assoc]
      exact .cons (h.mono e) (hp G' e v' d' o1' h')
theorem DFs.at {f : Str} {d : D} : ∀ {fs : List (Str × V)} {ds : List (D × D)} {os : Os}, DFs K G fs ds os → valD ds (.str f) = some d → ∃ v o0 o1 o2, fs.lookup f = some v ∧ os = o0 ++ (o1 ++ o2) ∧ Fd K G (fk f) v d o1 ∧
    ∀ G', Same G G' → ∀ d' o1', Fd K G' (fk f) v d' o1' → DFs K G' fs (setD f d' ds) (o0 ++ (o1' ++ o2))
  | _, _, _, .nil, e => by cases e
  | _, _, _, .cons (f := g) (v := v) (d := dg) (o1 := a) (o2 := b) (fs := fs) (ds := ds) h t, e => by
    have e' : (if keqD (.str g) (.str f) = true then some dg else valD ds (.str f)) = some d := e
    rw [keqS] at e'
    by_cases z : g = f
    · subst z
      simp at e'
      subst e'
      refine ⟨v, [], a, b, by simp, rfl, h, fun G' e d' o1' h' => ?_⟩
      have h2 : setD g d' ((.str g, dg) :: ds) = (.str g, d') :: ds := by simp [setD, keqS]
      rw [h2]
      exact DFs.cons (o1 := o1') (o2 := b) h' (t.mono e)
    · rw [if_neg (by simpa using z)] at e'
      obtain ⟨w, o0, o1, o2, l, e1, hf, hp⟩ := DFs.at (f := f) t e'
      refine ⟨w, a ++ o0, o1, o2, by rw [List.lookup_cons, show (f == g) = false by simpa using Ne.symm z]; exact l, by rw [e1, List.append_assoc], hf, fun G' e d' o1' h' => ?_⟩
      have h2 : setD f d' ((.str g, dg) :: ds) = (.str g, dg) :: setD f d' ds := by simp [setD, keqS, z]
      rw [h2, List.append_assoc]
      exact .cons (h.mono e) (hp G' e d' o1' h')
theorem DFs.len : ∀ {fs : List (Str × V)} {ds : List (D × D)} {os : Os}, DFs K G fs ds os → fs.length = ds.length
  | _, _, _, .nil => rfl
  | _, _, _, .cons _ t => by simp [DFs.len t]
theorem Held.sub {G H : Hp} {a b c : Os} (h : Held G H (a ++ (b ++ c))) : Held G H b := by
  refine ⟨fun x o m => h.at_ x o (List.mem_append_right _ (List.mem_append_left _ m)), ?_⟩
  have := h.nd
  rw [dm_append, List.nodup_append] at this
  have := this.2.1
  rw [dm_append, List.nodup_append] at this
  exact this.1
structure Does1 (G H : Hp) (os : Os) (G' H' : Hp) (os' : Os) : Prop where
  gg : Same G G'
  gh : Same G' H'
  kp : ∀ x o, H x = some o → x ∉ dm os → H' x = some o
  dd : ∀ x o, H x = some o → ∃ u, H' x = some u ∧ (NT o → NT u)
  gn : ∀ x o, H x = some o → NT o → G' x = G x
  hd : Held G' H' os'
  sb : ∀ x ∈ dm os', x ∈ dm os ∨ H x = none
theorem Does1.mid {G H G' H' : Hp} {a b c b' : Os} (h : Held G H (a ++ (b ++ c))) (x : Does1 G H b G' H' b') : Does1 G H (a ++ (b ++ c)) G' H' (a ++ (b' ++ c)) := by
  have nd := h.nd
  rw [dm_append, dm_append, List.nodup_append, List.nodup_append] at nd
  obtain ⟨n1, ⟨n2, n3, n4⟩, n5⟩ := nd
  have out : ∀ y, y ∈ dm a ∨ y ∈ dm c → y ∉ dm b := fun y hy hz => by
    rcases hy with hy | hy
    · exact n5 y hy y (List.mem_append_left _ hz) rfl
    · exact n4 y hz y hy rfl
  have inn : ∀ y, y ∈ dm a ∨ y ∈ dm c → ∃ o, (y, o) ∈ a ++ (b ++ c) := fun y hy => by
    rcases hy with hy | hy
    · obtain ⟨o, ho⟩ := dm_mem.mp hy
      exact ⟨o, List.mem_append_left _ ho⟩
    · obtain ⟨o, ho⟩ := dm_mem.mp hy
      exact ⟨o, List.mem_append_right _ (List.mem_append_right _ ho)⟩
  have out' : ∀ y, y ∈ dm a ∨ y ∈ dm c → y ∉ dm b' := fun y hy hz => by
    rcases x.sb y hz with w | w
    · exact out y hy w
    · obtain ⟨o, ho⟩ := inn y hy
      rw [(h.at_ y o ho).1] at w
      cases w
  have keep : ∀ y o, (y, o) ∈ a ∨ (y, o) ∈ c → H' y = some o ∧ G' y = none ∧ NT o := fun y o hy => by
    have hm : (y, o) ∈ a ++ (b ++ c) := by
      rcases hy with hy | hy
      · exact List.mem_append_left _ hy
      · exact List.mem_append_right _ (List.mem_append_right _ hy)
    have hdm : y ∈ dm a ∨ y ∈ dm c := hy.imp (fun z => dm_mem.mpr ⟨o, z⟩) fun z => dm_mem.mpr ⟨o, z⟩
    obtain ⟨h1, h2, h3⟩ := h.at_ y o hm
    exact ⟨x.kp y o h1 (out y hdm), (x.gn y o h1 h3).trans h2, h3⟩
  refine ⟨x.gg, x.gh, fun y o hy n => x.kp y o hy fun z => n ?_, x.dd, x.gn, ⟨fun y o hy => ?_, ?_⟩, fun y hy => ?_⟩
  · rw [dm_append, dm_append]
    exact List.mem_append_right _ (List.mem_append_left _ z)
  · rcases List.mem_append.mp hy with hy | hy
    · exact keep y o (.inl hy)
    · rcases List.mem_append.mp hy with hy | hy
      · exact x.hd.at_ y o hy
      · exact keep y o (.inr hy)
  · rw [dm_append, dm_append, List.nodup_append, List.nodup_append]
    refine ⟨n1, ⟨x.hd.nd, n3, fun y hy z hz w => ?_⟩, fun y hy z hz w => ?_⟩
    · rw [w] at hy
      exact out' z (.inr hz) hy
    · rw [← w] at hz
      rcases List.mem_append.mp hz with hz | hz
      · exact out' y (.inl hy) hz
      · exact n5 y hy y (List.mem_append_right _ hz) rfl
  · rw [dm_append, dm_append] at hy
    rcases List.mem_append.mp hy with hy | hy
    · obtain ⟨o, ho⟩ := inn y (.inl hy)
      exact .inl (dm_mem.mpr ⟨o, ho⟩)
    · rcases List.mem_append.mp hy with hy | hy
      · rcases x.sb y hy with w | w
        · refine .inl ?_
          rw [dm_append, dm_append]
          exact List.mem_append_right _ (List.mem_append_left _ w)
        · exact .inr w
      · obtain ⟨o, ho⟩ := inn y (.inr hy)
        exact .inl (dm_mem.mpr ⟨o, ho⟩)
theorem Does1.of_grow {G H G' H' : Hp} {o1 os : Os} (g : Grow G H G' H') (hf : ∀ x ∈ dm os, H x = none) (hd : Held G' H' os) : Does1 G H o1 G' H' os :=
  ⟨g.gg, g.gh, fun x o h _ => g.hh x o h, fun x o h => ⟨o, g.hh x o h, id⟩, g.new, hd, fun x hx => .inr (hf x hx)⟩
theorem Does1.refl {G H : Hp} {os : Os} (sub : Same G H) (h : Held G H os) : Does1 G H os G H os := ⟨Same.refl _, sub, fun x o h _ => h, fun x o h => ⟨o, h, id⟩, fun _ _ _ _ => rfl, h, fun x hx => .inl hx⟩
theorem Does1.one {G H : Hp} {p : Addr} {o o' : HO} {os : Os} (sub : Same G H) (h : Held G H ((p, o) :: os)) (n : NT o') : Does1 G H ((p, o) :: os) G (upd H p o') ((p, o') :: os) := by
  obtain ⟨h1, h2, h3⟩ := h.at_ p o List.mem_cons_self
  have nd := h.nd
  rw [show dm ((p, o) :: os) = p :: dm os from rfl, List.nodup_cons] at nd
  refine ⟨Same.refl _, fun a u ha => ?_, fun x u hx hn => ?_, fun x u hx => ?_, fun _ _ _ _ => rfl, ⟨fun x u hx => ?_, ?_⟩, fun x hx => .inl hx⟩
  · rw [upd_ne (ne_of_none ha h2)]
    exact sub a u ha
  · rw [upd_ne fun z => hn (by rw [z]; exact List.mem_cons_self)]
    exact hx
  · by_cases z : x = p
    · exact ⟨o', by rw [z, upd_same], fun _ => n⟩
    · exact ⟨u, by rw [upd_ne z]; exact hx, id⟩
  · rcases List.mem_cons.mp hx with z | z
    · cases z
      exact ⟨upd_same, h2, n⟩
    · obtain ⟨h4, h5, h6⟩ := h.at_ x u (List.mem_cons_of_mem _ z)
      refine ⟨?_, h5, h6⟩
      rw [upd_ne fun y => nd.1 (by rw [← y]; exact dm_mem.mpr ⟨u, z⟩)]
      exact h4
  · rw [show dm ((p, o') :: os) = p :: dm os from rfl, List.nodup_cons]
    exact nd
theorem Does1.trans {G H G1 H1 G2 H2 : Hp} {a b c : Os} (x : Does1 G H a G1 H1 b) (y : Does1 G1 H1 b G2 H2 c) : Does1 G H a G2 H2 c := by
  refine ⟨x.gg.trans y.gg, y.gh, fun z o h n => ?_, fun z o h => ?_, fun z o h n => ?_, y.hd, fun z hz => ?_⟩
  · refine y.kp z o (x.kp z o h n) fun w => ?_
    rcases x.sb z w with w | w
    · exact n w
    · rw [h] at w
      cases w
  · obtain ⟨u, hu, n1⟩ := x.dd z o h
    obtain ⟨u', hu', n2⟩ := y.dd z u hu
    exact ⟨u', hu', fun n => n2 (n1 n)⟩
  · obtain ⟨u, hu, n1⟩ := x.dd z o h
    exact (y.gn z u hu (n1 n)).trans (x.gn z o h n)
  · rcases y.sb z hz with w | w
    · exact x.sb z w
    · refine .inr ?_
      cases hq : H z with
      | none => rfl
      | some o =>
        obtain ⟨u, hu, _⟩ := x.dd z o hq
        rw [w] at hu
        cases hu
theorem Does1.toDoes {G H G' H' : Hp} {p : Addr} {d : D} {os os' : Os} (x : Does1 G H os G' H' os') (c : CellO K G' p d os') : Does K G H os G' H' p d os' := ⟨x.gg, x.gh, x.kp, x.dd, x.gn, c, x.hd, x.sb⟩
end
section
variable {K : PySem.W.Frag} {tw own oL : List Nat} {W : WX} {cl : Nat → Addr} {C : Addr} {H0 : Hp} {P : Par} {G H : Hp} {env : Env} {σ : L2.St}
def insAt (e : Env) (i : Nat) : Option (List (D × D)) := match e[i]? with
  | some (some d) => insOf d
  | _ => none
theorem insAt_eq {e : Env} {i : Nat} {ds : List (D × D)} (h : insAt e i = some ds) : e[i]? = some (some (insD ds)) := by
  unfold insAt at h
  split at h
  · rename_i d hd
    rw [hd, insOf_eq h]
  · cases h
theorem StOk.fldS {i : Nat} {f : Str} {ds : List (D × D)} (pf : PoF K C) (s : StOk K H0 P own G env σ H) (hi : i ∈ own) (he : insAt env i = some ds) : ∃ p dx fs, σ[i]? = some (some (.ref p)) ∧ H p = some (.ins C dx fs) ∧ fs.length = ds.length ∧
    ∀ G' H' v' d' o', Grow G H G' H' → (∀ x ∈ dm o', H x = none) → Held G' H' o' → Fd K G' (fk f) v' d' o' → Gr H0 G G' ∧ StOk K H0 P own G' (env.set i (some (insD (setD f d' ds)))) σ (upd H' p (.ins C dx (putF f v' fs))) := by
  obtain ⟨p, d, os, e1, e2, c, hh, _, cls⟩ := s.does hi
  have e3 := insAt_eq he
  rw [e1] at e3
  cases e3
  obtain ⟨C', dx, fs, o, hc, hd, rfl, hp⟩ := c.insI hh rfl
  cases pf.eq hc
  refine ⟨p, dx, fs, e2, hp, hd.len, fun G' H' v' d' o' g hf hh' hfd => ?_⟩
  obtain ⟨a0, a1, a2, rfl, hput⟩ := hd.put (f := f)
  have x1 : Does1 G H ((p, .ins C dx fs) :: (dx, .own p) :: (a0 ++ (a1 ++ a2))) G' H' ((p, .ins C dx fs) :: (dx, .own p) :: (a0 ++ (o' ++ a2))) := by
    have := Does1.mid (a := (p, .ins C dx fs) :: (dx, .own p) :: a0) (b := a1) (c := a2) (b' := o') hh (Does1.of_grow g hf hh')
    exact this
  have x2 := x1.trans (Does1.one (o' := .ins C dx (putF f v' fs)) g.gh x1.hd fun xs z => by cases z)
  exact cls _ _ _ _ (x2.toDoes (.ins hc (hput G' g.gg v' d' o' hfd)))
theorem StOk.fldW {i : Nat} {f : Str} {ds : List (D × D)} {d : D} (pf : PoF K C) (s : StOk K H0 P own G env σ H) (hi : i ∈ own) (he : insAt env i = some ds) (hv : valD ds (.str f) = some d) : ∃ p dx fs v o1, σ[i]? = some (some (.ref p)) ∧ H p = some (.ins C dx fs) ∧ fs.lookup f = some v ∧ Fd K G (fk f) v d o1 ∧ Held G H o1 ∧
    ∀ G' H' d' o1', Does1 G H o1 G' H' o1' → Fd K G' (fk f) v d' o1' → Gr H0 G G' ∧ StOk K H0 P own G' (env.set i (some (insD (setD f d' ds)))) σ H' := by
  obtain ⟨p, d, os, e1, e2, c, hh, _, cls⟩ := s.does hi
  have e3 := insAt_eq he
  rw [e1] at e3
  cases e3
  obtain ⟨C', dx, fs, o, hc, hd, rfl, hp⟩ := c.insI hh rfl
  cases pf.eq hc
  obtain ⟨v, a0, a1, a2, l, rfl, hfd, hput⟩ := hd.at hv
  have hh2 : Held G H (((p, .ins C dx fs) :: (dx, .own p) :: a0) ++ (a1 ++ a2)) := hh
  refine ⟨p, dx, fs, v, a1, e2, hp, l, hfd, hh2.sub, fun G' H' d' o1' x hf => ?_⟩
  have x1 := Does1.mid hh2 x
  exact cls _ _ _ _ (x1.toDoes (.ins hc (hput G' x.gg d' o1' hf)))
theorem StOk.fldR {i : Nat} {f : Str} {ds : List (D × D)} {d : D} (pf : PoF K C) (hff : f ∈ flds) (s : StOk K H0 P own G env σ H) (hi : i ∈ own) (he : insAt env i = some ds) (hv : valD ds (.str f) = some d) {Q : VK} (q : ∀ v o1, Fd K G (fk f) v d o1 → Held G H o1 → (∀ G' H' d' o1', Does1 G H o1 G' H' o1' → Fd K G' (fk f) v d' o1' → Gr H0 G G' ∧ StOk K H0 P own G' (env.set i (some (insD (setD f d' ds)))) σ H') → Q v H) :
    tFld K (tVar i) f σ H Q := by
  obtain ⟨p, dx, fs, v, o1, e2, hp, l, hfd, hh, w⟩ := s.fldW pf hi he hv
  exact ⟨.ref p, e2, p, C, dx, fs, v, rfl, hp, pf.cl, pf.no f hff, l, q v o1 hfd hh w⟩
/-! ### self.f = e -/
def fldS (i : Nat) (f : Str) (a : Env → R (D × Env)) : Env → R (Fl × Env) := fun e => (a e).bind fun x => (lift (insAt x.2 i)).bind fun ds => if ds.length < 1000 then .ok (.nx, x.2.set i (some (insD (setD f x.1 ds)))) else .bad
theorem EvS.fldS {i : Nat} {f : Str} {te : TE} {fe : Env → R (D × Env)} (pf : PoF K C) (hf : f ∈ flds) (hk : fk f = 0) (hi : i ∈ own) (h : EvI K tw own W cl te fe) : EvS K tw own own oL W cl (sFld K (tVar i) te f) (Hz.fldS i f fe) := EvS.of fun H0 P G env σ H E hp ok ans => by
  refine h H0 P G env σ H _ hp ok (ans.bind.mono (fun a ha G1 H1 x g1 ok1 rx => ?_) fun c h H' fr => h σ H' ok.ln fr)
  obtain ⟨ds, hd, q⟩ := ans_lift ha
  by_cases hl : ds.length < 1000
  · rw [if_pos hl] at q
    obtain ⟨p, dx, fs, e2, hp2, hlen, w⟩ := ok1.fldS (f := f) pf hi hd
    obtain ⟨gr, ok2⟩ := w G1 H1 x a.1 [] (Grow.refl ok1.sub) (fun x hx => by cases hx) ⟨(fun x o m => by cases m), List.nodup_nil⟩ (hk ▸ Fd.fz rx)
    exact ⟨.ref p, e2, p, C, dx, fs, rfl, hp2, pf.cl, pf.no f hf, by omega, q G1 σ _ (g1.trans gr) ok2⟩
  · rw [if_neg hl] at q
    exact q.elim
def newOk (f : Str) : D → Bool
  | .list ds => (fk f == 1) || (fk f == 2 && ds.isEmpty)
  | .dict ds => numKeys ds && ((fk f == 1) || (fk f == 2 && ds.isEmpty))
  | _ => false
theorem CellO.fd {G : Hp} {p : Addr} {d : D} {os : Os} {f : Str} (c : CellO K G p d os) (h : newOk f d = true) : Fd K G (fk f) (.ref p) d os := by
  cases c with
  | @lst vs ds r =>
    simp only [newOk, Bool.or_eq_true, Bool.and_eq_true, beq_iff_eq] at h
    rcases h with h | ⟨h, h2⟩
    · rw [h]
      exact .fl (.lst r)
    · have : ds = [] := by simpa using h2
      subst this
      cases r
      rw [h]
      exact .ll .nil
  | @dic vs ds r =>
    simp only [newOk, Bool.or_eq_true, Bool.and_eq_true, beq_iff_eq] at h
    obtain ⟨_, h⟩ := h
    rcases h with h | ⟨h, h2⟩
    · rw [h]
      exact .fl (.dic r)
    · have : ds = [] := by simpa using h2
      subst this
      cases r
      rw [h]
      exact .dl .nil
  | dit r => simp [newOk, numKeys] at h
  | ins _ _ => simp [newOk, numKeys] at h
  | rcd _ => simp [newOk, numKeys] at h
theorem Fl1.dicI {G : Hp} {v : V} {ds : List (D × D)} {os : Os} (h : Fl1 K G v (.dict ds) os) : ∃ p kvs, v = .ref p ∧ os = [(p, .dK kvs)] ∧ RpK K G kvs ds := by
  cases h with
  | dic r => exact ⟨_, _, rfl, rfl, r⟩
theorem Fl1.lstI {G : Hp} {v : V} {ds : List D} {os : Os} (h : Fl1 K G v (.list ds) os) : ∃ p vs, v = .ref p ∧ os = [(p, .lst vs)] ∧ RpA K G vs ds := by
  cases h with
  | lst r => exact ⟨_, _, rfl, rfl, r⟩
theorem Fd.flI {G : Hp} {n : Nat} {v : V} {d : D} {os : Os} (h : Fd K G n v d os) (e : n = 1) : Fl1 K G v d os := by
  cases h with
  | fl r => exact r
  | fz _ => cases e
  | ll _ => cases e
  | dl _ => cases e
theorem Fd.llI {G : Hp} {n : Nat} {v : V} {ds : List D} {os : Os} (h : Fd K G n v (.list ds) os) (e : n = 2) : ∃ p vs o, v = .ref p ∧ os = (p, .lst vs) :: o ∧ FlA K G vs ds o := by
  cases h with
  | ll r => exact ⟨_, _, _, rfl, rfl, r⟩
  | fz _ => cases e
  | fl _ => cases e
theorem Fd.dlI {G : Hp} {n : Nat} {v : V} {ds : List (D × D)} {os : Os} (h : Fd K G n v (.dict ds) os) (e : n = 2) : ∃ p kvs o, v = .ref p ∧ os = (p, .dK kvs) :: o ∧ FlK K G kvs ds o := by
  cases h with
  | dl r => exact ⟨_, _, _, rfl, rfl, r⟩
  | fz _ => cases e
  | fl _ => cases e
def fldAt (e : Env) (i : Nat) (f : Str) : Option D := (insAt e i).bind fun ds => valD ds (.str f)
def setAt (e : Env) (i : Nat) (f : Str) (d : D) : Env := match insAt e i with
  | some ds => e.set i (some (insD (setD f d ds)))
  | none => e
theorem StOk.fldA {i : Nat} {f : Str} {d : D} (pf : PoF K C) (hff : f ∈ flds) (s : StOk K H0 P own G env σ H) (hi : i ∈ own) (he : fldAt env i f = some d) {Q : VK} (q : ∀ v o1, Fd K G (fk f) v d o1 → Held G H o1 → Q v H) : tFld K (tVar i) f σ H Q := by
  obtain ⟨ds, h1, h2⟩ := Option.bind_eq_some_iff.mp he
  exact s.fldR pf hff hi h1 h2 fun v o1 a b _ => q v o1 a b
theorem StOk.fldC {i : Nat} {f : Str} {d : D} (pf : PoF K C) (s : StOk K H0 P own G env σ H) (hi : i ∈ own) (he : fldAt env i f = some d) : ∃ p dx fs v o1, σ[i]? = some (some (.ref p)) ∧ H p = some (.ins C dx fs) ∧ fs.lookup f = some v ∧ Fd K G (fk f) v d o1 ∧ Held G H o1 ∧
    ∀ G' H' d' o1', Does1 G H o1 G' H' o1' → Fd K G' (fk f) v d' o1' → Gr H0 G G' ∧ StOk K H0 P own G' (setAt env i f d') σ H' := by
  obtain ⟨ds, h1, h2⟩ := Option.bind_eq_some_iff.mp he
  obtain ⟨p, dx, fs, v, o1, a1, a2, a3, a4, a5, a6⟩ := s.fldW pf hi h1 h2
  refine ⟨p, dx, fs, v, o1, a1, a2, a3, a4, a5, fun G' H' d' o1' x y => ?_⟩
  unfold setAt
  rw [h1]
  exact a6 G' H' d' o1' x y
theorem StOk.fldQ {i : Nat} {f : Str} {d : D} {G' H' : Hp} (pf : PoF K C) (s : StOk K H0 P own G env σ H) (hi : i ∈ own) (he : fldAt env i f = some d) (g : Grow G H G' H') {p dx : Addr} {fs : List (Str × V)} {v : V} (h1 : σ[i]? = some (some (.ref p))) (h2 : H p = some (.ins C dx fs)) (h3 : fs.lookup f = some v) :
    ∃ o1, Fd K G' (fk f) v d o1 ∧ Held G' H' o1 ∧ ∀ G2 H2 d' o1', Does1 G' H' o1 G2 H2 o1' → Fd K G2 (fk f) v d' o1' → Gr H0 G G2 ∧ StOk K H0 P own G2 (setAt env i f d') σ H2 := by
  obtain ⟨p', dx', fs', v', o1, a1, a2, a3, a4, a5, a6⟩ := (s.grow g).fldC pf hi he
  rw [h1] at a1
  cases a1
  rw [g.hh _ _ h2] at a2
  cases a2
  rw [h3] at a3
  cases a3
  exact ⟨o1, a4, a5, fun G2 H2 d' o1' x y => ⟨(g.gr s).trans (a6 G2 H2 d' o1' x y).1, (a6 G2 H2 d' o1' x y).2⟩⟩
/-! ### self.f[k] = e, f a dict -/
def dputF (i : Nat) (f : Str) (k : Env → R D) (v : Env → R (D × Env)) : Env → R (Fl × Env) := fun e => (v e).bind fun x => (lift (fldAt x.2 i f)).bind fun d => (k x.2).bind fun y => (lift (keyOf y)).bind fun ky => match d with
  | .dict es => if es.length < 1000 then .ok (.nx, setAt x.2 i f (.dict (putD es (kD ky) x.1))) else .bad
  | _ => .bad
theorem EvS.dputF {i : Nat} {f : Str} {tk tv : TE} {fk' : Env → R D} {fv : Env → R (D × Env)} (pf : PoF K C) (hf : f ∈ flds) (hk1 : fk f = 1) (hi : i ∈ own) (hk : QI K own W cl tk fk') (hv : EvI K tw own W cl tv fv) : EvS K tw own own oL W cl (sDPut (tFld K (tVar i) f) tk tv) (Hz.dputF i f fk' fv) := EvS.of fun H0 P G env σ H E hp ok ans => by
  refine hv H0 P G env σ H _ hp ok (ans.bind.mono (fun a ha G1 H1 x g1 ok1 rx => ?_) fun c h H' fr => h σ H' ok.ln fr)
  obtain ⟨d, hd, ha⟩ := ans_lift ha
  obtain ⟨p, dx, fs, v, o1, a1, a2, a3, a4, a5, a6⟩ := ok1.fldC pf hi hd
  refine ⟨.ref p, a1, p, C, dx, fs, v, rfl, a2, pf.cl, pf.no f hf, a3, ?_⟩
  refine hk H0 P G1 a.2 σ H1 _ ok1 (ha.bind.mono (fun y hy G2 H2 vy g2 ry => ?_) fun c h H' sm => h σ H' ok.ln (ok1.frm sm))
  obtain ⟨ky, hky, q⟩ := ans_lift hy
  obtain ⟨o2, b4, b5, b6⟩ := ok1.fldQ pf hi hd g2 a1 a2 a3
  have b7 := b4.flI hk1
  cases d with
  | dict es =>
    obtain ⟨pd, kvs, rfl, rfl, r⟩ := b7.dicI
    by_cases hl : es.length < 1000
    · dsimp only at q
      rw [if_pos hl] at q
      have ek := keyOf_some hky
      subst ek
      have ey := ry.key
      subst ey
      have hH := (b5.at_ pd _ (List.mem_singleton.mpr rfl)).1
      refine ⟨pd, _, rfl, DPut.k hH (by rw [r.length, sizeLine_eq]; omega), ?_⟩
      obtain ⟨gr, ok3⟩ := b6 G2 _ _ _ (Does1.one (os := []) (o' := .dK (putK kvs ky x)) g2.gh b5 fun xs z => by cases z) (hk1 ▸ Fd.fl (.dic (r.put (rx.mono g2.gg))))
      exact q G2 σ _ (g1.trans gr) ok3
    · dsimp only at q
      rw [if_neg hl] at q
      exact q.elim
  | _ => exact q.elim
def fldL (e : Env) (i : Nat) (f : Str) : Option (List D) := match fldAt e i f with
  | some (.list es) => some es
  | _ => none
theorem fldL_eq {e : Env} {i : Nat} {f : Str} {es : List D} (h : fldL e i f = some es) : fldAt e i f = some (.list es) := by
  unfold fldL at h
  split at h
  · rename_i hd
    cases h
    exact hd
  · cases h
def fldT (e : Env) (i : Nat) (f : Str) : Option (List (D × D)) := match fldAt e i f with
  | some (.dict es) => some es
  | _ => none
theorem fldT_eq {e : Env} {i : Nat} {f : Str} {es : List (D × D)} (h : fldT e i f = some es) : fldAt e i f = some (.dict es) := by
  unfold fldT at h
  split at h
  · rename_i hd
    cases h
    exact hd
  · cases h
/-! ### self.f.append(e), f a list -/
def appF (i : Nat) (f : Str) (a : Env → R D) : Env → R (Fl × Env) := fun e => (lift (fldL e i f)).bind fun es => (a e).bind fun x => if es.length < 1000000 then .ok (.nx, setAt e i f (.list (es ++ [x]))) else .bad
theorem EvS.appF {i : Nat} {f : Str} {te : TE} {fe : Env → R D} (pf : PoF K C) (hf : f ∈ flds) (hk1 : fk f = 1) (hi : i ∈ own) (h : QI K own W cl te fe) : EvS K tw own own oL W cl (tDrop (tBM K "list" rAppend (tFld K (tVar i) f) (tCons te tNil))) (Hz.appF i f fe) := EvS.of fun H0 P G env σ H E hp ok ans => by
  obtain ⟨es, hd, ans⟩ := ans_lift ans
  obtain ⟨p, dx, fs, v, o1, a1, a2, a3, a4, a5, a6⟩ := ok.fldC pf hi (fldL_eq hd)
  obtain ⟨pd0, vs0, rfl, rfl, r0⟩ := (a4.flI hk1).lstI
  refine ⟨.ref p, a1, p, C, dx, fs, _, rfl, a2, pf.cl, pf.no f hf, a3, .inl ⟨rfl, vs0, SqL.of (a5.at_ _ _ (List.mem_singleton.mpr rfl)).1⟩, ?_⟩
  refine h H0 P G env σ H _ ok (ans.bind.mono (fun y hy G2 H2 x g2 rx => ?_) fun c h H' sm => h σ H' ok.ln (ok.frm sm))
  obtain ⟨o2, b4, b5, b6⟩ := ok.fldQ pf hi (fldL_eq hd) g2 a1 a2 a3
  obtain ⟨pd, vs, e1, rfl, r⟩ := (b4.flI hk1).lstI
  cases e1
  by_cases hl : es.length < 1000000
  · rw [if_pos hl] at hy
    have hH := (b5.at_ pd0 _ (List.mem_singleton.mpr rfl)).1
    obtain ⟨gr, ok3⟩ := b6 G2 _ _ _ (Does1.one (os := []) (o' := .lst (vs ++ [x])) g2.gh b5 fun xs z => by cases z) (hk1 ▸ Fd.fl (.lst (r.append (.cons rx .nil))))
    exact ⟨pd0, vs, x, rfl, rfl, hH, sz100l (by rw [r.length]; exact hl), hy G2 σ _ gr ok3⟩
  · rw [if_neg hl] at hy
    exact hy.elim
/-! ### lists and dicts of such -/
def setG (k d : D) : List (D × D) → List (D × D)
  | [] => []
  | (k', x) :: r => if keqD k' k = true then (k', d) :: r else (k', x) :: setG k d r
theorem FlA.at {G : Hp} {d : D} : ∀ {n : Nat} {vs : List V} {ds : List D} {os : Os}, FlA K G vs ds os → ds[n]? = some d → ∃ v o0 o1 o2, vs[n]? = some v ∧ os = o0 ++ (o1 ++ o2) ∧ Fl1 K G v d o1 ∧ ∀ G', Same G G' → ∀ d' o1', Fl1 K G' v d' o1' → FlA K G' vs (ds.set n d') (o0 ++ (o1' ++ o2))
  | _, _, _, _, .nil, e => by simp at e
  | 0, _, _, _, .cons (o1 := a) (o2 := b) h t, e => by
    simp at e
    subst e
    exact ⟨_, [], a, b, rfl, rfl, h, fun G' e d' o1' h' => FlA.cons (o1 := o1') (o2 := b) h' (t.mono e)⟩
  | n + 1, _, _, _, .cons (o1 := a) (o2 := b) h t, e => by
    obtain ⟨v, o0, o1, o2, h1, rfl, h2, h3⟩ := FlA.at (n := n) t (by simpa using e)
    refine ⟨v, a ++ o0, o1, o2, by simpa using h1, by rw [List.append_assoc], h2, fun G' e d' o1' h' => ?_⟩
    rw [List.append_assoc]
    exact .cons (h.mono e) (h3 G' e d' o1' h')
theorem FlA.snoc {G : Hp} {v : V} {d : D} {o : Os} : ∀ {vs : List V} {ds : List D} {os : Os}, FlA K G vs ds os → Fl1 K G v d o → FlA K G (vs ++ [v]) (ds ++ [d]) (os ++ o)
  | _, _, _, .nil, h => by
    have := FlA.cons (o1 := o) (o2 := []) h .nil
    rw [List.append_nil] at this
    exact this
  | _, _, _, .cons h' t, h => by
    rw [List.append_assoc]
    exact .cons h' (FlA.snoc t h)
theorem FlA.len {G : Hp} : ∀ {vs : List V} {ds : List D} {os : Os}, FlA K G vs ds os → vs.length = ds.length
  | _, _, _, .nil => rfl
  | _, _, _, .cons _ t => by simp [FlA.len t]
theorem FlK.len {G : Hp} : ∀ {vs : List (Key × V)} {ds : List (D × D)} {os : Os}, FlK K G vs ds os → vs.length = ds.length
  | _, _, _, .nil => rfl
  | _, _, _, .cons _ t => by simp [FlK.len t]
theorem valV_cons (k k' : Key) (v : V) (kvs : List (Key × V)) : valV ((k', v) :: kvs) k = if k' = k then some v else valV kvs k := by
  unfold valV
  rw [List.find?_cons]
  by_cases h : k' = k <;> simp [h]
theorem FlK.at {G : Hp} {d : D} {k : Key} : ∀ {vs : List (Key × V)} {ds : List (D × D)} {os : Os}, FlK K G vs ds os → valD ds (kD k) = some d → ∃ v o0 o1 o2, valV vs k = some v ∧ os = o0 ++ (o1 ++ o2) ∧ Fl1 K G v d o1 ∧ ∀ G', Same G G' → ∀ d' o1', Fl1 K G' v d' o1' → FlK K G' vs (setG (kD k) d' ds) (o0 ++ (o1' ++ o2))
  | _, _, _, .nil, e => by cases e
  | _, _, _, .cons (k := k') (v := v) (d := dg) (o1 := a) (o2 := b) (ds := ds) h t, e => by
    have e' : (if keqD (kD k') (kD k) = true then some dg else valD ds (kD k)) = some d := e
    rw [keqD_k] at e'
    by_cases z : k' = k
    · subst z
      simp at e'
      subst e'
      refine ⟨v, [], a, b, by rw [valV_cons, if_pos rfl], rfl, h, fun G' e d' o1' h' => ?_⟩
      have h2 : setG (kD k') d' ((kD k', dg) :: ds) = (kD k', d') :: ds := by simp [setG, keqD_k]
      rw [h2]
      exact FlK.cons (o1 := o1') (o2 := b) h' (t.mono e)
    · rw [if_neg (by simpa using z)] at e'
      obtain ⟨w, o0, o1, o2, l, rfl, hf, hp⟩ := FlK.at (k := k) t e'
      refine ⟨w, a ++ o0, o1, o2, by rw [valV_cons, if_neg z]; exact l, by rw [List.append_assoc], hf, fun G' e d' o1' h' => ?_⟩
      have h2 : setG (kD k) d' ((kD k', dg) :: ds) = (kD k', dg) :: setG (kD k) d' ds := by simp [setG, keqD_k, z]
      rw [h2, List.append_assoc]
      exact .cons (h.mono e) (hp G' e d' o1' h')
theorem FlK.none {G : Hp} {k : Key} : ∀ {vs : List (Key × V)} {ds : List (D × D)} {os : Os}, FlK K G vs ds os → valD ds (kD k) = Option.none → valV vs k = Option.none
  | _, _, _, .nil, e => rfl
  | _, _, _, .cons (k := k') (v := v) (d := dg) (ds := ds) h t, e => by
    have e' : (if keqD (kD k') (kD k) = true then some dg else valD ds (kD k)) = Option.none := e
    rw [keqD_k] at e'
    by_cases z : k' = k
    · subst z
      simp at e'
    · rw [if_neg (by simpa using z)] at e'
      rw [valV_cons, if_neg z]
      exact FlK.none t e'
theorem FlK.snoc {G : Hp} {k : Key} {v : V} {d : D} {o : Os} : ∀ {vs : List (Key × V)} {ds : List (D × D)} {os : Os}, FlK K G vs ds os → Fl1 K G v d o → FlK K G (vs ++ [(k, v)]) (ds ++ [(kD k, d)]) (os ++ o)
  | _, _, _, .nil, h => by
    have := FlK.cons (k := k) (o1 := o) (o2 := []) h .nil
    rw [List.append_nil] at this
    exact this
  | _, _, _, .cons h' t, h => by
    rw [List.append_assoc]
    exact .cons h' (FlK.snoc t h)
def dputL (i : Nat) (f key : Str) (n : Env → R D) (v : Env → R (D × Env)) : Env → R (Fl × Env) := fun e => (v e).bind fun x => (lift (fldL x.2 i f)).bind fun es => (n x.2).bind fun y => match y with
  | .int j => (lift (ixN es.length j)).bind fun m => match es[m]? with
    | some (.dict ks) => if ks.length < 1000 then .ok (.nx, setAt x.2 i f (.list (es.set m (.dict (putD ks (.str key) x.1))))) else .bad
    | _ => .bad
  | _ => .bad
theorem EvS.dputL {i : Nat} {f key : Str} {tn tv : TE} {fn : Env → R D} {fv : Env → R (D × Env)} (pf : PoF K C) (hf : f ∈ flds) (hk2 : fk f = 2) (hi : i ∈ own) (hn : QI K own W cl tn fn) (hv : EvI K tw own W cl tv fv) : EvS K tw own own oL W cl (sDPut (tOp (rIx K) (tFld K (tVar i) f) tn) (tC (.str key)) tv) (Hz.dputL i f key fn fv) := EvS.of fun H0 P G env σ H E hp ok ans => by
  refine hv H0 P G env σ H _ hp ok (ans.bind.mono (fun a ha G1 H1 x g1 ok1 rx => ?_) fun c h H' fr => h σ H' ok.ln fr)
  obtain ⟨es, hd, ha⟩ := ans_lift ha
  obtain ⟨p, dx, fs, v, o1, a1, a2, a3, a4, a5, a6⟩ := ok1.fldC pf hi (fldL_eq hd)
  refine ⟨.ref p, a1, p, C, dx, fs, v, rfl, a2, pf.cl, pf.no f hf, a3, ?_⟩
  refine hn H0 P G1 a.2 σ H1 _ ok1 (ha.bind.mono (fun y hy G2 H2 vy g2 ry => ?_) fun c h H' sm => h σ H' ok.ln (ok1.frm sm))
  obtain ⟨o2, b4, b5, b6⟩ := ok1.fldQ pf hi (fldL_eq hd) g2 a1 a2 a3
  obtain ⟨pl, vs, o, rfl, rfl, ra⟩ := b4.llI hk2
  have hH := (b5.at_ pl _ List.mem_cons_self).1
  cases ry with
  | int j =>
    obtain ⟨m, hm, q⟩ := ans_lift hy
    cases hem : es[m]? with
    | none => rw [hem] at q; exact q.elim
    | some dm0 =>
      rw [hem] at q
      cases dm0 with
      | dict ks =>
        obtain ⟨vm, c0, c1, c2, h1, rfl, h2, h3⟩ := ra.at hem
        obtain ⟨pd, kvs, rfl, rfl, rk⟩ := h2.dicI
        by_cases hl : ks.length < 1000
        · dsimp only at q
          rw [if_pos hl] at q
          have hi2 : atI vs j = some (.ref pd) := by
            unfold atI
            rw [ra.len, hm]
            exact h1
          refine .inl ⟨pl, vs, j, .ref pd, rfl, rfl, SqL.of hH, hi2, ?_⟩
          have hh2 : Held G2 H2 (((pl, .lst vs) :: c0) ++ ([(pd, .dK kvs)] ++ c2)) := b5
          have hpd := (hh2.sub.at_ pd _ (List.mem_singleton.mpr rfl)).1
          refine ⟨pd, _, rfl, DPut.k (k := .inr key) hpd (by rw [rk.length, sizeLine_eq]; omega), ?_⟩
          have x1 := Does1.mid hh2 (Does1.one (os := []) (o' := .dK (putK kvs (.inr key) x)) g2.gh hh2.sub fun xs z => by cases z)
          obtain ⟨gr, ok3⟩ := b6 G2 _ _ _ x1 (hk2 ▸ Fd.ll (h3 G2 (Same.refl _) _ _ (.dic (rk.put (k := .inr key) (rx.mono g2.gg)))))
          exact q G2 σ _ (g1.trans gr) ok3
        · dsimp only at q
          rw [if_neg hl] at q
          exact q.elim
      | _ => exact q.elim
  | _ => exact hy.elim
def appLN (i : Nat) (f : Str) (a : Env → R D) : Env → R (Fl × Env) := fun e => (lift (fldL e i f)).bind fun es => (a e).bind fun x => if es.length < 1000000 ∧ newOk "told" x = true then .ok (.nx, setAt e i f (.list (es ++ [x]))) else .bad
theorem CellO.f1 {G : Hp} {p : Addr} {d : D} {os : Os} (c : CellO K G p d os) (h : newOk "told" d = true) : Fl1 K G (.ref p) d os := (c.fd (f := "told") h).flI (by decide +kernel)
theorem EvS.appLN {i : Nat} {f : Str} {te : TE} {fe : Env → R D} (pf : PoF K C) (hf : f ∈ flds) (hk2 : fk f = 2) (hi : i ∈ own) (h : QN K own W cl te fe) : EvS K tw own own oL W cl (tDrop (tBM K "list" rAppend (tFld K (tVar i) f) (tCons te tNil))) (Hz.appLN i f fe) := EvS.of fun H0 P G env σ H E hp ok ans => by
  obtain ⟨es, hd, ans⟩ := ans_lift ans
  obtain ⟨p, dx, fs, v, o1, a1, a2, a3, a4, a5, a6⟩ := ok.fldC pf hi (fldL_eq hd)
  obtain ⟨pd0, vs0, o0, rfl, rfl, r0⟩ := a4.llI hk2
  have hH0 := (a5.at_ _ _ List.mem_cons_self).1
  refine ⟨.ref p, a1, p, C, dx, fs, _, rfl, a2, pf.cl, pf.no f hf, a3, .inl ⟨rfl, vs0, SqL.of hH0⟩, ?_⟩
  refine h H0 P G env σ H _ ok (ans.bind.mono (fun y hy G2 H2 pn on g2 hfr cn hn => ?_) fun c h H' sm => h σ H' ok.ln (ok.frm sm))
  by_cases hl : es.length < 1000000 ∧ newOk "told" y = true
  · rw [if_pos hl] at hy
    have x1 : Does1 G H ((pd0, .lst vs0) :: o0) G2 H2 ((pd0, .lst vs0) :: (o0 ++ on)) := by
      have hh : Held G H (((pd0, .lst vs0) :: o0) ++ ([] ++ [])) := by rw [List.append_nil, List.append_nil]; exact a5
      have := Does1.mid hh (Does1.of_grow (o1 := []) g2 hfr hn)
      simpa using this
    have x2 := x1.trans (Does1.one (o' := .lst (vs0 ++ [.ref pn])) g2.gh x1.hd fun xs z => by cases z)
    obtain ⟨gr, ok3⟩ := a6 G2 _ _ _ x2 (hk2 ▸ Fd.ll ((r0.mono g2.gg).snoc (cn.f1 hl.2)))
    exact ⟨pd0, vs0, .ref pn, rfl, rfl, g2.hh _ _ hH0, sz100l (by rw [r0.len]; exact hl.1), hy G2 σ _ gr ok3⟩
  · rw [if_neg hl] at hy
    exact hy.elim
def dputN (i : Nat) (f : Str) (k : Env → R D) (v : Env → R (D × Env)) : Env → R (Fl × Env) := fun e => (v e).bind fun x => (lift (fldT x.2 i f)).bind fun es => (k x.2).bind fun y => (lift (keyOf y)).bind fun ky => if es.length < 1000 ∧ newOk "told" x.1 = true ∧ (valD es (kD ky)).isNone = true then .ok (.nx, setAt x.2 i f (.dict (es ++ [(kD ky, x.1)]))) else .bad
theorem EvS.dputN {i : Nat} {f : Str} {tv : TE} {fv : Env → R (D × Env)} (pf : PoF K C) (hf : f ∈ flds) (hk2 : fk f = 2) (hi : i ∈ own) {j : Nat} (hj : j ∉ own) (hv : EvNo K tw own W cl tv fv) : EvS K tw own own oL W cl (sDPut (tFld K (tVar i) f) (tVar j) tv) (Hz.dputN i f (fun e => (varD j e).bind fun x => .ok x.1) fv) := EvS.of fun H0 P G env σ H E hp ok ans => by
  refine hv H0 P G env σ H _ hp ok (ans.bind.mono (fun a ha G1 H1 G2 H2 pn on g1 ok1 g2 hfr cn hn => ?_) fun c h H' fr => h σ H' ok.ln fr)
  obtain ⟨es, hd, ha⟩ := ans_lift ha
  obtain ⟨p, dx, fs, v, o1, a1, a2, a3, a4, a5, a6⟩ := ok1.fldC pf hi (fldT_eq hd)
  obtain ⟨pd, kvs, o0, rfl, rfl, r0⟩ := a4.dlI hk2
  have hH0 := (a5.at_ _ _ List.mem_cons_self).1
  refine ⟨.ref p, a1, p, C, dx, fs, _, rfl, g2.hh _ _ a2, pf.cl, pf.no f hf, a3, ?_⟩
  dsimp only [varD] at ha
  cases hjv : a.2[j]? with
  | none => rw [hjv] at ha; exact ha.elim
  | some oj =>
    cases oj with
    | none => rw [hjv] at ha; exact ha.elim
    | some dj =>
      rw [hjv] at ha
      obtain ⟨vj, e2, rj⟩ := ok1.val j dj hjv hj
      have ha' : Ans ((lift (keyOf dj)).bind fun ky => if es.length < 1000 ∧ newOk "told" a.1 = true ∧ (valD es (kD ky)).isNone = true then R.ok (Fl.nx, setAt a.2 i f (.dict (es ++ [(kD ky, a.1)]))) else .bad) _ _ := ha
      obtain ⟨ky, hky, q⟩ := ans_lift ha'
      have ek := keyOf_some hky
      subst ek
      have ey := rj.key
      subst ey
      refine ⟨_, e2, ?_⟩
      by_cases hl : es.length < 1000 ∧ newOk "told" a.1 = true ∧ (valD es (kD ky)).isNone = true
      · rw [if_pos hl] at q
        have hno : valV kvs ky = none := r0.none (by simpa using hl.2.2)
        have hput : putK kvs ky (.ref pn) = kvs ++ [(ky, .ref pn)] := by
          unfold putK
          rw [if_neg]
          intro z
          unfold valV at hno
          rw [Option.map_eq_none_iff, List.find?_eq_none] at hno
          obtain ⟨kv, h1, h2⟩ := List.any_eq_true.mp z
          exact hno kv h1 h2
        refine ⟨pd, _, rfl, DPut.k (g2.hh _ _ hH0) (by rw [r0.len, sizeLine_eq]; omega), ?_⟩
        rw [hput]
        have x1 : Does1 G1 H1 ((pd, .dK kvs) :: o0) G2 H2 ((pd, .dK kvs) :: (o0 ++ on)) := by
          have hh : Held G1 H1 (((pd, .dK kvs) :: o0) ++ ([] ++ [])) := by rw [List.append_nil, List.append_nil]; exact a5
          have := Does1.mid hh (Does1.of_grow (o1 := []) g2 hfr hn)
          simpa using this
        have x2 := x1.trans (Does1.one (o' := .dK (kvs ++ [(ky, .ref pn)])) g2.gh x1.hd fun xs z => by cases z)
        obtain ⟨gr, ok3⟩ := a6 G2 _ _ _ x2 (hk2 ▸ Fd.dl ((r0.mono g2.gg).snoc (cn.f1 hl.2.1)))
        exact q G2 σ _ (g1.trans gr) ok3
      · rw [if_neg hl] at q
        exact q.elim
def appD (i : Nat) (f : Str) (k a : Env → R D) : Env → R (Fl × Env) := fun e => (lift (fldT e i f)).bind fun es => (k e).bind fun y => (lift (keyOf y)).bind fun ky => match valD es (kD ky) with
  | some (.list xs) => (a e).bind fun x => if xs.length < 1000000 then .ok (.nx, setAt e i f (.dict (setG (kD ky) (.list (xs ++ [x])) es))) else .bad
  | _ => .bad
theorem EvS.appD {i : Nat} {f : Str} {tk te : TE} {fk' fe : Env → R D} (pf : PoF K C) (hf : f ∈ flds) (hk2 : fk f = 2) (hi : i ∈ own) (hk : QI K own W cl tk fk') (h : QI K own W cl te fe) : EvS K tw own own oL W cl (tDrop (tBM K "list" rAppend (tDGet (tFld K (tVar i) f) tk) (tCons te tNil))) (Hz.appD i f fk' fe) := EvS.of fun H0 P G env σ H E hp ok ans => by
  obtain ⟨es, hd, ans⟩ := ans_lift ans
  obtain ⟨p, dx, fs, v, o1, a1, a2, a3, a4, a5, a6⟩ := ok.fldC pf hi (fldT_eq hd)
  refine ⟨.ref p, a1, p, C, dx, fs, v, rfl, a2, pf.cl, pf.no f hf, a3, ?_⟩
  refine hk H0 P G env σ H _ ok (ans.bind.mono (fun y hy G1 H1 vy g1 ry => ?_) fun c h H' sm => h σ H' ok.ln (ok.frm sm))
  obtain ⟨ky, hky, hz⟩ := ans_lift hy
  clear hy
  have ek := keyOf_some hky
  subst ek
  have ey := ry.key
  subst ey
  obtain ⟨o2, b4, b5, b6⟩ := ok.fldQ pf hi (fldT_eq hd) g1 a1 a2 a3
  obtain ⟨pd, kvs, o0, rfl, rfl, r0⟩ := b4.dlI hk2
  have hH0 := (b5.at_ _ _ List.mem_cons_self).1
  cases hv : valD es (kD ky) with
  | none => rw [hv] at hz; exact hz.elim
  | some dl =>
    rw [hv] at hz
    cases dl with
    | list xs =>
      obtain ⟨vl, c0, c1, c2, h1, rfl, h2, h3⟩ := r0.at hv
      obtain ⟨pl, vs, rfl, rfl, rl⟩ := h2.lstI
      have hh2 : Held G1 H1 (((pd, .dK kvs) :: c0) ++ ([(pl, .lst vs)] ++ c2)) := b5
      have hpl := (hh2.sub.at_ pl _ (List.mem_singleton.mpr rfl)).1
      refine ⟨pd, .ref pl, rfl, h1 ▸ DGet.k hH0, .inl ⟨rfl, vs, SqL.of hpl⟩, ?_⟩
      have ok1 := ok.grow g1
      have hy' : Ans ((fe env).bind fun x => if xs.length < 1000000 then R.ok (Fl.nx, setAt env i f (.dict (setG (kD ky) (.list (xs ++ [x])) es))) else .bad) _ _ := hz
      refine h H0 P G1 env σ H1 _ ok1 (hy'.bind.mono (fun x hx G2 H2 vx g2 rx => ?_) fun c h H' sm => h σ H' ok.ln (ok1.frm sm))
      by_cases hl : xs.length < 1000000
      · rw [if_pos hl] at hx
        obtain ⟨o3, d4, d5, d6⟩ := ok.fldQ pf hi (fldT_eq hd) (g1.trans g2) a1 a2 a3
        obtain ⟨pd', kvs', o0', e1, rfl, r0'⟩ := d4.dlI hk2
        cases e1
        have hH2 := (d5.at_ _ _ List.mem_cons_self).1
        rw [g2.hh _ _ hH0] at hH2
        cases hH2
        obtain ⟨vl', c0', c1', c2', h1', rfl, h2', h3'⟩ := r0'.at hv
        rw [h1] at h1'
        cases h1'
        obtain ⟨pl', vs', e1, rfl, rl'⟩ := h2'.lstI
        cases e1
        have hh3 : Held G2 H2 (((pd, .dK kvs) :: c0') ++ ([(pl, .lst vs')] ++ c2')) := d5
        have hpl' := (hh3.sub.at_ pl _ (List.mem_singleton.mpr rfl)).1
        have x1 := Does1.mid hh3 (Does1.one (os := []) (o' := .lst (vs' ++ [vx])) g2.gh hh3.sub fun xs z => by cases z)
        obtain ⟨gr, ok3⟩ := d6 G2 _ _ _ x1 (hk2 ▸ Fd.dl (h3' G2 (Same.refl _) _ _ (.lst (rl'.append (.cons rx .nil)))))
        exact ⟨pl, vs', vx, rfl, rfl, hpl', sz100l (by rw [rl'.length]; exact hl), hx G2 σ _ gr ok3⟩
      · rw [if_neg hl] at hx
        exact hx.elim
    | _ => exact hz.elim
def dropD (k : D) (ds : List (D × D)) : List (D × D) := ds.filter fun x => !keqD x.1 k
theorem RpK.drop {G : Hp} {k : Key} : ∀ {kvs : List (Key × V)} {ds : List (D × D)}, RpK K G kvs ds → RpK K G (dropK kvs k) (dropD (kD k) ds)
  | _, _, .nil => .nil
  | _, _, .cons (k := k') (v := v) (d := d) (kvs := kvs) (ds := ds) h t => by
    have ih := RpK.drop (k := k) t
    unfold dropK dropD at ih ⊢
    rw [List.filter_cons, List.filter_cons, keqD_k]
    by_cases z : k' = k
    · simp [z]
      simpa using ih
    · simp [z]
      exact .cons h (by simpa using ih)
def dpopF (i : Nat) (f : Str) (k : Env → R D) : Env → R (D × Env) := fun e => (lift (fldT e i f)).bind fun es => (k e).bind fun y => (lift (keyOf y)).bind fun ky => (lift (valD es (kD ky))).bind fun d => .ok (d, setAt e i f (.dict (dropD (kD ky) es)))
theorem EvI.dpopF {i : Nat} {f : Str} {tk : TE} {fk' : Env → R D} (pf : PoF K C) (hf : f ∈ flds) (hk1 : fk f = 1) (hi : i ∈ own) (hk : QI K own W cl tk fk') : EvI K tw own W cl (tDPop1 (tFld K (tVar i) f) tk) (Hz.dpopF i f fk') := fun H0 P G env σ H Q hp ok ans => by
  obtain ⟨es, hd, ans⟩ := ans_lift ans
  obtain ⟨p, dx, fs, v, o1, a1, a2, a3, a4, a5, a6⟩ := ok.fldC pf hi (fldT_eq hd)
  obtain ⟨pd0, kvs0, rfl, rfl, r0⟩ := (a4.flI hk1).dicI
  refine ⟨.ref p, a1, p, C, dx, fs, _, rfl, a2, pf.cl, pf.no f hf, a3, pd0, rfl, .inl ⟨kvs0, .inl (a5.at_ _ _ (List.mem_singleton.mpr rfl)).1⟩, ?_⟩
  refine hk H0 P G env σ H _ ok (ans.bind.mono (fun y hy G1 H1 vy g1 ry => ?_) fun c h H' sm => h H' (ok.frm sm))
  obtain ⟨ky, hky, hy⟩ := ans_lift hy
  obtain ⟨d, hv, q⟩ := ans_lift hy
  have ek := keyOf_some hky
  subst ek
  have ey := ry.key
  subst ey
  obtain ⟨o2, b4, b5, b6⟩ := ok.fldQ pf hi (fldT_eq hd) g1 a1 a2 a3
  obtain ⟨pd, kvs, e1, rfl, r⟩ := (b4.flI hk1).dicI
  cases e1
  have hH := (b5.at_ pd0 _ (List.mem_singleton.mpr rfl)).1
  obtain ⟨v1, hv1, rv1⟩ := (RpK.val r).1 d hv
  obtain ⟨gr, ok3⟩ := b6 G1 _ _ _ (Does1.one (os := []) (o' := .dK (dropK kvs ky)) g1.gh b5 fun xs z => by cases z) (hk1 ▸ Fd.fl (.dic r.drop))
  exact ⟨kvs, ky, v1, hH, rfl, hv1, q G1 _ v1 gr ok3 rv1⟩
end
end Hz

/-! the rules of the text for instances -/
namespace Hz
open PySem PySem.Spec PyProof.Rows L2 L2H

/-! ### quiet rules with their text -/
structure DQ (X : Cx) (own : List Nat) (W : WX) (cl : Nat → Addr) (e : Expr) (t : TE) (f : Env → R D) : Prop where
  pe : PE X e t
  ev : QI X.K own W cl t f
structure DQN (X : Cx) (own : List Nat) (W : WX) (cl : Nat → Addr) (e : Expr) (t : TE) (f : Env → R D) : Prop where
  pe : PE X e t
  ev : QN X.K own W cl t f
section
variable {X : Cx} {tw own oN oL : List Nat} {W : WX} {cl : Nat → Addr} {C : Addr} {o e value : Expr} {es : List Expr} {f m : Str} {pos pos' apos cpos q p : Pos} {ta te tk : TE} {tt : TT} {tA : TA} {fa fe fk' : Env → R (D × Env)} {fA : Env → R (List D × Env)} {ft : Env → R (Bool × Env)} {qe qk : Env → R D} {qt : Env → R Bool} {qa : Env → R (List D)}
theorem dqn_brw (h : DNo X [] [] W cl e te fe) : DQN X own W cl e te (brwN fe) := ⟨h.pe, h.ev.brwN⟩
theorem dq_new (h : DQN X own W cl e te qe) : DQ X own W cl e te qe := ⟨h.pe, h.ev.toQ⟩
theorem de_q (h : DQ X own W cl e te qe) : DI X tw own W cl e te (quI qe) := ⟨h.pe, h.ev.toI⟩
theorem dn_o (h : DN X tw own W cl e te fe) : DNo X tw own W cl e te fe := ⟨h.pe, h.ev.toNo⟩
/-! ### attributes, methods -/
theorem de_fld (pf : PoF X.K C) (ha : DI X tw own W cl o ta fa) (hf : f ∈ flds := by decide +kernel) (hb : attributeBase o f X.env (eval o X.env) = eval o X.env := by rfl) : DI X tw own W cl (.Attribute o f pos) (tFld X.K ta f) (op1 (fldD f) fa) := ⟨pe_fld ha.pe hb, EvI.fld pf hf ha.ev⟩
section
variable {k n : Nat} {g : Addr} {fd : FuncData} {ps : List Str} {F : List D → R D} {FM : List D → R (D × D)} {qual : Str} {st : Stmt}
end
/-! ### C(..) -/
def makeD (F : List D → R (D × D)) (a : Env → R (List D × Env)) : Env → R (D × Env) := fun e => (a e).bind fun y => (F (insD [] :: y.1)).bind fun r => match r.1 with
  | .none => .ok (r.2, y.2)
  | _ => .bad
/-! ### {k: v, ..}, the keys texts -/
def qDisp (ks : List Str) (a : Env → R (List D)) : Env → R D := fun e => (a e).bind fun ds => .ok (.dict (mergeD [] ((ks.zip ds).map fun p => (.str p.1, p.2))))
def trsOf : List Str → List TE → List (TE × TE)
  | k :: ks, t :: ts => (tC (.str k), t) :: trsOf ks ts
  | _, _ => []
inductive QPs (K : PySem.W.Frag) (own : List Nat) (W : WX) (cl : Nat → Addr) : List Str → List TE → (Env → R (List D)) → Prop
  | nil : QPs K own W cl [] [] qNil
  | cons {k : Str} {ks : List Str} {t : TE} {ts : List TE} {f : Env → R D} {fs : Env → R (List D)} : QI K own W cl t f → QPs K own W cl ks ts fs → QPs K own W cl (k :: ks) (t :: ts) (qCons f fs)
theorem QPs.run {K : PySem.W.Frag} : ∀ {ks : List Str} {ts : List TE} {fs : Env → R (List D)}, QPs K own W cl ks ts fs → ∀ (H0 : Hp) (P : Par) (G : Hp) (env : Env) (σ : L2.St) (H : Hp) (Q : List (V × V) → Hp → Prop), StOk K H0 P own G env σ H →
    Ans (fs env) (fun ds => ∀ G' H' kvs, Grow G H G' H' → kvs.length = ks.length → RpK K G' kvs ((ks.zip ds).map fun p => (.str p.1, p.2)) → Q (kvs.map fun kv => (kV kv.1, kv.2)) H') (fun c => ∀ H', Same H H' → W (.ref (cl c)) none σ H') → tPairs (trsOf ks ts) σ H Q
  | _, _, _, .nil, H0, P, G, env, σ, H, Q, ok, ans => ans G H [] (Grow.refl ok.sub) rfl .nil
  | _, _, _, .cons (k := k) (ks := ks) h hs, H0, P, G, env, σ, H, Q, ok, ans => by
    refine h H0 P G env σ H _ ok (ans.bind.mono (fun a ha' G1 H1 x g1 rx => ?_) fun _ h => h)
    refine QPs.run hs H0 P G1 env σ H1 _ (ok.grow g1) (ha'.bind.mono (fun b hb' G2 H2 kvs g2 hl rk => ?_) fun _ h H' sm => h H' (g1.hh.trans sm))
    exact hb' G2 H2 ((.inr k, x) :: kvs) (g1.trans g2) (by simp [hl]) (RpK.cons (k := .inr k) (rx.mono g2.gg) rk)
/-! ### statements -/
variable {i : Nat} {x : Str}
theorem ds_dputF (i : Nat) {x : Str} {k : Expr} (hu : X.A.units + 1 < cLine) (pf : PoF X.K C) (hi : i ∈ own) (hx : PE X (.Name x q) (tVar i)) (hk : DQ X own W cl k tk qk) (hv : DI X tw own W cl value te fe) (hf : f ∈ flds := by decide +kernel) (hk1 : fk f = 1 := by decide +kernel) (hb : attributeBase (.Name x q) f X.env (eval (.Name x q) X.env) = eval (.Name x q) X.env := by rfl) (hs : swapsWith value (some (.Subscript (.Attribute (.Name x q) f apos) k pos')) pos.line X.env = pure false := by rfl) :
    DS X tw own own oL W cl (.Assign [.Subscript (.Attribute (.Name x q) f apos) k pos'] value pos) (sDPut (tFld X.K (tVar i) f) tk te) (dputF i f qk fe) := ⟨ps_dput hu (pe_fld hx hb) hk.pe hv.pe hs, EvS.dputF pf hf hk1 hi hk.ev hv.ev⟩
theorem ds_dputN (i j : Nat) {x y : Str} {qy : Pos} (hu : X.A.units + 1 < cLine) (pf : PoF X.K C) (hi : i ∈ own) (hj : j ∉ own) (hx : PE X (.Name x q) (tVar i)) (hy : PE X (.Name y qy) (tVar j)) (hv : DNo X tw own W cl value te fe) (hf : f ∈ flds := by decide +kernel) (hk2 : fk f = 2 := by decide +kernel) (hb : attributeBase (.Name x q) f X.env (eval (.Name x q) X.env) = eval (.Name x q) X.env := by rfl) (hs : swapsWith value (some (.Subscript (.Attribute (.Name x q) f apos) (.Name y qy) pos')) pos.line X.env = pure false := by rfl) :
    DS X tw own own oL W cl (.Assign [.Subscript (.Attribute (.Name x q) f apos) (.Name y qy) pos'] value pos) (sDPut (tFld X.K (tVar i) f) (tVar j) te) (dputN i f (fun e => (varD j e).bind fun x => .ok x.1) fe) := ⟨ps_dput hu (pe_fld hx hb) hy hv.pe hs, EvS.dputN pf hf hk2 hi hj hv.ev⟩
theorem ds_dputL (i : Nat) {x key : Str} {k : Expr} {j : Nat} {kp spos : Pos} (hu : X.A.units + 1 < cLine) (pf : PoF X.K C) (hi : i ∈ own) (hx : PE X (.Name x q) (tVar i)) (hk : DQ X own W cl k tk qk) (hv : DI X tw own W cl value te fe) (hf : f ∈ flds := by decide +kernel) (hk2 : fk f = 2 := by decide +kernel) (hb : attributeBase (.Name x q) f X.env (eval (.Name x q) X.env) = eval (.Name x q) X.env := by rfl) (hpi : PlainIx k := by exact fun _ _ => rfl) (hs : swapsWith value (some (.Subscript (.Subscript (.Attribute (.Name x q) f apos) k spos) (.Constant (.str key) j kp) pos')) pos.line X.env = pure false := by rfl) :
    DS X tw own own oL W cl (.Assign [.Subscript (.Subscript (.Attribute (.Name x q) f apos) k spos) (.Constant (.str key) j kp) pos'] value pos) (sDPut (tOp (rIx X.K) (tFld X.K (tVar i) f) tk) (tC (.str key)) te) (dputL i f key qk fe) := ⟨ps_dput hu (pe_ix ix_seq (pe_fld hx hb) hk.pe hpi) pe_str hv.pe hs, EvS.dputL pf hf hk2 hi hk.ev hv.ev⟩
theorem ds_appF (i : Nat) {x : Str} {bpos : Pos} (pf : PoF X.K C) (hi : i ∈ own) (hx : PE X (.Name x q) (tVar i)) (h : DQ X own W cl e te qe) (hf : f ∈ flds := by decide +kernel) (hk1 : fk f = 1 := by decide +kernel) (hb : attributeBase (.Name x q) f X.env (eval (.Name x q) X.env) = eval (.Name x q) X.env := by rfl) (hs : starEach [e] X.env = (false, eval e X.env) :: starEach [] X.env := by rfl) (hline : (bpos.endLine == cpos.line) = true := by rfl)
    (hbase : attributeBase (.Attribute (.Name x q) f apos) "append" X.env (eval (.Attribute (.Name x q) f apos) X.env) = eval (.Attribute (.Name x q) f apos) X.env := by rfl) (hfew : ((backTo cpos (starEach [e] X.env)).all (fun x => !x.1) && (backToKw cpos (keywordEach [] X.env)).all (fun x => x.1.isSome) && decide ([e].length + ([] : List Keyword).length + (if ([] : List Keyword).isEmpty then 0 else 1) < 30)) = true := by rfl) (hpl : (backTo cpos (starEach [] X.env)).any (·.1) = false := by rfl)
    (hsw : swapsWith (.Call (.Attribute (.Attribute (.Name x q) f apos) "append" bpos) [e] [] cpos) none pos.line X.env = pure false := by rfl) :
    DS X tw own own oL W cl (.Expr (.Call (.Attribute (.Attribute (.Name x q) f apos) "append" bpos) [e] [] cpos) pos) (tDrop (tBM X.K "list" rAppend (tFld X.K (tVar i) f) (tCons te tNil))) (appF i f qe) :=
  ⟨ps_expr (pe_bm PySem.F.plainAttrs_list PySem.F.slot_list_append PySem.F.type_list_append mt_append (pe_fld hx hb) (pa_cons h.pe pa_nil hs) hbase hfew hline hs hpl) hsw, EvS.appF pf hf hk1 hi h.ev⟩
theorem ds_appLN (i : Nat) {x : Str} {bpos : Pos} (pf : PoF X.K C) (hi : i ∈ own) (hx : PE X (.Name x q) (tVar i)) (h : DQN X own W cl e te qe) (hf : f ∈ flds := by decide +kernel) (hk2 : fk f = 2 := by decide +kernel) (hb : attributeBase (.Name x q) f X.env (eval (.Name x q) X.env) = eval (.Name x q) X.env := by rfl) (hs : starEach [e] X.env = (false, eval e X.env) :: starEach [] X.env := by rfl) (hline : (bpos.endLine == cpos.line) = true := by rfl)
    (hbase : attributeBase (.Attribute (.Name x q) f apos) "append" X.env (eval (.Attribute (.Name x q) f apos) X.env) = eval (.Attribute (.Name x q) f apos) X.env := by rfl) (hfew : ((backTo cpos (starEach [e] X.env)).all (fun x => !x.1) && (backToKw cpos (keywordEach [] X.env)).all (fun x => x.1.isSome) && decide ([e].length + ([] : List Keyword).length + (if ([] : List Keyword).isEmpty then 0 else 1) < 30)) = true := by rfl) (hpl : (backTo cpos (starEach [] X.env)).any (·.1) = false := by rfl)
    (hsw : swapsWith (.Call (.Attribute (.Attribute (.Name x q) f apos) "append" bpos) [e] [] cpos) none pos.line X.env = pure false := by rfl) :
    DS X tw own own oL W cl (.Expr (.Call (.Attribute (.Attribute (.Name x q) f apos) "append" bpos) [e] [] cpos) pos) (tDrop (tBM X.K "list" rAppend (tFld X.K (tVar i) f) (tCons te tNil))) (appLN i f qe) :=
  ⟨ps_expr (pe_bm PySem.F.plainAttrs_list PySem.F.slot_list_append PySem.F.type_list_append mt_append (pe_fld hx hb) (pa_cons h.pe pa_nil hs) hbase hfew hline hs hpl) hsw, EvS.appLN pf hf hk2 hi h.ev⟩
theorem ds_appD (i : Nat) {x : Str} {k : Expr} {bpos spos : Pos} (hu : X.A.units + 1 < cLine) (pf : PoF X.K C) (hi : i ∈ own) (hx : PE X (.Name x q) (tVar i)) (hk : DQ X own W cl k tk qk) (h : DQ X own W cl e te qe) (hf : f ∈ flds := by decide +kernel) (hk2 : fk f = 2 := by decide +kernel) (hb : attributeBase (.Name x q) f X.env (eval (.Name x q) X.env) = eval (.Name x q) X.env := by rfl) (hsl : NoSl k := by exact fun _ _ => rfl) (hs : starEach [e] X.env = (false, eval e X.env) :: starEach [] X.env := by rfl) (hline : (bpos.endLine == cpos.line) = true := by rfl)
    (hbase : attributeBase (.Subscript (.Attribute (.Name x q) f apos) k spos) "append" X.env (eval (.Subscript (.Attribute (.Name x q) f apos) k spos) X.env) = eval (.Subscript (.Attribute (.Name x q) f apos) k spos) X.env := by rfl) (hfew : ((backTo cpos (starEach [e] X.env)).all (fun x => !x.1) && (backToKw cpos (keywordEach [] X.env)).all (fun x => x.1.isSome) && decide ([e].length + ([] : List Keyword).length + (if ([] : List Keyword).isEmpty then 0 else 1) < 30)) = true := by rfl) (hpl : (backTo cpos (starEach [] X.env)).any (·.1) = false := by rfl)
    (hsw : swapsWith (.Call (.Attribute (.Subscript (.Attribute (.Name x q) f apos) k spos) "append" bpos) [e] [] cpos) none pos.line X.env = pure false := by rfl) :
    DS X tw own own oL W cl (.Expr (.Call (.Attribute (.Subscript (.Attribute (.Name x q) f apos) k spos) "append" bpos) [e] [] cpos) pos) (tDrop (tBM X.K "list" rAppend (tDGet (tFld X.K (tVar i) f) tk) (tCons te tNil))) (appD i f qk qe) :=
  ⟨ps_expr (pe_bm PySem.F.plainAttrs_list PySem.F.slot_list_append PySem.F.type_list_append mt_append (pe_dget hu (pe_fld hx hb) hk.pe hsl) (pa_cons h.pe pa_nil hs) hbase hfew hline hs hpl) hsw, EvS.appD pf hf hk2 hi hk.ev h.ev⟩
theorem de_dpopF (i : Nat) {x : Str} {k : Expr} {bpos : Pos} (pf : PoF X.K C) (hi : i ∈ own) (hx : PE X (.Name x q) (tVar i)) (hk : DQ X own W cl k tk qk) (hf : f ∈ flds := by decide +kernel) (hk1 : fk f = 1 := by decide +kernel) (hb : attributeBase (.Name x q) f X.env (eval (.Name x q) X.env) = eval (.Name x q) X.env := by rfl) (m : M1 X (.Attribute (.Name x q) f apos) "pop" bpos k cpos := by exact ⟨rfl, rfl, rfl, rfl⟩) :
    DI X tw own W cl (.Call (.Attribute (.Attribute (.Name x q) f apos) "pop" bpos) [k] [] cpos) (tDPop1 (tFld X.K (tVar i) f) tk) (dpopF i f qk) := ⟨pe_dpop1 (pe_fld hx hb) hk.pe m, EvI.dpopF pf hf hk1 hi hk.ev⟩
/-! bodies of methods -/
end
end Hz

/-! new dicts of new lists -/
namespace Hz
open PySem PySem.Spec PyProof.Rows L2 L2H

def EvFd (K : PySem.W.Frag) (tw own : List Nat) (W : WX) (cl : Nat → Addr) (n : Nat) (t : TE) (f : Env → R (D × Env)) : Prop :=
  ∀ (H0 : Hp) (P : Par) (G : Hp) (env : Env) (σ : L2.St) (H : Hp) (Q : VK), P.1.map (·.1) = tw → StOk K H0 P own G env σ H →
    Ans (f env) (fun a => ∀ G1 H1 G' H' v os, Gr H0 G G1 → StOk K H0 P own G1 a.2 σ H1 → Grow G1 H1 G' H' → (∀ x ∈ dm os, H1 x = none) → Fd K G' n v a.1 os → Held G' H' os → Q v H') (fun c => ∀ H', Frm H0 P H' → W (.ref (cl c)) none σ H') → t σ H Q
section
variable {K : PySem.W.Frag} {tw own oL sl vs : List Nat} {W : WX} {cl : Nat → Addr} {C : Addr}
def dstK : List (D × D) → Bool
  | [] => true
  | (k, _) :: r => (valD r k).isNone && dstK r
theorem FlK.dst {G : Hp} : ∀ {kvs : List (Key × V)} {ds : List (D × D)} {os : Os}, FlK K G kvs ds os → dstK ds = true → (kvs.map (·.1)).Nodup
  | _, _, _, .nil, _ => List.nodup_nil
  | _, _, _, .cons (k := k) (kvs := kvs) (ds := ds) h t, e => by
    simp only [dstK, Bool.and_eq_true] at e
    rw [List.map_cons, List.nodup_cons]
    refine ⟨fun z => ?_, FlK.dst t e.2⟩
    have hn : valV kvs k = Option.none := t.none (by simpa using e.1)
    obtain ⟨kv, h1, h2⟩ := List.mem_map.mp z
    unfold valV at hn
    rw [Option.map_eq_none_iff, List.find?_eq_none] at hn
    exact hn kv h1 (by simpa using h2)
theorem mergeK_nd : ∀ (kvs acc : List (Key × V)), ((acc ++ kvs).map (·.1)).Nodup → mergeK acc kvs = acc ++ kvs
  | [], acc, _ => by simp [mergeK]
  | kv :: kvs, acc, h => by
    have hp : putK acc kv.1 kv.2 = acc ++ [kv] := by
      unfold putK
      rw [if_neg]
      intro z
      obtain ⟨kv', h1, h2⟩ := List.any_eq_true.mp z
      rw [List.map_append, List.nodup_append] at h
      exact h.2.2 kv'.1 (List.mem_map.mpr ⟨kv', h1, rfl⟩) kv.1 (by simp) (by simpa using h2)
    show mergeK (putK acc kv.1 kv.2) kvs = _
    rw [hp, mergeK_nd kvs (acc ++ [kv]) (by simpa using h)]
    simp
theorem FlK.append {G : Hp} : ∀ {a b : List (Key × V)} {da db : List (D × D)} {oa ob : Os}, FlK K G a da oa → FlK K G b db ob → FlK K G (a ++ b) (da ++ db) (oa ++ ob)
  | _, _, _, _, _, _, .nil, h => h
  | _, _, _, _, _, _, .cons h t, h2 => by
    rw [List.append_assoc]
    exact .cons h (FlK.append t h2)
def pairsL (b : D → Env → Option Env) (fk' fn : Env → R D) : List D → Env → R (List (D × D))
  | [], _ => .ok []
  | d :: ds, e => (lift (b d e)).bind fun e1 => (fk' e1).ne.bind fun k => (lift (keyOf k)).bind fun ky => (fn e1).ne.bind fun x => if newOk "told" x = true then (pairsL b fk' fn ds e).bind fun r => .ok ((kD ky, x) :: r) else .bad
def compPairs (fi : Env → R (List D × Env)) (vs : List Nat) (b : D → Env → Option Env) (fk' fn : Env → R D) : Env → R (D × Env) := fun e =>
  (fi e).bind fun x => if x.1.length ≤ 1000000 then (pairsL b fk' fn x.1 (wipeE x.2 vs)).ne.bind fun r => if dstK r = true then .ok (.dict r, x.2) else .bad else .bad
theorem Paired.snocP {α β : Type} {F : α → β → Prop} : ∀ {l₁ : List α} {l₂ : List β} {a : α} {b : β}, Paired F l₁ l₂ → F a b → Paired F (l₁ ++ [a]) (l₂ ++ [b])
  | _, _, _, _, .nil, h => .cons h .nil
  | _, _, _, _, .cons r t, h => .cons r (Paired.snocP t h)
theorem yes_of {σ : L2.St} {H : Hp} {A B : Hp → Prop} (h : A H) : tYes σ H fun b H3 => if b = true then A H3 else B H3 := h
theorem ans_ne2 {α β : Type} {r : R α} {k : α → R β} {f : β → Prop} {e : Nat → Prop} (h : Ans (r.ne.bind k) f e) : ∃ a, r = .ok a ∧ Ans (k a) f e := by
  cases r with
  | ok a => exact ⟨a, rfl, h⟩
  | err c => exact h.elim
  | bad => exact h.elim
theorem EvFd.pairs {wi : TI} {g : TG} {tk tn : TE} {fi : Env → R (List D × Env)} {b : D → Env → Option Env} {fk' fn : Env → R D} (hi : EvIt K tw own W cl wi fi) (hg : EvG K own sl g b) (hk : QI K own WF cl tk fk') (hn : QN K own WF cl tn fn)
    (hsl : ∀ i ∈ sl, i ∈ vs) (hv : ∀ i ∈ vs, i ∉ own) : EvFd K tw own W cl 2 (tCB (rDictP K) (tCons (tLc wi g tYes (tTupP (tCons tk (tCons tn tNil))) vs) tNil)) (compPairs fi vs b fk' fn) := fun H0 P G env σ H Q hp ok ans => by
  refine hi H0 P G env σ H _ hp ok (ans.bind.mono (fun a ha G1 H1 J g1 ok1 its => ?_) fun _ h => h)
  by_cases hlen' : ¬ a.1.length ≤ 1000000
  · rw [if_neg hlen'] at ha
    exact ha.elim
  have hlen : a.1.length ≤ 1000000 := Decidable.not_not.mp hlen'
  rw [if_pos hlen] at ha
  obtain ⟨res, hres, ha⟩ := ans_ne2 ha
  by_cases hds : dstK res = true
  · rw [if_pos hds] at ha
    intro Dl hD
    have gD : G1 Dl = none := ok1.sub.free hD
    have okw := ok1.wipe (vs := vs) hv
    refine ⟨fun i m H' => m = a.1.length - i ∧ i ≤ a.1.length ∧ ∃ G' Ts kvs ds rest os, Grow G1 H1 G' H' ∧ H' Dl = some (.lst (Ts.map V.ref)) ∧ G' Dl = none ∧ Paired (fun T kv => SqT K G' T [kV kv.1, kv.2]) Ts kvs ∧ FlK K G' kvs ds os ∧ Held G' H' os ∧ (∀ x ∈ dm os, H1 x = none ∧ x ≠ Dl) ∧ Ts.length ≤ i ∧
        pairsL b fk' fn (a.1.drop i) (wipeE a.2 vs) = .ok rest ∧ res = ds ++ rest,
      ⟨_, rfl, Nat.zero_le _, G1, [], [], [], res, [], Grow.drop ok1.sub hD, upd_same, gD, .nil, .nil, ⟨(fun x o m => by cases m), List.nodup_nil⟩, (fun x m => by cases m), Nat.le_refl _, by rw [List.drop_zero]; exact hres, rfl⟩, ?_⟩
    rintro i m H2 ⟨rfl, hle, G2, Ts, kvs, ds, rest, os, gw, hDl, gD2, pp, fk2, hh, hfr, hTs, hrest, hcat⟩
    obtain ⟨hgo, hstop⟩ := its i G2 H2 gw.gg gw.gh
    cases hd : a.1[i]? with
    | none =>
      have z : a.1.drop i = [] := List.drop_eq_nil_of_le (List.getElem?_eq_none_iff.mp hd)
      rw [z] at hrest
      cases hrest
      rw [List.append_nil] at hcat
      subst hcat
      refine .inl ⟨hstop hd, Dl, Ts, kvs, rfl, SqL.of hDl, Paired.mapP pp fun T kv h => Same.sqT gw.gh h, fun p np => ?_⟩
      have hm : mergeK [] kvs = kvs := by
        have := mergeK_nd kvs [] (by simpa using fk2.dst hds)
        simpa using this
      rw [hm]
      have hp1 : H1 p = none := gw.hh.free np
      have gp2 : G2 p = none := gw.gh.free np
      refine ha G1 H1 G2 _ (.ref p) ((p, .dK kvs) :: os) g1 ok1 ⟨gw.gg, fun x o hx => ?_, fun x o hx => ?_, gw.new⟩ (fun x hx => ?_) (.dl fk2) ⟨fun x o hx => ?_, ?_⟩
      · rw [upd_ne (ne_of_none hx gp2)]
        exact gw.gh x o hx
      · rw [upd_ne (ne_of_none hx hp1)]
        exact gw.hh x o hx
      · rcases List.mem_cons.mp hx with y | y
        · rw [y]; exact hp1
        · exact (hfr x y).1
      · rcases List.mem_cons.mp hx with y | y
        · cases y
          exact ⟨upd_same, gp2, fun xs w => by cases w⟩
        · obtain ⟨h1, h2, h3⟩ := hh.at_ x o y
          exact ⟨by rw [upd_ne (ne_of_none h1 np)]; exact h1, h2, h3⟩
      · show (p :: dm os).Nodup
        rw [List.nodup_cons]
        refine ⟨fun y => ?_, hh.nd⟩
        obtain ⟨o, h1, _⟩ := hh.there y
        rw [np] at h1
        cases h1
    | some d =>
      have hlt := lt_of_get hd
      have z : a.1.drop i = d :: a.1.drop (i + 1) := by
        rw [List.drop_eq_getElem_cons hlt]
        congr 1
        exact Option.some.inj ((List.getElem?_eq_getElem hlt).symm.trans hd)
      rw [z] at hrest
      obtain ⟨go, yl⟩ := hgo d hd
      -- what the element is worth
      have hr2 : (lift (b d (wipeE a.2 vs))).bind (fun e1 => (fk' e1).ne.bind fun k => (lift (keyOf k)).bind fun ky => (fn e1).ne.bind fun x => if newOk "told" x = true then (pairsL b fk' fn (a.1.drop (i + 1)) (wipeE a.2 vs)).bind fun r => .ok ((kD ky, x) :: r) else .bad) = .ok rest := hrest
      have hr3 : Ans ((lift (b d (wipeE a.2 vs))).bind (fun e1 => (fk' e1).ne.bind fun k => (lift (keyOf k)).bind fun ky => (fn e1).ne.bind fun x => if newOk "told" x = true then (pairsL b fk' fn (a.1.drop (i + 1)) (wipeE a.2 vs)).bind fun r => .ok ((kD ky, x) :: r) else .bad)) (fun r => r = rest) (fun _ => False) := by
        rw [hr2]
        rfl
      obtain ⟨e1, eb, hr4⟩ := ans_lift hr3
      obtain ⟨kd, ekd, hr5⟩ := ans_ne2 hr4
      obtain ⟨ky, eky, hr6⟩ := ans_lift hr5
      obtain ⟨xd, exd, hr7⟩ := ans_ne2 hr6
      by_cases hnk : newOk "told" xd = true
      · rw [if_pos hnk] at hr7
        have hr8 := hr7.bind
        obtain ⟨rest', hrest', hr9⟩ : ∃ rest', pairsL b fk' fn (a.1.drop (i + 1)) (wipeE a.2 vs) = .ok rest' ∧ (kD ky, xd) :: rest' = rest := by
          cases hq : pairsL b fk' fn (a.1.drop (i + 1)) (wipeE a.2 vs) with
          | ok r => rw [hq] at hr8; exact ⟨r, rfl, hr8⟩
          | err c => rw [hq] at hr8; exact hr8.elim
          | bad => rw [hq] at hr8; exact hr8.elim
        refine .inr ⟨go, fun H' => i + 1 ≤ a.1.length ∧ ∃ G' Ts kvs ds rest os, Grow G1 H1 G' H' ∧ H' Dl = some (.lst (Ts.map V.ref)) ∧ G' Dl = none ∧ Paired (fun T kv => SqT K G' T [kV kv.1, kv.2]) Ts kvs ∧ FlK K G' kvs ds os ∧ Held G' H' os ∧ (∀ x ∈ dm os, H1 x = none ∧ x ≠ Dl) ∧ Ts.length ≤ i + 1 ∧
            pairsL b fk' fn (a.1.drop (i + 1)) (wipeE a.2 vs) = .ok rest ∧ res = ds ++ rest,
          fun H' ⟨h1, h3⟩ => ⟨a.1.length - (i + 1), by omega, rfl, h1, h3⟩, fun x H3 y => ?_⟩
        obtain ⟨G3, gg3, rx⟩ := yl x H3 y
        have gw3 := gw.trans gg3
        have ok3 := okw.grow gw3
        refine hg _ P G3 _ (wipe σ vs) H3 x d e1 _ ok3 rx eb fun σ4 ok4 l4 s4 => ?_
        have w4 : wipe σ4 vs = wipe σ vs := by
          rw [← wipe_wipe σ vs]
          exact wipe_eq l4 fun j hj => s4 j fun q => hj (hsl j q)
        refine ⟨w4, ?_⟩
        refine yes_of ?_
        refine hk _ P G3 e1 σ4 H3 _ ok4 ?_
        rw [ekd]
        intro G4 H4 vk gg4 rk
        have ok5 := ok4.grow gg4
        refine hn _ P G4 e1 σ4 H4 _ ok5 ?_
        rw [exd]
        intro G5 H5 pn on gg5 hfn cn hhn
        refine ⟨sz100 (by simp), fun T ob nT hdT => ?_⟩
        have hky := keyOf_some eky
        subst hky
        have ek := rk.key
        subst ek
        have gw4 := (gw3.trans gg4).trans gg5
        have gg6 : Grow G5 H5 (upd G5 T (tupO ob [kV ky, .ref pn])) (upd H5 T (tupO ob [kV ky, .ref pn])) := Grow.lay gg5.gh nT
        have gw6 := gw4.trans gg6
        have sm25 : Same H2 (upd H5 T (tupO ob [kV ky, .ref pn])) := ((gg3.hh.trans gg4.hh).trans gg5.hh).trans gg6.hh
        have gD6 : (upd G5 T (tupO ob [kV ky, .ref pn])) Dl = none := by
          rw [((gg3.trans gg4).trans (gg5.trans gg6)).new Dl _ hDl fun xs w => by cases w]
          exact gD2
        have hDl6 := sm25 _ _ hDl
        have nT2 : ∀ y, y ∈ dm on → y ≠ T := fun y hy w => by
          obtain ⟨o, h1, _⟩ := hhn.there hy
          rw [w, nT] at h1
          cases h1
        refine ⟨Ts.map V.ref, hDl6, sz100l (by rw [List.length_map]; omega), hlt, upd G5 T (tupO ob [kV ky, .ref pn]), Ts ++ [T], kvs ++ [(ky, .ref pn)], ds ++ [(kD ky, xd)], rest', os ++ on, ⟨gw6.gg, fun x o hx => ?_, fun x o hx => ?_, gw6.new⟩, by rw [upd_same, List.map_append]; rfl, gD6, ?_, ?_, ⟨fun x o hx => ?_, ?_⟩, fun x hx => ?_, by rw [List.length_append]; simpa using hTs, hrest', by rw [List.append_assoc, hcat, ← hr9]; rfl⟩
        · rw [upd_ne (ne_of_none hx gD6)]
          exact gw6.gh x o hx
        · rw [upd_ne (ne_of_none hx hD)]
          exact gw6.hh x o hx
        · exact Paired.snocP (Paired.mapP pp fun T' kv h => Same.sqT (((gg3.gg.trans gg4.gg).trans gg5.gg).trans gg6.gg) h) (tupO_sq upd_same)
        · exact (fk2.mono (((gg3.gg.trans gg4.gg).trans gg5.gg).trans gg6.gg)).snoc ((cn.mono gg6.gg).f1 hnk)
        · rcases List.mem_append.mp hx with y | y
          · obtain ⟨h1, h2, h3⟩ := hh.at_ x o y
            have xd' : x ≠ Dl := (hfr x (dm_mem.mpr ⟨o, y⟩)).2
            refine ⟨by rw [upd_ne xd']; exact sm25 _ _ h1, ?_, h3⟩
            rw [((gg3.trans gg4).trans (gg5.trans gg6)).new x _ h1 h3]
            exact h2
          · obtain ⟨h1, h2, h3⟩ := hhn.at_ x o y
            have hx4 : H4 x = none := hfn x (dm_mem.mpr ⟨o, y⟩)
            have xd' : x ≠ Dl := fun w => by
              have := (gg3.hh.trans gg4.hh) _ _ hDl
              rw [← w, hx4] at this
              cases this
            have xT : x ≠ T := nT2 x (dm_mem.mpr ⟨o, y⟩)
            exact ⟨by rw [upd_ne xd', upd_ne xT]; exact h1, by rw [upd_ne xT]; exact h2, h3⟩
        · rw [dm_append, List.nodup_append]
          refine ⟨hh.nd, hhn.nd, fun x hx y hy w => ?_⟩
          obtain ⟨o, h1, _⟩ := hh.there hx
          have := (gg3.hh.trans gg4.hh) _ _ h1
          rw [w, hfn y hy] at this
          cases this
        · rw [dm_append] at hx
          rcases List.mem_append.mp hx with y | y
          · exact hfr x y
          · have hx4 : H4 x = none := hfn x y
            refine ⟨((gw3.trans gg4).hh).free hx4, fun w => ?_⟩
            have := (gg3.hh.trans gg4.hh) _ _ hDl
            rw [← w, hx4] at this
            cases this
      · rw [if_neg hnk] at hr7
        exact hr7.elim
  · rw [if_neg hds] at ha
    exact ha.elim
end
section
variable {X : Cx} {tw own oL sl : List Nat} {W : WX} {cl : Nat → Addr} {C : Addr} {value : Expr} {f : Str} {pos pos' q p cpos tpos : Pos} {te : TE} {fe : Env → R (D × Env)}
end
end Hz

/-! a pair of which the first is a new list of ours; attributes as targets -/
namespace Hz
open PySem PySem.Spec PyProof.Rows L2 L2H

/-! ### self.f of an owned self, a value -/
def fldO (i : Nat) (f : Str) : Env → R D := fun e => lift (fldAt e i f)
section
variable {K : PySem.W.Frag} {tw own oL : List Nat} {W : WX} {cl : Nat → Addr} {C : Addr}
theorem QI.fldO {i : Nat} {f : Str} (pf : PoF K C) (hf : f ∈ flds) (hk : fk f = 0) (hi : i ∈ own) : QI K own W cl (tFld K (tVar i) f) (Hz.fldO i f) := fun H0 P G env σ H Q ok ans => by
  have ans' : Ans ((lift (fldAt env i f)).bind .ok) (fun d => ∀ G' H' v, Grow G H G' H' → Rp K G' v d → Q v H') (fun c => ∀ H', Same H H' → W (.ref (cl c)) none σ H') := by
    unfold Hz.fldO at ans
    cases hg : fldAt env i f with
    | none => rw [hg] at ans; exact ans.elim
    | some d => rw [hg] at ans; exact ans
  obtain ⟨d, hd, q⟩ := ans_lift ans'
  refine ok.fldA pf hf hi hd fun v o1 a b => ?_
  rw [hk] at a
  cases a with
  | fz r => exact q G H v (Grow.refl ok.sub) r
/-! ### a tuple of a list of ours and a value -/
def spF (K : PySem.W.Frag) (cl : Nat → Addr) (n : Nat) (F : List D → R (D × D)) : Sp := fun vs H Q E => ∃ G ds, Same G H ∧ RpA K G vs ds ∧ ds.length = n ∧
  Ans (F ds) (fun d => ∀ G' H' T p v os, Grow G H G' H' → (∀ a ∈ dm os, H a = none) → CellO K G' p d.1 os → Held G' H' os → SqT K G' T [.ref p, v] → Rp K G' v d.2 → Q (.ref T) H') (fun c => ∀ H', Same H H' → E (.ref (cl c)) none H')
theorem spF.len {n : Nat} {F : List D → R (D × D)} (vs : List V) (H : Hp) (Q : VK) (E : XK) (h : spF K cl n F vs H Q E) : vs.length = n := by
  obtain ⟨G, ds, _, r, e, _⟩ := h
  rw [r.length]
  exact e
def EvR2 (K : PySem.W.Frag) (tw own : List Nat) (i : Nat) (W : WX) (cl : Nat → Addr) (t : TS) (f : Env → R (D × Env)) : Prop :=
  ∀ (H0 : Hp) (P : Par) (G : Hp) (env : Env) (σ : L2.St) (H : Hp) (E : Ends), P.1.map (·.1) = tw → StOk K H0 P own G env σ H →
    Ans (f env) (fun a => ∀ G' σ' H' p own' T v, Gr H0 G G' → StOk K H0 P own' G' a.2 σ' H' → i ∈ own' → σ'[i]? = some (some (.ref p)) → SqT K G' T [.ref p, v] → Rp K G' v a.1 → E.rt (.ref T) H')
      (fun c => ∀ σ' H', σ'.length = P.2 → Frm H0 P H' → W (.ref (cl c)) none σ' H') → t E σ H
def seqR (f : Env → R (Fl × Env)) (g : Env → R (D × Env)) : Env → R (D × Env) := fun e => (f e).bind fun r => match r.1 with
  | .nx => g r.2
  | _ => .bad
theorem EvR2.ret {i : Nat} {te : TE} {fe : Env → R (D × Env)} (hi : i ∈ own) (h : EvI K tw own W cl te fe) : EvR2 K tw own i W cl (tRet (tTupP (tCons (tVar i) (tCons te tNil)))) fe := fun H0 P G env σ H E hp ok ans => by
  obtain ⟨p, e1⟩ := ok.adr hi
  refine ⟨.ref p, e1, h H0 P G env σ H _ hp ok (ans.mono (fun a ha G1 H1 x g1 ok1 rx => ?_) fun c h H' fr => h σ H' ok.ln fr)⟩
  refine ⟨sz100 (by simp), fun T ob nT hd => ?_⟩
  have gg : Grow G1 H1 (upd G1 T (tupO ob [.ref p, x])) (upd H1 T (tupO ob [.ref p, x])) := Grow.lay ok1.sub nT
  exact ha _ σ _ p own T x (g1.trans (gg.gr ok1)) (ok1.grow gg) hi e1 (tupO_sq upd_same) (rx.mono gg.gg)
theorem EvR2.seq {i : Nat} {oM : List Nat} {t u : TS} {f : Env → R (Fl × Env)} {g : Env → R (D × Env)} (h : EvS K tw own oM [] W cl t f) (h2 : EvR2 K tw oM i W cl u g) : EvR2 K tw own i W cl (tSeq t u) (seqR f g) := fun H0 P G env σ H E hp ok ans => by
  refine h.run hp ok (ans.bind.mono (fun r hr => ?_) fun c h => h)
  obtain ⟨fl, e⟩ := r
  cases fl with
  | nx =>
    intro G' σ' H' g' ok'
    refine h2 H0 P G' e σ' H' E hp ok' (Ans.mono hr (fun a ha G2 σ2 H2 p own' T v g2 => ha G2 σ2 H2 p own' T v (g'.trans g2)) fun c h => h)
  | rt d => exact False.elim hr
  | bk => exact False.elim hr
  | ct => exact False.elim hr
def finF (i : Nat) (r : R (D × Env)) : R (D × D) := r.bind fun a => match a.2[i]? with
  | some (some x) => .ok (x, a.1)
  | _ => .bad
end
section
variable {P : Program} {w : World} {K : PySem.W.Frag} {mg : Str → Option Value} {base : Heap} {cl : Nat → Addr}
end
/-! ### an attribute as a target -/
section
variable {X : Cx} {tw own oL : List Nat} {W : WX} {cl : Nat → Addr} {C : Addr} {o e : Expr} {es : List Expr} {f : Str} {pos pos' q p cpos tpos apos : Pos} {te ta : TE} {tA : TA} {fA : Env → R (List D × Env)}
def pairFS (j i : Nat) (f : Str) (F : List D → R (D × D)) (a : Env → R (List D × Env)) : Env → R (Fl × Env) := fun e => (a e).bind fun y => (F y.1).bind fun d => if j < y.2.length then (lift (insAt (y.2.set j (some d.1)) i)).bind fun ds => if ds.length < 1000 then .ok (.nx, (y.2.set j (some d.1)).set i (some (insD (setD f d.2 ds)))) else .bad else .bad
theorem dq_fldO (i : Nat) {x : Str} (pf : PoF X.K C) (hi : i ∈ own) (hx : PE X (.Name x q) (tVar i)) (hf : f ∈ flds := by decide +kernel) (hk : fk f = 0 := by decide +kernel) (hb : attributeBase (.Name x q) f X.env (eval (.Name x q) X.env) = eval (.Name x q) X.env := by rfl) : DQ X own W cl (.Attribute (.Name x q) f pos) (tFld X.K (tVar i) f) (fldO i f) := ⟨pe_fld hx hb, QI.fldO pf hf hk hi⟩
end
end Hz

/-! a walk over a list of ours whose elements hold frozen lists; a list of ours by another name -/
namespace Hz
open PySem PySem.Spec PyProof.Rows L2 L2H

def okHd : D → Bool
  | .tuple [.int _, .list ws] => ws.all isSD
  | _ => false
section
variable {K : PySem.W.Frag} {tw own oL sl vs : List Nat} {W : WX} {cl : Nat → Addr} {C : Addr}
theorem RpA.strsOf {G G' : Hp} : ∀ {xs : List V} {ds : List D}, RpA K G xs ds → ds.all isSD = true → RpA K G' xs ds
  | _, _, .nil, _ => .nil
  | _, _, .cons h t, e => by
    rw [List.all_cons, Bool.and_eq_true] at e
    refine .cons ?_ (RpA.strsOf t e.2)
    cases h <;> first | (exact .str _) | (simp [isSD] at e)
theorem Rp.del1 {G : Hp} {pg : Addr} {gs : List V} {v : V} {d : D} (hg : G pg = some (.lst gs)) (hn : ∀ ws : List D, ws.all isSD = true → ¬ RpA K G gs ws) (r : Rp K G v d) (e : okHd d = true) : Rp K (del G pg) v d := by
  unfold okHd at e
  split at e
  · rename_i i ws
    cases r with
    | @tup a xs ds h ra n =>
      have ha : SqT K (del G pg) a xs := by
        rcases h with (h | ⟨o, h⟩) | h
        · exact .inl (.inl (by rw [del_ne fun z => by rw [z, hg] at h; cases h]; exact h))
        · exact .inl (.inr ⟨o, by rw [del_ne fun z => by rw [z, hg] at h; cases h]; exact h⟩)
        · exact .inr h
      refine .tup ha ?_ ⟨fun z => by simp [needN] at z, fun z => by simp [isPr] at z⟩
      cases ra with
      | cons r1 ra =>
        cases r1
        cases ra with
        | cons r2 ra =>
          cases ra
          cases r2 with
          | @lst b ys ds h2 rb =>
            have hb : b ≠ pg := fun z => by
              subst z
              rw [hg] at h2
              cases h2
              exact hn ws e rb
            exact .cons (.int _) (.cons (.lst (by rw [del_ne hb]; exact h2) (rb.strsOf e)) .nil)
  · cases e
theorem RpA.del1 {G : Hp} {pg : Addr} {gs : List V} (hg : G pg = some (.lst gs)) (hn : ∀ ws : List D, ws.all isSD = true → ¬ RpA K G gs ws) : ∀ {vs : List V} {ds : List D}, RpA K G vs ds → ds.all okHd = true → RpA K (del G pg) vs ds
  | _, _, .nil, _ => .nil
  | _, _, .cons h t, e => by
    rw [List.all_cons, Bool.and_eq_true] at e
    exact .cons (h.del1 hg hn e.1) (RpA.del1 hg hn t e.2)
theorem okHd_not {G : Hp} {xs : List V} {ds : List D} (r : RpA K G xs ds) (h : ds.all okHd = true) (hne : ds ≠ []) {G' : Hp} : ∀ ws : List D, ws.all isSD = true → ¬ RpA K G' xs ws := fun ws hw r2 => by
  cases r with
  | nil => exact hne rfl
  | @cons v vs d ds r1 ra =>
    cases r2 with
    | @cons _ _ w ws r3 rb =>
      rw [List.all_cons, Bool.and_eq_true] at h hw
      have h1 := h.1
      unfold okHd at h1
      split at h1
      · cases r1
        cases r3 <;> simp [isSD] at hw
      · cases h1
def heardC (i : Nat) (f : Str) (own : List Nat) (k : Env → R D) (vs : List Nat) (b : D → Env → Option Env) (el : Env → R (D × Env)) : Env → R (D × Env) := fun e => (lift (fldT e i f)).bind fun es => (k e).bind fun y => (lift (keyOf y)).bind fun ky => match valD es (kD ky) with
  | some (.list xs) => if xs.length ≤ 1000000 ∧ xs.all okHd = true then (compL vs b yesT el xs (wipeE (wipeE e own) vs)).ne.bind fun r => if r.1.all okHd = true then .ok (.list r.1, e) else .bad else .bad
  | _ => .bad
theorem EvN.heard {i : Nat} {f : Str} {g : TG} {tk te : TE} {fk' : Env → R D} {b : D → Env → Option Env} {el : Env → R (D × Env)} (pf : PoF K C) (hf : f ∈ flds) (hk2 : fk f = 2) (hi : i ∈ own) (hk : QI K own W cl tk fk') (hg : EvG K [] sl g b) (he : EvI K [] [] WF cl te el) (hsl : ∀ i ∈ sl, i ∈ vs) :
    EvN K tw own W cl (tLc (iList K (tDGet (tFld K (tVar i) f) tk)) g tYes te vs) (heardC i f own fk' vs b el) := fun H0 P G env σ H Q hp ok ans => by
  obtain ⟨es, hd, ans⟩ := ans_lift ans
  obtain ⟨p, dx, fs, v, o1, a1, a2, a3, a4, a5, a6⟩ := ok.fldC pf hi (fldT_eq hd)
  refine ⟨.ref p, a1, p, C, dx, fs, v, rfl, a2, pf.cl, pf.no f hf, a3, ?_⟩
  refine hk H0 P G env σ H _ ok (ans.bind.mono (fun y hy G1 H1 vy g1 ry => ?_) fun c h H' sm => h H' (ok.frm sm))
  obtain ⟨ky, hky, hz⟩ := ans_lift hy
  clear hy
  have ek := keyOf_some hky
  subst ek
  have ey := ry.key
  subst ey
  obtain ⟨o2, b4, b5, b6⟩ := ok.fldQ pf hi (fldT_eq hd) g1 a1 a2 a3
  obtain ⟨pd, kvs, o0, rfl, rfl, r0⟩ := b4.dlI hk2
  have hH0 := (b5.at_ _ _ List.mem_cons_self).1
  cases hv : valD es (kD ky) with
  | none => rw [hv] at hz; exact hz.elim
  | some dl =>
    rw [hv] at hz
    cases dl with
    | list xs =>
      obtain ⟨vl, c0, c1, c2, h1, rfl, h2, h3⟩ := r0.at hv
      obtain ⟨pl, ls, rfl, rfl, rl⟩ := h2.lstI
      have hh2 : Held G1 H1 (((pd, .dK kvs) :: c0) ++ ([(pl, .lst ls)] ++ c2)) := b5
      obtain ⟨hpl, gpl, _⟩ := hh2.sub.at_ pl _ (List.mem_singleton.mpr rfl)
      refine ⟨pd, .ref pl, rfl, h1 ▸ DGet.k hH0, pl, rfl, ⟨ls, SqL.of hpl⟩, ?_⟩
      dsimp only at hz
      by_cases hl : xs.length ≤ 1000000 ∧ xs.all okHd = true
      · rw [if_pos hl] at hz
        have ok1 := ok.grow g1
        have okh := ok1.hide
        have gg1 : Same G1 (upd G1 pl (.lst ls)) := Same.new gpl
        have okh1 : StOk K H1 ([], P.2) [] (upd G1 pl (.lst ls)) (wipeE env own) σ H1 := by
          refine ⟨fun a o ha => ?_, okh.fr, okh.dom, okh.len, fun j d hj hn => ?_, ⟨fun _ => [], fun i z => absurd z List.not_mem_nil, fun i z => absurd z List.not_mem_nil⟩, okh.par, fun x ⟨q, z, _⟩ => absurd z List.not_mem_nil, okh.ln⟩
          · by_cases z : a = pl
            · subst z
              rw [upd_same] at ha
              exact hpl.trans ha
            · rw [upd_ne z] at ha
              exact okh.sub a o ha
          · obtain ⟨w, e1, r⟩ := okh.val j d hj hn
            exact ⟨w, e1, r.mono gg1⟩
        have ht : EvT K [] [] WF cl tYes yesT := fun H0 P G env σ H Q hp ok ans => ans G H Gr.refl ok
        refine comp_core (K := K) (tw := []) (own := []) (a := (xs, wipeE env own)) (er := fun _ => False) hg ht he hsl (fun _ _ z => absurd z List.not_mem_nil) rfl okh1 (items_list upd_same (rl.mono gg1)) ?_
        rw [if_pos hl.1]
        have hz2 := ans_ne2 hz
        obtain ⟨rr, hrr, hz3⟩ := hz2
        have hrr' : compL vs b yesT el xs (wipeE (wipeE env own) vs) = .ok rr := hrr
        simp only [hrr', R.ne, bind_ok]
        by_cases hok : rr.1.all okHd = true
        · rw [if_pos hok] at hz3
          intro G2 H2 pn on gr2 ok2 np c2
          have sm : Same H1 H2 := ok2.fr.same
          have gpl2 : G2 pl = some (.lst ls) := gr2.1 _ _ upd_same
          have gw : Grow G1 H1 (del G2 pl) H2 := by
            refine ⟨fun a o ha => ?_, fun a o ha => ?_, sm, fun a o ha n => ?_⟩
            · have ne : a ≠ pl := fun z => by rw [z, gpl] at ha; cases ha
              rw [del_ne ne]
              exact gr2.1 a o (gg1 a o ha)
            · by_cases z : a = pl
              · rw [z, del_same] at ha
                cases ha
              · rw [del_ne z] at ha
                exact ok2.sub a o ha
            · by_cases z : a = pl
              · rw [z, del_same, gpl]
              · rw [del_ne z, gr2.2 a o ha n, upd_ne z]
          have gw0 := g1.trans gw
          have pnl : pn ≠ pl := fun z => by
            have := sm _ _ hpl
            rw [← z, np] at this
            cases this
          obtain ⟨cg, cc⟩ := c2
          have hcell : Cell K (del G2 pl) (upd H2 pn on) pn (.list rr.1) := by
            refine ⟨by rw [del_ne pnl]; exact cg, .inl ?_⟩
            rcases cc with ⟨ws, ds, e1, e2, r⟩ | ⟨ws, ds, e1, e2, r⟩ | ⟨ws, ds, e1, e2, r⟩
            · cases e1
              refine ⟨ws, _, rfl, e2, ?_⟩
              by_cases hxs : xs = []
              · subst hxs
                have : rr = ([], wipeE (wipeE env own) vs) := by
                  have h := hrr'
                  simp only [compL] at h
                  cases h
                  rfl
                rw [this] at r ⊢
                cases r
                exact .nil
              · exact r.del1 gpl2 (okHd_not rl hl.2 hxs) hok
            · cases e1
            · cases e1
          exact hz3 (del G2 pl) H2 pn on (gw0.gr ok) (ok.grow gw0) np hcell
        · rw [if_neg hok] at hz3
          exact hz3.elim
      · rw [if_neg hl] at hz
        exact hz.elim
    | _ => exact hz.elim
theorem StOk.rebase {H0 G H : Hp} {env : Env} {σ : L2.St} {n : Nat} (s : StOk K H0 ([], n) [] G env σ H) : StOk K H ([], n) [] G env σ H :=
  ⟨s.sub, fun a o h _ => h, fun a o h => ⟨o, h, id⟩, s.len, s.val, ⟨fun _ => [], fun i z => absurd z List.not_mem_nil, fun i z => absurd z List.not_mem_nil⟩, s.par, fun x ⟨q, z, _⟩ => absurd z List.not_mem_nil, s.ln⟩
theorem Gr.of {H H' G G' : Hp} (sm : Same H H') (g : Gr H' G G') : Gr H G G' := ⟨g.1, fun a o h n => g.2 a o (sm a o h) n⟩
theorem Grow.freeze {G H G' H' : Hp} {os : Os} (g : Grow G H G' H') (hf : ∀ x ∈ dm os, H x = none) (hh : Held G' H' os) : Grow G H (addO G' os) H' ∧ Same G' (addO G' os) := by
  have sm : Same G' (addO G' os) := fun x o hx => by
    rw [addO_out fun m => ?_]
    · exact hx
    · rw [(hh.there m).choose_spec.2.1] at hx
      cases hx
  refine ⟨⟨g.gg.trans sm, fun x o hx => ?_, g.hh, fun x o hx n => ?_⟩, sm⟩
  · by_cases m : x ∈ dm os
    · obtain ⟨u, hu⟩ := dm_mem.mp m
      rw [addO_in hh.nd hu] at hx
      cases hx
      exact (hh.at_ _ _ hu).1
    · rw [addO_out m] at hx
      exact g.gh x o hx
  · rw [addO_out fun m => (by rw [hf x m] at hx; cases hx)]
    exact g.new x o hx n
theorem tcons_of {te : TE} {tA : TA} {σ : L2.St} {H : Hp} {Q : List V → Hp → Prop} (h : te σ H fun x H1 => tA σ H1 fun xs H2 => Q (x :: xs) H2) : tCons te tA σ H Q := h
theorem ttup_of {tA : TA} {σ : L2.St} {H : Hp} {Q : VK} (h : tA σ H fun xs H1 => xs.length ≤ sizeLine ∧ ∀ p ob, H1 p = none → ob.dict = none → Q (.ref p) (upd H1 p (tupO ob xs))) : tTupP tA σ H Q := h
theorem tcall_of {sp : Sp} {E : L2.St → XK} {t : TA} {σ : L2.St} {H : Hp} {Q : VK} (h : t σ H fun vs H1 => sp vs H1 Q (E σ)) : tCallS sp E t σ H Q := h
theorem StOk.any {H0 : Hp} {P : Par} {G H : Hp} {env : Env} {σ : L2.St} {j : Nat} {v : V} (s : StOk K H0 P own G env σ H) (hj : j ∉ own) (he : env[j]? = some none) : StOk K H0 P own G env (σ.set j (some v)) H := by
  have ne : ∀ i ∈ own, j ≠ i := fun i hi z => hj (z ▸ hi)
  refine ⟨s.sub, s.fr, s.dom, by simpa using s.len, fun i d e n => ?_, ?_, fun q hq => ?_, s.isd, by simpa using s.ln⟩
  · obtain ⟨w, e1, r⟩ := s.val i d e n
    have z : j ≠ i := fun z => by rw [← z, he] at e; cases e
    exact ⟨w, by rw [List.getElem?_set_ne z]; exact e1, r⟩
  · obtain ⟨f, h1, h2⟩ := s.cel
    refine ⟨f, fun i hi => ?_, h2⟩
    obtain ⟨p, d, e1, e2, c⟩ := h1 i hi
    exact ⟨p, d, e1, by rw [List.getElem?_set_ne (ne i hi)]; exact e2, c⟩
  · obtain ⟨h1, h2⟩ := s.par q hq
    exact ⟨h1, by rw [List.getElem?_set_ne (ne _ h1)]; exact h2⟩
def noneAt (e : Env) (j : Nat) : Bool := match e[j]? with
  | some none => true
  | _ => false
theorem noneAt_eq {e : Env} {j : Nat} (h : noneAt e j = true) : e[j]? = some none := by
  unfold noneAt at h
  split at h
  · assumption
  · cases h
def hearS (fe : Env → R (D × Env)) (ft : Env → R (Bool × Env)) (fc : Env → R (D × Env)) (Fg : List D → R D) (fn : Env → R (D × Env)) : Env → R (Fl × Env) := fun e => (fe e).ne.bind fun x => if noneAt e 2 = true then
    (ft (e.set 2 (some x.1))).ne.bind fun b => if b.1 = true then
      (fc (e.set 2 (some x.1))).ne.bind fun c => if lightC c.1 = true then
        (lift (fldAt e 0 "here")).bind fun h => (lift (fldAt e 0 "book")).bind fun bk => (Fg [bk, c.1]).ne.bind fun ws =>
        (lift (fldT e 0 "got_there")).bind fun gs => match e[1]? with
          | some (some kd) => (lift (keyOf kd)).bind fun ky => match valD gs (kD ky) with
            | some (.list ys) => if ys.length < 1000000 then exprS fn (setAt e 0 "got_there" (.dict (setG (kD ky) (.list (ys ++ [.tuple [h, ws]])) gs))) else .bad
            | _ => .bad
          | _ => .bad
      else .bad
    else .ok (.nx, e)
  else .bad
theorem EvS.hear {te tc tn : TE} {tt : TT} {fe fc fn : Env → R (D × Env)} {ft : Env → R (Bool × Env)} {Fg : List D → R D} (pf : PoF K C) (h1 : EvI K [] [] WF cl te fe) (hq1 : ∀ env r, fe env = .ok r → r.2 = env) (ht : EvT K [] [] WF cl tt ft) (hqt : ∀ env r, ft env = .ok r → r.2 = env) (hc : EvNo K [] [] WF cl tc fc) (hn : EvI K [0] [0] WF cl tn fn) :
    EvS K [0] [0] [0] oL WF cl (tSeq (tAsg te (gName 2)) (tIfS tt (tSeq (tDrop (tBM K "list" rAppend (tDGet (tFld K (tVar 0) "got_there") (tVar 1)) (tCons (tTupP (tCons (tFld K (tVar 0) "here") (tCons (tCallS (spP K cl 2 Fg) (WE WF) (tCons (tFld K (tVar 0) "book") (tCons tc tNil))) tNil))) tNil))) (tDrop tn)) tNext)) (hearS fe ft fc Fg fn) := EvS.of fun H0 P G env σ H E hp ok ans => by
  obtain ⟨x, ex, ans⟩ := ans_ne2 ans
  by_cases he2' : noneAt env 2 = true
  · rw [if_pos he2'] at ans
    have he2 := noneAt_eq he2'
    obtain ⟨F, ft', okb⟩ := ok.borrow
    refine h1 H ([], P.2) _ env σ H _ rfl okb ?_
    rw [ex]
    intro Ga Ha v gra oka rv
    have exq := hq1 env x ex
    rw [exq] at oka
    -- both views
    have okb2 : StOk K H ([], P.2) [] Ga (env.set 2 (some x.1)) (σ.set 2 (some v)) Ha := oka.set rv List.not_mem_nil
    obtain ⟨g0, _⟩ := ft'.back ok.sub gra oka.sub oka.fr.same
    have okO : ∀ {G' H' : Hp}, Grow G H G' H' → StOk K H0 P [0] G' env (σ.set 2 (some v)) H' := fun {G' H'} g => (ok.grow g).any (by simp) he2
    obtain ⟨b, eb, ans⟩ := ans_ne2 ans
    show tIfS tt _ _ E (σ.set 2 (some v)) Ha
    refine ht H ([], P.2) Ga _ _ Ha _ rfl okb2 ?_
    rw [eb]
    intro Gb Hb grb okb3
    rw [hqt _ b eb] at okb3
    obtain ⟨bv, be⟩ := b
    have grb' : Gr H (onF F H G) Gb := gra.trans grb
    obtain ⟨gB, tpB⟩ := ft'.back ok.sub grb' okb3.sub okb3.fr.same
    cases bv with
    | false => exact ans _ _ Hb (gB.gr ok) (okO gB)
    | true =>
      dsimp only at ans
      rw [if_pos rfl] at ans
      obtain ⟨cc, ec, ans⟩ := ans_ne2 ans
      by_cases hlc : lightC cc.1 = true
      · rw [if_pos hlc] at ans
        obtain ⟨hd, ehd, ans⟩ := ans_lift ans
        obtain ⟨bk, ebk, ans⟩ := ans_lift ans
        obtain ⟨ws, ews, ans⟩ := ans_ne2 ans
        obtain ⟨gs, egs, ans⟩ := ans_lift ans
        cases hk1 : env[1]? with
        | none => rw [hk1] at ans; exact ans.elim
        | some ok1 =>
          cases ok1 with
          | none => rw [hk1] at ans; exact ans.elim
          | some kd =>
            rw [hk1] at ans
            dsimp only at ans
            obtain ⟨ky, eky, ans2⟩ := ans_lift ans
            clear ans
            cases hvv : valD gs (kD ky) with
            | none => rw [hvv] at ans2; exact ans2.elim
            | some dl =>
              rw [hvv] at ans2
              cases dl with
              | list ys =>
                dsimp only at ans2
                by_cases hly : ys.length < 1000000
                · rw [if_pos hly] at ans2
                  have okB := okO gB
                  have hs0 : 0 ∈ [0] := by simp
                  -- the list that is appended to
                  obtain ⟨p, dx, fs, vg, og, a1, a2, a3, a4, a5, a6⟩ := okB.fldC pf hs0 (fldT_eq egs)
                  obtain ⟨pd, kvs, o0, rfl, rfl, r0⟩ := a4.dlI (by decide +kernel)
                  have hpd := (a5.at_ _ _ List.mem_cons_self).1
                  obtain ⟨vl, c0, c1, c2, q1, rfl, q2, q3⟩ := r0.at hvv
                  obtain ⟨pl, ls, rfl, rfl, rl⟩ := q2.lstI
                  have hh2 : Held _ Hb (((pd, .dK kvs) :: c0) ++ ([(pl, .lst ls)] ++ c2)) := a5
                  have hpl := (hh2.sub.at_ pl _ (List.mem_singleton.mpr rfl)).1
                  obtain ⟨vk, ek1, rk⟩ := okB.val 1 kd hk1 (by simp)
                  have hky := keyOf_some eky
                  subst hky
                  have ekv := rk.key
                  subst ekv
                  refine ⟨.ref p, a1, p, C, dx, fs, _, rfl, a2, pf.cl, pf.no _ (by decide +kernel), a3, _, ek1, pd, .ref pl, rfl, q1 ▸ DGet.k hpd, .inl ⟨rfl, ls, SqL.of hpl⟩, ?_⟩
                  -- self.here
                  refine tcons_of (ttup_of (tcons_of ?_))
                  refine okB.fldA pf (by decide +kernel) hs0 ehd fun vh oh ah bh => ?_
                  cases (show fk "here" = 0 by decide +kernel) ▸ ah with
                  | fz rh =>
                  refine tcons_of (tcall_of (tcons_of ?_))
                  refine okB.fldA pf (by decide +kernel) hs0 ebk fun vb ob ab bb => ?_
                  cases (show fk "book" = 0 by decide +kernel) ▸ ab with
                  | fz rb =>
                  -- G(x)
                  refine tcons_of ?_
                  refine hc Hb ([], P.2) Gb _ _ Hb _ rfl okb3.rebase ?_
                  rw [ec]
                  intro Gc Hc Gd Hd pc oc grc okc gwc hfc cl2 hdc
                  have smBc : Same Hb Hc := okc.fr.same
                  have smBD : Same Hb Hd := smBc.trans gwc.hh
                  have grBD : Gr Hb Gb Gd := grc.trans (gwc.gr okc)
                  have grd : Gr H (onF F H G) Gd := grb'.trans (grBD.of okb3.fr.same)
                  obtain ⟨gD, tpD⟩ := ft'.back ok.sub grd gwc.gh (okb3.fr.same.trans smBD)
                  have clD := cl2.light tpD hlc
                  have hdD : Held (onF F (fun _ => none) Gd) Hd oc := hdc.mono (fun y m => by
                    by_cases z : F y
                    · rw [onF_in z]
                    · rw [onF_out z]
                      exact (hdc.there m).choose_spec.2.1) fun y o m => (hdc.at_ y o m).1
                  have gBD : Grow (onF F (fun _ => none) Gb) Hb (onF F (fun _ => none) Gd) Hd := by
                    refine ⟨fun y o hy => ?_, gD.gh, smBD, fun y o hy n => ?_⟩
                    · by_cases z : F y
                      · rw [onF_in z] at hy
                        cases hy
                      · rw [onF_out z] at hy ⊢
                        exact grBD.1 y o hy
                    · by_cases z : F y
                      · rw [onF_in z, onF_in z]
                      · rw [onF_out z, onF_out z]
                        exact grBD.2 y o hy n
                  obtain ⟨gBF, smF⟩ := gBD.freeze (fun y hy => smBc.free (hfc y hy)) hdD
                  -- F(..)
                  refine ⟨addO (onF F (fun _ => none) Gd) oc, [bk, cc.1], gBF.gh, .cons (rb.mono gBF.gg) (.cons (clD.rp smF fun y o m => addO_in hdD.nd m) .nil), rfl, ?_⟩
                  rw [ews]
                  intro Ge He vw gE rw'
                  have gBE := gBF.trans gE
                  refine ⟨sz100 (by simp), fun T ob nT hdT => ?_⟩
                  have gT : Grow Ge He (upd Ge T (tupO ob [vh, vw])) (upd He T (tupO ob [vh, vw])) := Grow.lay gE.gh nT
                  have gBT := gBE.trans gT
                  have rT : Rp K (upd Ge T (tupO ob [vh, vw])) (.ref T) (.tuple [hd, ws]) := Rp.lay upd_same hdT (.cons (rh.mono gBT.gg) (.cons (rw'.mono gT.gg) .nil))
                  obtain ⟨o3, d4, d5, d6⟩ := okB.fldQ pf hs0 (fldT_eq egs) gBT a1 a2 a3
                  obtain ⟨pd', kvs', o0', e1, rfl, r0'⟩ := d4.dlI (by decide +kernel)
                  cases e1
                  have hH2 := (d5.at_ _ _ List.mem_cons_self).1
                  rw [gBT.hh _ _ hpd] at hH2
                  cases hH2
                  obtain ⟨vl', c0', c1', c2', h1', rfl, h2', h3'⟩ := r0'.at hvv
                  rw [q1] at h1'
                  cases h1'
                  obtain ⟨pl', vs', e1, rfl, rl'⟩ := h2'.lstI
                  cases e1
                  have hh3 : Held _ _ (((pd, .dK kvs) :: c0') ++ ([(pl, .lst vs')] ++ c2')) := d5
                  have hpl' := (hh3.sub.at_ pl _ (List.mem_singleton.mpr rfl)).1
                  have x1 := Does1.mid hh3 (Does1.one (os := []) (o' := .lst (vs' ++ [.ref T])) gBT.gh hh3.sub fun xs z => by cases z)
                  obtain ⟨gr, ok3⟩ := d6 _ _ _ _ x1 ((show fk "got_there" = 2 by decide +kernel) ▸ Fd.dl (h3' _ (Same.refl _) _ _ (.lst (rl'.append (.cons rT .nil)))))
                  refine ⟨pl, vs', .ref T, rfl, rfl, hpl', sz100l (by rw [rl'.length]; exact hly), ?_⟩
                  exact (EvS.drop (oL := oL) hn).run hp ok3 (Ans.mono ans2 (fun a ha => ha.gr ((gB.gr ok).trans gr)) fun c h => h)
                · rw [if_neg hly] at ans2
                  exact ans2.elim
              | _ => exact ans2.elim
      · rw [if_neg hlc] at ans
        exact ans.elim
  · rw [if_neg he2'] at ans
    exact ans.elim
end
end Hz

/-! what is left for the methods -/
namespace Hz
open PySem PySem.Spec PyProof.Rows L2 L2H

section
variable {K : PySem.W.Frag} {tw own oL sl vs : List Nat} {W : WX} {cl : Nat → Addr} {C : Addr}
def rdL (i : Nat) (f key : Str) (n : Env → R D) : Env → R D := fun e => (lift (fldL e i f)).bind fun es => (n e).bind fun y => match y with
  | .int j => (lift (ixN es.length j)).bind fun m => match es[m]? with
    | some (.dict ks) => (lift (valD ks (.str key))).bind .ok
    | _ => .bad
  | _ => .bad
theorem QI.rdL {i : Nat} {f key : Str} {tn : TE} {fn : Env → R D} (pf : PoF K C) (hf : f ∈ flds) (hk2 : fk f = 2) (hi : i ∈ own) (hn : QI K own W cl tn fn) : QI K own W cl (tDGet (tOp (rIx K) (tFld K (tVar i) f) tn) (tC (.str key))) (Hz.rdL i f key fn) := fun H0 P G env σ H Q ok ans => by
  obtain ⟨es, hd, ans⟩ := ans_lift ans
  obtain ⟨p, dx, fs, v, o1, a1, a2, a3, a4, a5, a6⟩ := ok.fldC pf hi (fldL_eq hd)
  refine ⟨.ref p, a1, p, C, dx, fs, v, rfl, a2, pf.cl, pf.no f hf, a3, ?_⟩
  refine hn H0 P G env σ H _ ok (ans.bind.mono (fun y hy G2 H2 vy g2 ry => ?_) fun c h => h)
  obtain ⟨o2, b4, b5, b6⟩ := ok.fldQ pf hi (fldL_eq hd) g2 a1 a2 a3
  obtain ⟨pl, vs, o, rfl, rfl, ra⟩ := b4.llI hk2
  have hH := (b5.at_ pl _ List.mem_cons_self).1
  cases ry with
  | int j =>
    obtain ⟨m, hm, q⟩ := ans_lift hy
    cases hem : es[m]? with
    | none => rw [hem] at q; exact q.elim
    | some dm0 =>
      rw [hem] at q
      cases dm0 with
      | dict ks =>
        obtain ⟨vm, c0, c1, c2, h1, rfl, h2, h3⟩ := ra.at hem
        obtain ⟨pd, kvs, rfl, rfl, rk⟩ := h2.dicI
        dsimp only at q
        obtain ⟨d, hv, q⟩ := ans_lift q
        have hi2 : atI vs j = some (.ref pd) := by
          unfold atI
          rw [ra.len, hm]
          exact h1
        have hh2 : Held G2 H2 (((pl, .lst vs) :: c0) ++ ([(pd, .dK kvs)] ++ c2)) := b5
        have hpd := (hh2.sub.at_ pd _ (List.mem_singleton.mpr rfl)).1
        obtain ⟨v1, hv1, rv1⟩ := (RpK.val (k := .inr key) rk).1 d hv
        refine .inl ⟨pl, vs, j, .ref pd, rfl, rfl, SqL.of hH, hi2, pd, v1, rfl, hv1 ▸ DGet.k (k := .inr key) hpd, q G2 H2 v1 g2 rv1⟩
      | _ => exact q.elim
  | _ => exact hy.elim
def sliceL (a : Env → R (D × Env)) (lo hi : Env → R (Option Int × Env)) : Env → R (D × Env) := fun e => (a e).bind fun x => (lo x.2).bind fun l => (hi l.2).bind fun h => match x.1 with
  | .list ds => .ok (.list (cutL ds l.1 h.1), h.2)
  | _ => .bad
theorem EvN.cutL {te : TE} {to th : TO} {fe : Env → R (D × Env)} {fo fh : Env → R (Option Int × Env)} (h : EvI K tw own W cl te fe) (hl : EvO K tw own W cl to fo) (hh : EvO K tw own W cl th fh) : EvN K tw own W cl (tSl (rCut K) te to th) (sliceL fe fo fh) := fun H0 P G env σ H Q hp ok ans => by
  refine h H0 P G env σ H _ hp ok (ans.bind.mono (fun a ha G1 H1 x g1 ok1 rx => ?_) fun _ h => h)
  refine hl H0 P G1 a.2 σ H1 _ hp ok1 (ha.bind.mono (fun b hb G2 H2 g2 ok2 => ?_) fun _ h => h)
  refine hh H0 P G2 b.2 σ H2 _ hp ok2 (hb.bind.mono (fun c hc G3 H3 g3 ok3 => ?_) fun _ h => h)
  obtain ⟨ad, ae⟩ := a
  cases rx with
  | @lst p xs ds h1 a1 =>
    have hp3 : H3 p = some (.lst xs) := ok3.sub _ _ (g3.1 _ _ (g2.1 _ _ h1))
    exact .inl ⟨_, _, rfl, SqL.of hp3, fun pn np => hc G3 H3 pn _ ((g1.trans g2).trans g3) ok3 np ⟨ok3.sub.free np, .inl ⟨_, _, rfl, upd_same, ((a1.mono g2.1).mono g3.1).cut _ _⟩⟩⟩
  | _ => exact hc.elim
/-! ### return of new objects -/
def EvRn (K : PySem.W.Frag) (tw own : List Nat) (W : WX) (cl : Nat → Addr) (t : TS) (f : Env → R (D × Env)) : Prop :=
  ∀ (H0 : Hp) (P : Par) (G : Hp) (env : Env) (σ : L2.St) (H : Hp) (E : Ends), P.1.map (·.1) = tw → StOk K H0 P own G env σ H →
    Ans (f env) (fun a => ∀ G1 σ1 H1 own' G' H' p os, Gr H0 G G1 → StOk K H0 P own' G1 a.2 σ1 H1 → Grow G1 H1 G' H' → (∀ x ∈ dm os, H1 x = none) → CellO K G' p a.1 os → Held G' H' os → E.rt (.ref p) H')
      (fun c => ∀ σ' H', σ'.length = P.2 → Frm H0 P H' → W (.ref (cl c)) none σ' H') → t E σ H
theorem EvRn.ret {te : TE} {fe : Env → R (D × Env)} (h : EvNo K tw own W cl te fe) : EvRn K tw own W cl (tRet te) fe := fun H0 P G env σ H E hp ok ans => by
  refine h H0 P G env σ H _ hp ok (ans.mono (fun a ha G1 H1 G' H' p os g1 ok1 g hf c hh => ?_) fun c h H' fr => h σ H' ok.ln fr)
  exact ha G1 σ H1 own G' H' p os g1 ok1 g hf c hh
theorem EvRn.seq {oM : List Nat} {t u : TS} {f : Env → R (Fl × Env)} {g : Env → R (D × Env)} (h : EvS K tw own oM [] W cl t f) (h2 : EvRn K tw oM W cl u g) : EvRn K tw own W cl (tSeq t u) (seqR f g) := fun H0 P G env σ H E hp ok ans => by
  refine h.run hp ok (ans.bind.mono (fun r hr => ?_) fun c h => h)
  obtain ⟨fl, e⟩ := r
  cases fl with
  | nx =>
    intro G' σ' H' g' ok'
    refine h2 H0 P G' e σ' H' E hp ok' (Ans.mono hr (fun a ha G1 σ1 H1 own' G2 H2 p os g1 => ha G1 σ1 H1 own' G2 H2 p os (g'.trans g1)) fun c h => h)
  | rt d => exact False.elim hr
  | bk => exact False.elim hr
  | ct => exact False.elim hr
def finE (r : R (D × Env)) : R D := r.bind fun a => .ok a.1
end
section
variable {P : Program} {w : World} {K : PySem.W.Frag} {mg : Str → Option Value} {base : Heap} {cl : Nat → Addr}
end
section
variable {X : Cx} {tw own oL : List Nat} {W : WX} {cl : Nat → Addr} {C : Addr} {e : Expr} {f : Str} {pos pos' q p apos spos : Pos} {te tk : TE} {fe : Env → R (D × Env)} {qk : Env → R D}
theorem dq_rdL (i : Nat) {x key : Str} {k : Expr} {j : Nat} {kp : Pos} (hu : X.A.units + 1 < cLine) (pf : PoF X.K C) (hi : i ∈ own) (hx : PE X (.Name x q) (tVar i)) (hk : DQ X own W cl k tk qk) (hf : f ∈ flds := by decide +kernel) (hk2 : fk f = 2 := by decide +kernel) (hb : attributeBase (.Name x q) f X.env (eval (.Name x q) X.env) = eval (.Name x q) X.env := by rfl) (hpi : PlainIx k := by exact fun _ _ => rfl) (hs : NoSl (.Constant (.str key) j kp) := by exact fun _ _ => rfl) :
    DQ X own W cl (.Subscript (.Subscript (.Attribute (.Name x q) f apos) k spos) (.Constant (.str key) j kp) pos) (tDGet (tOp (rIx X.K) (tFld X.K (tVar i) f) tk) (tC (.str key))) (rdL i f key qk) := ⟨pe_dget hu (pe_ix ix_seq (pe_fld hx hb) hk.pe hpi) pe_str hs, QI.rdL pf hf hk2 hi hk.ev⟩
end
/-! ### quiet functions -/
section
variable {X : Cx} {oL : List Nat} {cl : Nat → Addr} {C : Addr} {te tc tn : TE} {tt : TT} {fe fc fn : Env → R (D × Env)} {ft : Env → R (Bool × Env)} {Fg : List D → R D}
end
end Hz

/-! calls of defs with an owned parameter at any place -/
namespace Hz
open PySem PySem.Spec PyProof.Rows L2 L2H

section
variable {X : Cx} {tw own : List Nat} {W : WX} {cl : Nat → Addr} {e : Expr} {es : List Expr} {pos p q : Pos} {ta : TE} {tA : TA} {fa : Env → R (D × Env)} {fA : Env → R (List D × Env)} {fH : Env → R ((List D × List D) × Env)}
end
end Hz

/-! sorted(list of pairs of ints), of any length -/
namespace Hz
open PySem PySem.Spec PyProof.Rows L2 L2H

def leP (x y : Int × Int) : Bool := decide (x.1 < y.1 ∨ x.1 = y.1 ∧ x.2 ≤ y.2)
def insP (x : Int × Int) : List (Int × Int) → List (Int × Int)
  | [] => [x]
  | y :: l => if leP x y = true then x :: y :: l else y :: insP x l
def sortPr : List (Int × Int) → List (Int × Int)
  | [] => []
  | x :: l => insP x (sortPr l)
theorem leP_iff {x y : Int × Int} : leP x y = true ↔ (x.1 < y.1 ∨ x.1 = y.1 ∧ x.2 ≤ y.2) := by simp [leP]
theorem insP_perm (x : Int × Int) : ∀ l, (insP x l).Perm (x :: l)
  | [] => List.Perm.refl _
  | y :: l => by
    unfold insP
    split
    · exact List.Perm.refl _
    · exact ((insP_perm x l).cons y).trans (List.Perm.swap x y l)
theorem sortPr_perm : ∀ l, (sortPr l).Perm l
  | [] => List.Perm.refl _
  | x :: l => (insP_perm x _).trans ((sortPr_perm l).cons x)
theorem insP_sorted (x : Int × Int) : ∀ l : List (Int × Int), l.Pairwise (fun a b => leP a b = true) → (insP x l).Pairwise (fun a b => leP a b = true)
  | [], _ => List.pairwise_singleton _ _
  | y :: l, h => by
    rw [List.pairwise_cons] at h
    unfold insP
    split
    · rename_i hxy
      rw [List.pairwise_cons]
      refine ⟨fun z hz => ?_, List.pairwise_cons.mpr h⟩
      rcases List.mem_cons.mp hz with rfl | hz
      · exact hxy
      · have h1 := leP_iff.mp hxy
        have h2 := leP_iff.mp (h.1 z hz)
        rw [leP_iff]
        omega
    · rename_i hxy
      rw [List.pairwise_cons]
      refine ⟨fun z hz => ?_, insP_sorted x l h.2⟩
      rcases List.mem_cons.mp ((insP_perm x l).mem_iff.mp hz) with rfl | hz
      · have h1 : ¬ (z.1 < y.1 ∨ z.1 = y.1 ∧ z.2 ≤ y.2) := fun w => hxy (leP_iff.mpr w)
        rw [leP_iff]
        omega
      · exact h.1 z hz
theorem sortPr_sorted : ∀ l, (sortPr l).Pairwise (fun a b => leP a b = true)
  | [] => List.Pairwise.nil
  | x :: l => insP_sorted x _ (sortPr_sorted l)
theorem leP_anti {x y : Int × Int} (h1 : leP x y = true) (h2 : leP y x = true) : x = y := by
  rw [leP_iff] at h1 h2
  obtain ⟨a, b⟩ := x
  obtain ⟨c, d⟩ := y
  simp only at h1 h2
  have : a = c ∧ b = d := by omega
  rw [this.1, this.2]
theorem sorted_uniq : ∀ {l m : List (Int × Int)}, l.Perm m → l.Pairwise (fun a b => leP a b = true) → m.Pairwise (fun a b => leP a b = true) → l = m
  | [], m, p, _, _ => by rw [List.nil_perm.mp p]
  | x :: l, [], p, _, _ => by simp at p
  | x :: l, y :: m, p, hl, hm => by
    rw [List.pairwise_cons] at hl hm
    have hxy : x = y := by
      rcases List.mem_cons.mp (p.mem_iff.mp List.mem_cons_self) with e | hx
      · exact e
      · rcases List.mem_cons.mp (p.mem_iff.mpr List.mem_cons_self) with e | hy
        · exact e.symm
        · exact leP_anti (hl.1 y hy) (hm.1 x hx)
    subst hxy
    rw [sorted_uniq p.cons_inv hl.2 hm.2]
def prOf : D → Option (Int × Int)
  | .tuple [.int x, .int y] => some (x, y)
  | _ => none
def prsOf : List D → Option (List (Int × Int))
  | [] => some []
  | d :: ds => (prOf d).bind fun p => (prsOf ds).bind fun r => some (p :: r)
def prD (p : Int × Int) : D := .tuple [.int p.1, .int p.2]
theorem prOf_eq {d : D} {p : Int × Int} (h : prOf d = some p) : d = prD p := by
  unfold prOf at h
  split at h
  · cases h
    rfl
  · cases h
theorem prsOf_eq : ∀ {ds : List D} {ps : List (Int × Int)}, prsOf ds = some ps → ds = ps.map prD
  | [], ps, h => by cases h; rfl
  | d :: ds, ps, h => by
    obtain ⟨p, h1, h2⟩ := Option.bind_eq_some_iff.mp h
    obtain ⟨r, h3, h4⟩ := Option.bind_eq_some_iff.mp h2
    cases h4
    rw [prOf_eq h1, prsOf_eq h3]
    rfl
def sortedPD : D → Option D
  | .list ds => (prsOf ds).map fun ps => .list ((sortPr ps).map prD)
  | _ => none
section
variable {K : PySem.W.Frag} {tw own : List Nat} {W : WX} {cl : Nat → Addr}
theorem rows_of {G : Hp} : ∀ {xs : List V} {ps : List (Int × Int)}, RpA K G xs (ps.map prD) → ∃ ts : List (Addr × (Int × Int)), xs = ts.map (fun t => V.ref t.1) ∧ ps = ts.map (·.2) ∧ ∀ t ∈ ts, G t.1 = some (.tup [.int t.2.1, .int t.2.2])
  | _, [], h => by cases h; exact ⟨[], rfl, rfl, fun t m => by cases m⟩
  | _, p :: ps, h => by
    cases h with
    | cons h r =>
      obtain ⟨ts, e1, e2, e3⟩ := rows_of r
      unfold prD at h
      cases h with
      | @tup a vs ds hs ra n =>
        have hg := n.2 rfl
        cases ra with
        | cons r1 ra =>
          cases ra with
          | cons r2 ra =>
            cases ra
            cases r1
            cases r2
            refine ⟨(a, p) :: ts, by rw [List.map_cons, e1], by rw [List.map_cons, e2], fun t m => ?_⟩
            rcases List.mem_cons.mp m with rfl | m
            · exact hg
            · exact e3 t m
theorem rp_pr {G : Hp} {a : Addr} {p : Int × Int} (h : G a = some (.tup [.int p.1, .int p.2])) : Rp K G (.ref a) (prD p) := .tup (SqT.of h) (.cons (.int _) (.cons (.int _) .nil)) ⟨(fun z => by cases z), fun _ => h⟩
theorem EvN.sortP {ta : TE} {fa : Env → R (D × Env)} (ha : EvI K tw own W cl ta fa) : EvN K tw own W cl (tCB (rSortedPO K) (tCons ta tNil)) (op1 sortedPD fa) := fun H0 P G env σ H Q hp ok ans => by
  refine ha H0 P G env σ H _ hp ok (ans.bind.mono (fun b hb G1 H1 x g1 ok1 rx => ?_) fun _ h => h)
  obtain ⟨d, e, qq⟩ := ans_lift hb
  obtain ⟨b1, b2⟩ := b
  cases rx <;> first | (cases e; done) | skip
  rename_i l xs ds h r
  obtain ⟨ps, hps, rfl⟩ := Option.map_eq_some_iff.mp (show (prsOf ds).map (fun ps => PyData.list ((sortPr ps).map prD)) = some d from e)
  rw [prsOf_eq hps] at r
  obtain ⟨ts, rfl, rfl, ht⟩ := rows_of r
  have fn : ∀ t ∈ ts, ∀ u ∈ ts, t.1 = u.1 → t.2 = u.2 := fun t ht' u hu e => by
    have h1 := ht t ht'
    have h2 := ht u hu
    rw [e, h2] at h1
    injection h1 with h1
    injection h1 with h1
    injection h1 with h3 h4
    injection h3 with h3
    injection h4 with h4 _
    injection h4 with h4
    exact Prod.ext h3.symm h4.symm
  let k : V → Int × Int := fun v => match v with
    | .ref a => ((ts.find? fun t => decide (t.1 = a)).map (·.2)).getD (0, 0)
    | _ => (0, 0)
  have hk : ∀ t ∈ ts, k (.ref t.1) = t.2 := fun t ht' => by
    show ((ts.find? fun u => decide (u.1 = t.1)).map (·.2)).getD (0, 0) = t.2
    cases hf : ts.find? fun u => decide (u.1 = t.1) with
    | none =>
      rw [List.find?_eq_none] at hf
      exact absurd (hf t ht') (by simp)
    | some u =>
      have h1 := List.find?_some hf
      have h2 := List.mem_of_find?_eq_some hf
      exact fn u h2 t ht' (by simpa using h1)
  refine ⟨l, ts.map (fun t => V.ref t.1), k, rfl, SqL.of (ok1.sub _ _ h), fun x hx => ?_, fun ys p hs hb np => ?_⟩
  · obtain ⟨t, ht', rfl⟩ := List.mem_map.mp hx
    exact ⟨t.1, rfl, by rw [hk t ht']; exact ok1.sub _ _ (ht t ht')⟩
  · obtain ⟨us, pu, rfl⟩ := perm_lift (f := fun t : Addr × (Int × Int) => V.ref t.1) hb.perm ts rfl
    have hsort : us.map (·.2) = sortPr (ts.map (·.2)) := by
      refine sorted_uniq ((pu.map _).trans (sortPr_perm _).symm) ?_ (sortPr_sorted _)
      rw [List.pairwise_map]
      have h1 := List.pairwise_map.mp hs
      refine List.Pairwise.imp_of_mem (fun {a b} hma hmb hle => ?_) h1
      have e1 := hk a (pu.mem_iff.mp hma)
      have e2 := hk b (pu.mem_iff.mp hmb)
      have h3 : SrtO.lexB (k (.ref b.1)) (k (.ref a.1)) = false := hle
      rw [e1, e2] at h3
      have h4 := SrtO.lexB_no.mp h3
      rw [leP_iff]
      omega
    refine qq G1 H1 p _ g1 ok1 np ⟨ok1.sub.free np, .inl ⟨_, _, rfl, upd_same, ?_⟩⟩
    rw [← hsort]
    have hu : ∀ t ∈ us, G1 t.1 = some (.tup [.int t.2.1, .int t.2.2]) := fun t m => ht t (pu.mem_iff.mp m)
    clear hsort hs hb pu
    induction us with
    | nil => exact .nil
    | cons t us ih => exact .cons (rp_pr (hu t List.mem_cons_self)) (ih fun u m => hu u (List.mem_cons_of_mem _ m))
end
section
variable {X : Cx} {tw own : List Nat} {W : WX} {cl : Nat → Addr} {a : Expr} {p pos : Pos} {ta : TE} {fa : Env → R (D × Env)}
theorem dn_sortedP (hms : X.mg "sorted" = none) (ha : DI X tw own W cl a ta fa) (hg : Gl X "sorted" := by rfl)
    (na : starEach [a] X.env = (false, eval a X.env) :: starEach [] X.env := by rfl) (h2 : (backTo pos (starEach [] X.env)).any (·.1) = false := by rfl) :
    DN X tw own W cl (.Call (.Name "sorted" p) [a] [] pos) (tCB (rSortedPO X.K) (tCons ta tNil)) (op1 sortedPD fa) :=
  ⟨pe_callB cr_sortedPO hg hms boot_sorted (pa_cons ha.pe pa_nil na) (by decide) (by decide) na h2, EvN.sortP ha.ev⟩
end
end Hz

/-! d.get(k, x), d a value -/
namespace Hz
open PySem PySem.Spec PyProof.Rows L2 L2H

def isKd : D → Option (List (D × D))
  | .dict ds => if ds.all (fun x => (keyOf x.1).isSome) = true then some ds else none
  | _ => none
theorem isKd_eq {d : D} {ds : List (D × D)} (h : isKd d = some ds) : d = .dict ds ∧ ds.all (fun x => (keyOf x.1).isSome) = true := by
  unfold isKd at h
  split at h
  · split at h
    · rename_i z
      cases h
      exact ⟨rfl, z⟩
    · cases h
  · cases h
section
variable {K : PySem.W.Frag} {tw : List Nat} {own oL : List Nat} {W : WX} {cl : Nat → Addr} {ta tb tc : TE} {fa fb fc : Env → R (D × Env)}
theorem Rp.kd {G : Hp} {v : V} {d : D} {ds : List (D × D)} (r : Rp K G v d) (h : isKd d = some ds) : ∃ a kvs, v = .ref a ∧ Rd G a (.dK kvs) ∧ RpK K G kvs ds := by
  obtain ⟨rfl, h'⟩ := isKd_eq h
  cases r with
  | dic h1 h2 => exact ⟨_, _, rfl, h1, h2⟩
  | dit h1 h2 =>
    rw [List.all_cons] at h'
    simp [keyOf] at h'
  | scr h1 =>
    rw [List.all_cons] at h'
    simp [keyOf] at h'
  | ins h1 h2 h3 =>
    rw [List.all_cons] at h'
    simp [keyOf] at h'
  | rcd h1 h2 =>
    rw [List.all_cons] at h'
    simp [keyOf] at h'
end
section
variable {X : Cx} {tw : List Nat} {own oL : List Nat} {W : WX} {cl : Nat → Addr} {a b c : Expr} {apos pos q : Pos} {ta tb tc : TE} {fa fb fc : Env → R (D × Env)}
end
end Hz

/-! sorted(list of ints), of any length -/
namespace Hz
open PySem PySem.Spec PyProof.Rows L2 L2H

section
variable {X : Cx} {tw : List Nat} {own : List Nat} {W : WX} {cl : Nat → Addr} {e : Expr} {p pos : Pos} {tA : TA} {fA : Env → R (List D × Env)} {k : Nat}
end
end Hz

/-! defs with an owned parameter that give a new object; methods of new objects -/
namespace Hz
open PySem PySem.Spec PyProof.Rows L2 L2H

def spTN (K : PySem.W.Frag) (cl : Nat → Addr) (k n : Nat) (F : List D → R (D × D)) : Sp := fun vs H Q E => ∃ G va p vb da dt db os, vs = va ++ .ref p :: vb ∧ va.length = k ∧ Same G H ∧ RpA K G va da ∧ CellO K G p dt os ∧ Held G H os ∧ RpA K G vb db ∧ da.length + db.length + 1 = n ∧
  Ans (F (da ++ dt :: db)) (fun a => ∀ G' H' p2 os2 os', Does K G H os G' H' p a.2 os' → CellO K G' p2 a.1 os2 → Held G' H' os2 → (∀ x ∈ dm os2, H x = none ∧ x ∉ dm os') → Q (.ref p2) H')
    (fun c => ∀ H', (∀ b o, b ∉ dm os → H b = some o → H' b = some o) → E (.ref (cl c)) none H')
theorem spTN.len {K : PySem.W.Frag} {cl : Nat → Addr} {k n : Nat} {F : List D → R (D × D)} (vs : List V) (H : Hp) (Q : VK) (E : XK) (h : spTN K cl k n F vs H Q E) : vs.length = n := by
  obtain ⟨G, va, p, vb, da, dt, db, os, rfl, _, _, ra, _, _, rb, e, _⟩ := h
  rw [← e, ← ra.length, ← rb.length, List.length_append, List.length_cons]
  omega
section
variable {K : PySem.W.Frag} {H0 : Hp} {P : Par} {own : List Nat} {G G' H H' : Hp} {env : Env} {σ : L2.St}
open Classical in
noncomputable def delO (H : Hp) (os : Os) : Hp := fun a => if a ∈ dm os then none else H a
theorem delO_in {H : Hp} {os : Os} {a : Addr} (h : a ∈ dm os) : delO H os a = none := if_pos h
theorem delO_out {H : Hp} {os : Os} {a : Addr} (h : a ∉ dm os) : delO H os a = H a := if_neg h
theorem Does.split {os os' os2 : Os} {p p2 : Addr} {d d2 : D} (x : Does K G H os G' H' p d os') (c : CellO K G' p2 d2 os2) (hd : Held G' H' os2) (hf : ∀ y ∈ Hz.dm os2, H y = none ∧ y ∉ Hz.dm os') : Does K G H os G' (delO H' os2) p d os' ∧ Grow G' (delO H' os2) G' H' ∧ ∀ y ∈ Hz.dm os2, delO H' os2 y = none := by
  have up : ∀ a o, H a = some o → a ∉ Hz.dm os2 := fun a o h z => by
    rw [(hf a z).1] at h
    cases h
  have gup : ∀ a o, G' a = some o → a ∉ Hz.dm os2 := fun a o h z => by
    obtain ⟨u, _, hg, _⟩ := hd.there z
    rw [hg] at h
    cases h
  refine ⟨⟨x.gg, fun a o h => ?_, fun a o h n => ?_, fun a o h => ?_, x.gn, x.c, ⟨fun a o m => ?_, x.hd.nd⟩, x.sb⟩, ⟨Same.refl _, x.gh, fun a o h => ?_, fun _ _ _ _ => rfl⟩, fun y hy => delO_in hy⟩
  · rw [delO_out (gup a o h)]
    exact x.gh a o h
  · rw [delO_out (up a o h)]
    exact x.kp a o h n
  · rw [delO_out (up a o h)]
    exact x.dm a o h
  · obtain ⟨h1, h2, h3⟩ := x.hd.at_ a o m
    refine ⟨?_, h2, h3⟩
    rw [delO_out fun z => (hf a z).2 (dm_mem.mpr ⟨o, m⟩)]
    exact h1
  · by_cases z : a ∈ Hz.dm os2
    · rw [delO_in z] at h
      cases h
    · rw [delO_out z] at h
      exact h
end
section
variable {P : Program} {w : World} {K : PySem.W.Frag} {mg : Str → Option Value} {base : Heap} {cl : Nat → Addr}
end
/-! x.twin(), x ours -/
section
variable {K : PySem.W.Frag} {tw own : List Nat} {W : WX} {cl : Nat → Addr} {C : Addr} {ta : TE} {tA : TA} {fa : Env → R (D × Env)} {fA : Env → R (List D × Env)}
end
end Hz

/-! copies of what is ours: lists of dicts, dicts of lists -/
namespace Hz
open PySem PySem.Spec PyProof.Rows L2 L2H

def rDictC : List V → Hp → VK → Prop := fun xs H Q => ∃ (a : Addr) (kvs : List (Key × V)), xs = [.ref a] ∧ Rd H a (.dK kvs) ∧ ∀ p, H p = none → Q (.ref p) (upd H p (.dK kvs))
section
variable {K : PySem.W.Frag} {G1 H1 : Hp}
theorem FlA.len2 {G : Hp} : ∀ {vs : List V} {ds : List D} {os : Os}, FlA K G vs ds os → vs.length = ds.length
  | _, _, _, .nil => rfl
  | _, _, _, .cons _ t => congrArg (· + 1) (FlA.len2 t)
structure New (G H H' : Hp) (os : Os) (x : Addr) : Prop where
  sm : Same H H'
  at_ : ∀ y o, (y, o) ∈ os → H' y = some o ∧ H y = none ∧ y ≠ x ∧ NT o
  nd : (dm os).Nodup
theorem New.held {G H H' : Hp} {os : Os} {x : Addr} (sub : Same G H) (n : New G H H' os x) : Held G H' os := ⟨fun y o m => ⟨(n.at_ y o m).1, sub.free (n.at_ y o m).2.1, (n.at_ y o m).2.2.2⟩, n.nd⟩
theorem New.snoc {G H H' : Hp} {os : Os} {x p : Addr} {o : HO} (n : New G H H' os x) (hp : H' p = none) (no : NT o) (hx : H' x ≠ none) {H2 : Hp} (h2 : Same H' H2) (hp2 : H2 p = some o) : New G H H2 (os ++ [(p, o)]) x := by
  refine ⟨n.sm.trans h2, fun y u m => ?_, ?_⟩
  · rcases List.mem_append.mp m with z | z
    · obtain ⟨a1, a2, a3, a4⟩ := n.at_ y u z
      exact ⟨h2 y u a1, a2, a3, a4⟩
    · cases List.mem_singleton.mp z
      exact ⟨hp2, n.sm.free hp, fun y => hx (y ▸ hp), no⟩
  · rw [dm_append, List.nodup_append]
    refine ⟨n.nd, by simp [dm], fun a ha b hb e => ?_⟩
    have hb : b = p := by simpa [dm] using hb
    obtain ⟨u, hu⟩ := dm_mem.mp ha
    have := (n.at_ a u hu).1
    rw [e, hb, hp] at this
    cases this
theorem rows_core {σ : L2.St} {wi : TI} {pl : Addr} {vs : List V} {ds : List D} {os : Os} {r : Nat} {Q : VK} (sub : Same G1 H1) (hl : H1 pl = some (.lst vs)) (fa : FlA K G1 vs ds os) (hd : ∀ d ∈ ds, ∃ es, d = .dict es) (hos : ∀ y o, (y, o) ∈ os → H1 y = some o) (hlen : ds.length ≤ 1000000) (hr : r < σ.length)
    (hwi : ∀ R : It → Hp → Prop, R (Itl K pl) H1 → wi σ H1 R) (q : ∀ (H' : Hp) (p : Addr) (os' : Os), Grow G1 H1 G1 H' → (∀ x ∈ dm os', H1 x = none) → Fd K G1 2 (.ref p) (.list ds) os' → Held G1 H' os' → Q (.ref p) H') :
    tLc wi (gName r) tYes (tCB rDictC (tCons (tVar r) tNil)) [r] σ H1 Q := by
  have hvl := fa.len2
  refine hwi _ fun Dl hD => ?_
  have npl : pl ≠ Dl := fun z => by rw [z, hD] at hl; cases hl
  refine ⟨fun j m H' => m = vs.length - j ∧ j ≤ vs.length ∧ ∃ (ns : List V) (os' : Os), FlA K G1 ns (ds.take j) os' ∧ H' Dl = some (.lst ns) ∧ New G1 H1 H' os' Dl, ⟨_, rfl, Nat.zero_le _, [], [], .nil, upd_same, ⟨Same.new hD, fun y o m => (by cases m), List.nodup_nil⟩⟩, ?_⟩
  rintro j m H2 ⟨rfl, hj, ns, os', fn, hDl, nw⟩
  have hl2 : H2 pl = some (.lst vs) := nw.sm _ _ hl
  cases hv : vs[j]? with
  | none =>
    have hjl : vs.length ≤ j := List.getElem?_eq_none_iff.mp hv
    refine .inl ⟨⟨vs, SqL.of hl2, hjl⟩, ?_⟩
    rw [List.take_of_length_le (by omega)] at fn
    have hld := nw.held sub
    refine q H2 Dl ((Dl, .lst ns) :: os') ⟨Same.refl _, sub.trans nw.sm, nw.sm, fun _ _ _ _ => rfl⟩ (fun x hx => ?_) (.ll fn) ⟨fun y o m => ?_, ?_⟩
    · rcases List.mem_cons.mp hx with z | z
      · rw [z]; exact hD
      · obtain ⟨o, ho⟩ := dm_mem.mp z
        exact (nw.at_ x o ho).2.1
    · rcases List.mem_cons.mp m with z | z
      · cases z
        exact ⟨hDl, sub.free hD, fun xs y => by cases y⟩
      · exact hld.at_ y o z
    · show (Dl :: dm os').Nodup
      rw [List.nodup_cons]
      refine ⟨fun z => ?_, nw.nd⟩
      obtain ⟨o, ho⟩ := dm_mem.mp z
      exact (nw.at_ Dl o ho).2.2.1 rfl
  | some v =>
    have hjl := lt_of_get hv
    have hdj : ds[j]? = some (ds[j]'(by omega)) := List.getElem?_eq_getElem (by omega)
    obtain ⟨v', o0, o1, o2, e1, e2, e3, _⟩ := fa.at hdj
    rw [hv] at e1
    cases e1
    obtain ⟨es, he⟩ := hd _ (List.getElem_mem (by omega : j < ds.length))
    rw [he] at e3 hdj
    obtain ⟨p, kvs, rfl, rfl, rk⟩ := e3.dicI
    have hp1 : H1 p = some (.dK kvs) := hos p _ (by rw [e2]; simp)
    refine .inr ⟨⟨vs, _, SqL.of hl2, hv⟩, fun H' => j + 1 ≤ vs.length ∧ ∃ (ns : List V) (os' : Os), FlA K G1 ns (ds.take (j + 1)) os' ∧ H' Dl = some (.lst ns) ∧ New G1 H1 H' os' Dl, fun H' ⟨h1, h2⟩ => ⟨vs.length - (j + 1), by omega, rfl, h1, h2⟩, fun x H3 y => ?_⟩
    obtain ⟨rfl, hx⟩ := y
    have hxv := hx vs (SqL.of hl2)
    rw [hv] at hxv
    cases hxv
    refine ⟨wipe_eq (vs := [r]) (by simp [wipe_length]) (fun k hk => ?_), ?_⟩
    · have hk : k ≠ r := fun z => hk (by rw [z]; exact List.mem_singleton.mpr rfl)
      rw [List.getElem?_set_ne (Ne.symm hk)]
      show ((wipe σ []).set r none)[k]? = σ[k]?
      rw [List.getElem?_set_ne (Ne.symm hk)]
      rfl
    refine yes_of ⟨.ref p, ?_, p, kvs, rfl, .inl (nw.sm _ _ hp1), fun nn hnn => ?_⟩
    · rw [List.getElem?_set_self]
      simp [wipe, hr]
    · have hDn : Dl ≠ nn := fun z => by rw [z, hnn] at hDl; cases hDl
      refine ⟨ns, by rw [upd_ne hDn]; exact hDl, sz100l (by have := fn.len2; rw [List.length_take] at this; omega), hjl, ns ++ [.ref nn], os' ++ [(nn, .dK kvs)], ?_, upd_same, ?_⟩
      · rw [List.take_succ, hdj]
        exact fn.snoc (.dic rk)
      · have sm3 : Same H3 (upd H3 nn (.dK kvs)) := Same.new hnn
        have n1 := nw.snoc (o := .dK kvs) hnn (fun xs z => by cases z) (by rw [hDl]; simp) sm3 upd_same
        refine ⟨fun a u ha => ?_, fun y o m => ?_, n1.nd⟩
        · rw [upd_ne (ne_of_none ha hD)]
          exact n1.sm a u ha
        · obtain ⟨a1, a2, a3, a4⟩ := n1.at_ y o m
          exact ⟨by rw [upd_ne a3]; exact a1, a2, a3, a4⟩
end
end Hz

/-! a post like another one: the rules of the text -/
namespace Hz
open PySem PySem.Spec PyProof.Rows L2 L2H

/-! ### dict(d), a new dict -/
section
variable {K : PySem.W.Frag} {tw own oL : List Nat} {W : WX} {cl : Nat → Addr} {C : Addr}
def rowsOk : D → Bool
  | .list ds => decide (ds.length ≤ 1000000) && ds.all fun d => match d with
    | .dict _ => true
    | _ => false
  | _ => false
def rowsF (i : Nat) (f : Str) (r : Nat) : Env → R (D × Env) := fun e => (lift (fldAt e i f)).bind fun d => if rowsOk d = true ∧ r < e.length then .ok (d, e) else .bad
theorem EvFd.rows {i r : Nat} {f : Str} (pf : PoF K C) (hf : f ∈ flds) (hk : fk f = 2) (hi : i ∈ own) : EvFd K tw own W cl 2 (tLc (iList K (tFld K (tVar i) f)) (gName r) tYes (tCB rDictC (tCons (tVar r) tNil)) [r]) (rowsF i f r) := fun H0 P G env σ H Q hp ok ans => by
  obtain ⟨d, hd, ans⟩ := ans_lift ans
  by_cases h : rowsOk d = true ∧ r < env.length
  · rw [if_pos h] at ans
    obtain ⟨h1, h2⟩ := h
    obtain ⟨p, dx, fs, v, o1, a1, a2, a3, a4, a5, _⟩ := ok.fldC pf hi hd
    unfold rowsOk at h1
    split at h1
    · rename_i ds
      rw [Bool.and_eq_true, decide_eq_true_eq, List.all_eq_true] at h1
      obtain ⟨pl, vs, os, rfl, rfl, fa⟩ := a4.llI hk
      have hl := (a5.at_ pl _ List.mem_cons_self).1
      refine rows_core ok.sub hl fa (fun d hd => ?_) (fun y o m => (a5.at_ y o (List.mem_cons_of_mem _ m)).1) h1.1 (by rw [← ok.len]; exact h2) (fun R hR => ⟨.ref p, a1, p, C, dx, fs, .ref pl, rfl, a2, pf.cl, pf.no f hf, a3, pl, rfl, ⟨vs, SqL.of hl⟩, hR⟩) fun H' p' os' gw hfr fd hh => ans G H G H' _ os' Gr.refl ok gw hfr fd hh
      have := h1.2 d hd
      cases d <;> first | exact ⟨_, rfl⟩ | (cases this)
    · cases h1
  · rw [if_neg h] at ans
    exact ans.elim
/-! ### x.f, x.g = a, b -/
end
end Hz

/-! x.f, x.g = new, new; the rules of the text for a post's twin -/
namespace Hz
open PySem PySem.Spec PyProof.Rows L2 L2H

section
variable {K : PySem.W.Frag} {tw own oL : List Nat} {W : WX} {cl : Nat → Addr} {C : Addr}
theorem Held.grow {G H G' H' : Hp} {os : Os} (h : Held G H os) (g : Grow G H G' H') : Held G' H' os := h.mono (fun x m => by
  obtain ⟨o, h1, h2, h3⟩ := h.there m
  exact (g.new x o h1 h3).trans h2) fun x o m => g.hh x o (h.at_ x o m).1
theorem Does1.swap {G H G' H' : Hp} {os b0 b1 b2 os2 : Os} (x : Does1 G H os G' H' (b0 ++ (b1 ++ b2))) (hh : Held G' H' os2) (hf : ∀ y ∈ dm os2, H y = none) (dj : ∀ y ∈ dm os2, y ∉ dm (b0 ++ (b1 ++ b2))) : Does1 G H os G' H' (b0 ++ (os2 ++ b2)) := by
  have nd := x.hd.nd
  have dj' : ∀ y ∈ dm os2, y ∉ dm b0 ∧ y ∉ dm b2 := fun y hy => by
    have := dj y hy
    rw [dm_append, dm_append] at this
    exact ⟨fun z => this (List.mem_append_left _ z), fun z => this (List.mem_append_right _ (List.mem_append_right _ z))⟩
  rw [dm_append, dm_append, List.nodup_append, List.nodup_append] at nd
  obtain ⟨n1, ⟨n2, n3, n4⟩, n5⟩ := nd
  refine ⟨x.gg, x.gh, x.kp, x.dd, x.gn, ⟨fun y o m => ?_, ?_⟩, fun y hy => ?_⟩
  · rcases List.mem_append.mp m with z | z
    · exact x.hd.at_ y o (List.mem_append_left _ z)
    · rcases List.mem_append.mp z with z | z
      · exact hh.at_ y o z
      · exact x.hd.at_ y o (List.mem_append_right _ (List.mem_append_right _ z))
  · rw [dm_append, dm_append, List.nodup_append, List.nodup_append]
    refine ⟨n1, ⟨hh.nd, n3, fun a ha b hb e => (dj' a ha).2 (e ▸ hb)⟩, fun a ha b hb e => ?_⟩
    rcases List.mem_append.mp hb with z | z
    · exact (dj' b z).1 (e ▸ ha)
    · exact n5 a ha b (List.mem_append_right _ z) e
  · rw [dm_append, dm_append] at hy
    rcases List.mem_append.mp hy with z | z
    · exact x.sb y (by rw [dm_append]; exact List.mem_append_left _ z)
    · rcases List.mem_append.mp z with z | z
      · exact .inr (hf y z)
      · exact x.sb y (by rw [dm_append, dm_append]; exact List.mem_append_right _ (List.mem_append_right _ z))
end
end Hz

/-! the rules of the text for a post's twin -/
namespace Hz
open PySem PySem.Spec PyProof.Rows L2 L2H

section
variable {X : Cx} {tw own oL : List Nat} {W : WX} {cl : Nat → Addr} {C : Addr} {k n : Nat} {m qual f g h : Str} {st : Stmt} {ps : List Str} {ga : Addr} {fd : FuncData} {FM : List D → R (D × D)} {o e a b c : Expr} {es : List Expr} {pos p q q1 q2 q3 apos apos2 apos3 pos' tpos tpos2 cpos : Pos} {ta t1 t2 : TE} {tA : TA} {fa : Env → R (D × Env)} {fA : Env → R (List D × Env)} {qd1 qd2 : Env → R D}
/-! attributes set together -/
/-! copies -/
end
end Hz

/-! a != b, two dicts that are equal -/
namespace Hz
open PySem PySem.Spec PyProof.Rows L2 L2H
section
open PySem.Calls PyProof.V PySem.W
end
section
variable {K : PySem.W.Frag}
theorem RpK.mem {G : Hp} {p : Key × V} : ∀ {kvs : List (Key × V)} {ds : List (D × D)}, RpK K G kvs ds → p ∈ kvs → ∃ d, (kD p.1, d) ∈ ds ∧ Rp K G p.2 d
  | _, _, .nil, h => by cases h
  | _, _, .cons r t, h => by
    rcases List.mem_cons.mp h with rfl | h
    · exact ⟨_, List.mem_cons_self, r⟩
    · obtain ⟨d, h1, h2⟩ := RpK.mem t h
      exact ⟨d, List.mem_cons_of_mem _ h1, h2⟩
theorem RpK.len {G : Hp} : ∀ {kvs : List (Key × V)} {ds : List (D × D)}, RpK K G kvs ds → kvs.length = ds.length
  | _, _, .nil => rfl
  | _, _, .cons _ t => by simp [RpK.len t]
end
end Hz

/-! try: return x.m(..) .. except, x an owned parameter -/
namespace Hz
open PySem PySem.Spec PyProof.Rows L2 L2H
section
variable {K : PySem.W.Frag} {k : Nat} {W : WX} {cl : Nat → Addr} {t c : TT} {ta tb te : TE} {tA : TA} {fa fb fe : Env → R (D × Env)} {oN : List Nat}
def EvIW (K : PySem.W.Frag) (k : Nat) (W : WX) (cl : Nat → Addr) (t : TE) (f : Env → R (D × Env)) : Prop :=
  ∀ (H0 : Hp) (P : Par) (G : Hp) (env : Env) (σ : L2.St) (H : Hp) (Q : VK), P.1.map (·.1) = [k] → StOk K H0 P [k] G env σ H → Same H0 H →
    Ans (f env) (fun a => ∀ G' H' v, Gr H0 G G' → StOk K H0 P [k] G' a.2 σ H' → Rp K G' v a.1 → Q v H') (fun c => ∀ H', Same H0 H' → W (.ref (cl c)) none σ H') → t σ H Q
theorem EvIW.q {f : Env → R D} (h : QI K [k] W cl te f) : EvIW K k W cl te (quI f) := fun H0 P G env σ H Q hp ok sm ans => by
  refine h H0 P G env σ H Q ok ((Ans.bind ans).mono (fun d hd G' H' v g rv => hd G' H' v (g.gr ok) (ok.grow g) rv) fun c hc H' s => hc H' (sm.trans s))
theorem EvIW.ifx {fc : Env → R Bool} (hc : QT K [k] W cl t fc) (ha : EvIW K k W cl ta fa) (hb : EvIW K k W cl tb fb) : EvIW K k W cl (tIf t ta tb) (ifD (quT fc) fa fb) := fun H0 P G env σ H Q hp ok sm ans => by
  have e : ifD (quT fc) fa fb env = (fc env).bind fun b => if b = true then fa env else fb env := by
    unfold ifD quT
    cases fc env <;> rfl
  rw [e] at ans
  refine hc H0 P G env σ H _ ok (ans.bind.mono (fun b hb' G1 H1 g1 => ?_) fun c h H' s => h H' (sm.trans s))
  cases b with
  | true => exact ha H0 P G1 env σ H1 Q hp (ok.grow g1) (sm.trans g1.hh) (Ans.mono hb' (fun a h G' H' v g2 => h G' H' v ((g1.gr ok).trans g2)) fun _ h => h)
  | false => exact hb H0 P G1 env σ H1 Q hp (ok.grow g1) (sm.trans g1.hh) (Ans.mono hb' (fun a h G' H' v g2 => h G' H' v ((g1.gr ok).trans g2)) fun _ h => h)
theorem EvW.ret (h : EvIW K k W cl te fe) : EvW K k oN W cl (tRet te) (retS fe) := fun H0 P G env σ H E hp ok sm ans => by
  refine h H0 P G env σ H _ hp ok sm ((Ans.bind ans).mono (fun a ha G1 H1 x g1 ok1 rx => ha G1 σ H1 x g1 ok1 rx) fun c hc H' s => hc σ H' ok.ln s)
end
section
variable {X : Cx} {k : Nat} {oN : List Nat} {W : WX} {cl : Nat → Addr} {a b c e : Expr} {es : List Expr} {pos q apos : Pos} {t : TT} {ta tb te : TE} {tA : TA} {fa fb fe : Env → R (D × Env)} {fc : Env → R Bool} {qe : Env → R D}
end
/-! ### the whole body of a def -/
section
variable {P : Program} {w : World} {K : PySem.W.Frag} {mg : Str → Option Value} {base : Heap} {cl : Nat → Addr} {js : List Nat}
end
end Hz

/-! for x in (a, b), a and b ours: x is each of them in turn -/
namespace Hz
open PySem PySem.Spec PyProof.Rows L2 L2H
section
variable {K : PySem.W.Frag} {H0 : Hp} {P : Par} {own : List Nat} {G G' H H' : Hp} {env : Env} {σ σ' : L2.St}
def KeepS (t : TS) : Prop := ∀ (E E' : Ends) (σ : L2.St), E.nx σ = E'.nx σ → t E σ = t E' σ
theorem keep_drop (te : TE) : KeepS (tDrop te) := fun E E' σ h => by
  funext H
  show te σ H (fun _ H1 => E.nx σ H1) = te σ H fun _ H1 => E'.nx σ H1
  rw [h]
theorem keep_if {c : TT} {t u : TS} (h1 : KeepS t) (h2 : KeepS u) : KeepS (tIfS c t u) := fun E E' σ h => by
  funext H
  show c σ H (fun b H1 => if b = true then t E σ H1 else u E σ H1) = c σ H fun b H1 => if b = true then t E' σ H1 else u E' σ H1
  rw [h1 E E' σ h, h2 E E' σ h]
variable {tw oL : List Nat} {W : WX} {cl : Nat → Addr}
end
section
variable {X : Cx} {tw own oL : List Nat} {W : WX} {cl : Nat → Addr} {body : List Stmt} {tg : Expr} {tb : TS} {b : Env → R (Fl × Env)} {pos p1 p2 p3 : Pos}
end
end Hz

/-! {0: a, 1: b} -/
namespace Hz
open PySem PySem.Spec PyProof.Rows L2 L2H
section
variable {K : PySem.W.Frag} {tw own : List Nat} {W : WX} {cl : Nat → Addr}
end
section
variable {X : Cx} {tw own : List Nat} {W : WX} {cl : Nat → Addr} {pos p1 p2 q1 q2 : Pos} {x y : Str} {k1 k2 : Nat}
end
end Hz

/-! what is refused behind x.twin(), x an owned parameter: the data of x is as it was -/
namespace Hz
open PySem PySem.Spec PyProof.Rows L2 L2H
def spTE (K : PySem.W.Frag) (cl : Nat → Addr) (n : Nat) (F : List D → Option Nat) : Sp := fun vs H Q E => ∃ G p vb dt db os c, vs = .ref p :: vb ∧ Same G H ∧ CellO K G p dt os ∧ Held G H os ∧ RpA K G vb db ∧ db.length + 1 = n ∧ F (dt :: db) = some c ∧
  ∀ G' H' os', Does K G H os G' H' p dt os' → E (.ref (cl c)) none H'
theorem spTE.len {K : PySem.W.Frag} {cl : Nat → Addr} {n : Nat} {F : List D → Option Nat} (vs : List V) (H : Hp) (Q : VK) (E : XK) (h : spTE K cl n F vs H Q E) : vs.length = n := by
  obtain ⟨G, p, vb, dt, db, os, c, rfl, _, _, _, rb, e, _⟩ := h
  rw [← e, ← rb.length, List.length_cons]
theorem set_get {e : Env} {k : Nat} {o : Option D} (h : e[k]? = some o) : e.set k o = e := by
  refine List.ext_getElem? fun i => ?_
  by_cases z : i = k
  · subst z
    rw [List.getElem?_set_self (lt_of_get h), h]
  · rw [List.getElem?_set_ne (Ne.symm z)]
section
variable {K : PySem.W.Frag} {k : Nat} {W : WX} {cl : Nat → Addr} {ta tb te : TE} {tA : TA} {t : TT}
def EvIE (K : PySem.W.Frag) (k : Nat) (W : WX) (cl : Nat → Addr) (t : TE) (f : Env → Option Nat) : Prop :=
  ∀ (H0 : Hp) (P : Par) (G : Hp) (env : Env) (σ : L2.St) (H : Hp) (Q : VK) (c : Nat), P.1.map (·.1) = [k] → StOk K H0 P [k] G env σ H → f env = some c →
    (∀ G' H', Gr H0 G G' → StOk K H0 P [k] G' env σ H' → W (.ref (cl c)) none σ H') → t σ H Q
def EvSE (K : PySem.W.Frag) (k : Nat) (W : WX) (cl : Nat → Addr) (t : TS) (f : Env → Option Nat) : Prop :=
  ∀ (H0 : Hp) (P : Par) (G : Hp) (env : Env) (σ : L2.St) (H : Hp) (E : Ends) (c : Nat), P.1.map (·.1) = [k] → StOk K H0 P [k] G env σ H → f env = some c →
    (∀ G' σ' H' env', Gr H0 G G' → StOk K H0 P [k] G' env' σ' H' → env'[k]? = env[k]? → W (.ref (cl c)) none σ' H') → t E σ H
theorem EvSE.ret {f : Env → Option Nat} (h : EvIE K k W cl te f) : EvSE K k W cl (tRet te) f := fun H0 P G env σ H E c hp ok he hw =>
  h H0 P G env σ H _ c hp ok he fun G' H' g s => hw G' σ H' env g s rfl
theorem EvSE.asg {f : Env → Option Nat} {g : TG} {u : TS} (h : EvIE K k W cl te f) : EvSE K k W cl (tSeq (tAsg te g) u) f := fun H0 P G env σ H E c hp ok he hw =>
  h H0 P G env σ H _ c hp ok he fun G' H' g s => hw G' σ H' env g s rfl
def ifO (qc : Env → R Bool) (a b : Env → Option Nat) : Env → Option Nat := fun e => match qc e with
  | .ok true => a e
  | .ok false => b e
  | _ => none
theorem EvIE.ifx {qc : Env → R Bool} {fa fb : Env → Option Nat} (hc : QT K [k] W cl t qc) (ha : EvIE K k W cl ta fa) (hb : EvIE K k W cl tb fb) : EvIE K k W cl (tIf t ta tb) (ifO qc fa fb) := fun H0 P G env σ H Q c hp ok he hw => by
  unfold ifO at he
  refine hc H0 P G env σ H _ ok ?_
  cases e : qc env with
  | ok b =>
    rw [e] at he
    intro G1 H1 g1
    cases b with
    | true => exact ha H0 P G1 env σ H1 Q c hp (ok.grow g1) he fun G' H' g s => hw G' H' ((g1.gr ok).trans g) s
    | false => exact hb H0 P G1 env σ H1 Q c hp (ok.grow g1) he fun G' H' g s => hw G' H' ((g1.gr ok).trans g) s
  | err c' => rw [e] at he; cases he
  | bad => rw [e] at he; cases he
def callE (F : List D → Option Nat) (k : Nat) (fA : Env → R (List D)) : Env → Option Nat := fun e => match e[k]? with
  | some (some t0) => match fA e with
    | .ok ys => F (t0 :: ys)
    | _ => none
  | _ => none
theorem callE_eq {F : List D → Option Nat} {fA : Env → R (List D)} {e : Env} {c : Nat} (h : callE F k fA e = some c) : ∃ t0 ys, e[k]? = some (some t0) ∧ fA e = .ok ys ∧ F (t0 :: ys) = some c := by
  unfold callE at h
  split at h
  · rename_i t0 h0
    split at h
    · rename_i ys h1
      exact ⟨t0, ys, h0, h1, h⟩
    · cases h
  · cases h
theorem spTE.give {H0 : Hp} {P : Par} {G2 H2 : Hp} {env : Env} {σ : L2.St} {n : Nat} {F : List D → Option Nat} {ys : List V} {db : List D} {t0 : D} {c : Nat} {Q : VK} {E : XK} {p0 : Addr} (ok2 : StOk K H0 P [k] G2 env σ H2) (e0 : σ[k]? = some (some (.ref p0))) (h0 : env[k]? = some (some t0)) (ry : RpA K G2 ys db) (hl : db.length + 1 = n) (hF : F (t0 :: db) = some c)
    (hw : ∀ G' H', Gr H0 G2 G' → StOk K H0 P [k] G' env σ H' → E (.ref (cl c)) none H') : spTE K cl n F (.ref p0 :: ys) H2 Q E := by
  obtain ⟨p, dt, os, hd, e2, cc, hh, fr, cls⟩ := ok2.does (List.mem_singleton.mpr rfl)
  rw [e0] at e2
  cases e2
  rw [h0] at hd
  cases hd
  refine ⟨G2, p0, ys, t0, db, os, c, rfl, ok2.sub, cc, hh, ry, hl, hF, fun G' H' os' dd => ?_⟩
  obtain ⟨gr, ok3⟩ := cls G' H' t0 os' dd
  rw [set_get h0] at ok3
  exact hw G' H' gr ok3
theorem EvIE.call {n : Nat} {F : List D → Option Nat} {fA : Env → R (List D)} (ha : QA K [k] W cl tA fA) (hl : ∀ env r, fA env = .ok r → r.length + 1 = n) : EvIE K k W cl (tCallS (spTE K cl n F) (WE W) (tCons (tVar k) tA)) (callE F k fA) := fun H0 P G env σ H Q c hp ok he hw => by
  obtain ⟨t0, ys, h0, h1, h2⟩ := callE_eq he
  obtain ⟨p0, e0⟩ := ok.adr (List.mem_singleton.mpr rfl)
  refine ⟨.ref p0, e0, ha H0 P G env σ H _ ok ?_⟩
  rw [h1]
  intro G2 H2 vs g2 ry
  exact spTE.give (ok.grow g2) e0 h0 ry (hl _ _ h1) h2 fun G' H' g s => hw G' H' ((g2.gr ok).trans g) s
/-! ### [f, g][i](x, ..) -/
/-! ### x.twin() ahead of what is refused -/
end
/-! ### rules of the text -/
section
variable {X : Cx} {tw own oN oL : List Nat} {cl : Nat → Addr} {k n : Nat} {e c : Expr} {es : List Expr} {ss : List Stmt} {pos pos' : Pos} {W : WX} {tt : TT} {te : TE} {tA : TA} {fA : Env → R (List D)} {f : Env → Option Nat} {fb : Env → R (Fl × Env)} {C : Addr} {Ft F : List D → R (D × D)} {qc : Env → R Bool} {tS tU u : TS}
end
section
variable {X : Cx} {cl : Nat → Addr} {k n : Nat} {e : Expr} {es : List Expr} {fs : List (Addr × (List D → Option Nat))} {pos p q lp sp p3 : Pos} {W : WX} {tt : TT} {ta tb : TE} {fa fb : Env → Option Nat} {tA : TA} {fA : Env → R (List D)}
variable {kk : Nat}
end
section
variable {P : Program} {w : World} {K : PySem.W.Frag} {mg : Str → Option Value} {base : Heap} {cl : Nat → Addr} {js : List Nat}
end
end Hz

/-! sorted(list of pairs of an int and a text), sorted(list of texts) -/
namespace Hz
open PySem PySem.Spec PyProof.Rows L2 L2H
abbrev KL := List (Int ⊕ List Nat)
def kOf (p : Int × Str) : KL := [.inl p.1, .inr p.2.cps.toList]
def sh1 : Nat → Bool := fun i => i == 1
section
variable {prog : Program} {w : World} {A : Around} {E : Value → Shared → Prop} {s : Shared}
def IsPS (h : Heap) (v : Value) (p : Int × Str) : Prop := ∃ a o t u n, v = .ref a ∧ h.get? a = some o ∧ o.cls = .type "tuple" ∧ o.data = .seq #[.int p.1 t, .str p.2 u] n
theorem IsPS.key {h : Heap} {v : Value} {p : Int × Str} (q : IsPS h v p) : PyProof.Rows.tupKey h sh1 v = some (kOf p) := by
  obtain ⟨a, o, t, u, n, rfl, ho, hc, hd⟩ := q
  simp only [PyProof.Rows.tupKey, ho, hd]
  rfl
end
/-! on data -/
section
variable {X : Cx}
end
section
variable {K : PySem.W.Frag} {tw own : List Nat} {W : WX} {cl : Nat → Addr}
end
/-! texts -/
section
variable {K : PySem.W.Frag} {tw own : List Nat} {W : WX} {cl : Nat → Addr}
end
section
variable {X : Cx} {tw own : List Nat} {W : WX} {cl : Nat → Addr} {a : Expr} {p pos : Pos} {ta : TE} {fa : Env → R (D × Env)}
end
end Hz

/-! sorted(set(list of texts)) -/
namespace Hz
open PySem PySem.Spec PyProof.Rows L2 PySem.Froz
section
variable {P : Program} {w : World} {A : Around} {E : Value → Shared → Prop} {s : Shared}
end

/-! sorting of texts in place -/
section
variable {P : Program} {w : World} {A : Around} {E : Value → Shared → Prop} {s : Shared}
end
/-! as rules -/
section
variable {X : Cx}
variable {tw : List Nat} {own : List Nat} {W : WX} {cl : Nat → Addr} {a : Expr} {p p2 q pos : Pos} {ta : TE} {fa : Env → R (D × Env)}
end
end Hz

/-! list.count of texts, sorted(tuple of texts) -/
namespace Hz
open PySem PySem.Spec PyProof.Rows L2
section
variable {X : Cx}
def eqs (k : Str) (v : Value) : Bool := match v with
  | .str x _ => x == k
  | _ => false
theorem eqs_at {k : Str} {t : Tok} {A : Around} {s : Shared} : ∀ {us : List Value} {ss : List Str}, StrsAre us ss → ∀ y ∈ us, SeqAt.EqAt A s y (.str k t) (eqs k y)
  | _, _, .nil => fun y hy => by cases hy
  | _, _, .cons x t' h => fun y hy => by
    rcases List.mem_cons.mp hy with e | e
    · rw [e]
      exact SeqAt.EqAt.str_str x t' k t
    · exact eqs_at h y e
theorem eqs_count {k : Str} : ∀ {us : List Value} {ss : List Str}, StrsAre us ss → us.countP (eqs k) = ss.count k
  | _, _, .nil => rfl
  | _, _, .cons x t h => by
    have ih := eqs_count (k := k) h
    rw [List.countP_cons, List.count_cons, ih] <;> rfl
def rCntS (K : PySem.W.Frag) : V → List V → Hp → VK → Prop := fun x xs H Q => ∃ (p : Addr) (ss : List Str) (k : Str), x = .ref p ∧ xs = [.str k] ∧ SqL K H p (ss.map V.str) ∧ Q (.int (ss.count k : Nat)) H
theorem mt_countS : MtR X "list.count" (rCntS X.K) := by
  intro pins s σ H x xs v us Q I rx rxs h
  obtain ⟨p, ss, k, rfl, rfl, hs, q⟩ := h
  cases rx
  obtain ⟨u, rfl, ru⟩ := rxs.one
  obtain ⟨t, rfl⟩ := ru
  obtain ⟨its, rv, ⟨⟨cls, dd, data, sl⟩, n, ho, hc, hdn, hd⟩, hlen⟩ := I.list hs
  simp only at hc hd
  subst hc hd
  have hi : StrsAre its ss := strsAre_of rv
  refine call_meets PySem.F.slot_list_count ⟨_, ho, rfl⟩ PySem.F.entry_list_count (PySem.F.args_list_count_2 _ _)
    (SeqAt.list_countAt p its.toArray n dd sl (.str k t) (eqs k)) ⟨ho, fun y hy => eqs_at hi y (by simpa using hy), ?_⟩
  have ec : its.toArray.toList.countP (eqs k) = ss.count k := eqs_count hi
  refine ⟨.int (ss.count k : Nat), H, I.tok _, ⟨s.toks, ?_⟩, q⟩
  show Value.int ((its.toArray.toList.countP (eqs k) : Nat) : Int) s.toks = Value.int ((ss.count k : Nat) : Int) s.toks
  rw [ec]
variable {o e : Expr} {apos cpos : Pos} {to te : TE}
def tLCnt (K : PySem.W.Frag) (to te : TE) : TE := fun σ H Q => to σ H fun x H1 => ∃ p xs, x = .ref p ∧ SqL K H1 p xs ∧ te σ H1 fun y H2 => rCntS K x [y] H2 Q
theorem pe_lcnt (ho : PE X o to) (he : PE X e te) (hbase : attributeBase o "count" X.env (eval o X.env) = eval o X.env := by rfl)
    (hfew : ((backTo cpos (starEach [e] X.env)).all (fun x => !x.1) && (backToKw cpos (keywordEach [] X.env)).all (fun x => x.1.isSome) && decide (([e] : List Expr).length + ([] : List Keyword).length + (if ([] : List Keyword).isEmpty then 0 else 1) < 30)) = true := by rfl)
    (hline : (apos.endLine == cpos.line) = true := by rfl) (hs : starEach [e] X.env = (false, eval e X.env) :: starEach [] X.env := by rfl) (hplain : (backTo cpos (starEach [] X.env)).any (·.1) = false := by rfl) :
    PE X (.Call (.Attribute o "count" apos) [e] [] cpos) (tLCnt X.K to te) := by
  refine ⟨fun pins s σ H Q I h => ?_⟩
  refine wpAny_Call_method_late hbase hfew hline rfl (thn (ho.run pins s σ H _ I h) fun v s1 hx => ?_)
  obtain ⟨x, H1, I1, r1, p, xs, rfl, hq, q1⟩ := hx
  cases r1
  obtain ⟨its, rv, ⟨ob, n, hob, hc, hdn, hd⟩, hlen⟩ := I1.list hq
  refine ⟨"list", "list.count", PySem.F.plainAttrs_list, PySem.F.slot_list_count, PySem.F.type_list_count, ⟨ob, hob, hc⟩, fun a z => by cases z; exact ⟨ob, hob, hdn⟩, ?_⟩
  have hA := (pa_cons he pa_nil hs).run cpos pins s1 σ H1 (fun vs H2 => rCntS X.K (.ref p) vs H2 Q) I1 q1
  rw [hs] at hA ⊢
  refine Calls.callWith_builtin (by show (false || (backTo cpos (starEach [] X.env)).any (·.1)) = false; rw [hplain] <;> rfl) (Calls.evalArgs_plain ?_)
  exact thn hA fun us s2 hx => by
    obtain ⟨vs, H2, I2, r2, q2⟩ := hx
    exact mt_countS pins s2 σ H2 (.ref p) vs (.ref p) us Q I2 rfl r2 q2
end
def lcntD : D → D → Option D
  | .list ds, .str z => (strsOf ds).map fun ys => .int (ys.count z : Nat)
  | _, _ => none
def lcntM (a b : Env → R (D × Env)) : Env → R (D × Env) := fun e => (a e).bind fun x => match x.1 with
  | .list ds => (b x.2).bind fun y => (lift (lcntD x.1 y.1)).bind fun d => .ok (d, y.2)
  | _ => .bad
section
variable {K : PySem.W.Frag} {tw : List Nat} {own : List Nat} {W : WX} {cl : Nat → Addr} {ta tb : TE} {fa fb : Env → R (D × Env)}
theorem EvI.lcnt (ha : EvI K tw own W cl ta fa) (hb : EvI K tw own W cl tb fb) : EvI K tw own W cl (tLCnt K ta tb) (lcntM fa fb) := fun H0 P G env σ H Q hp ok ans => by
  refine ha H0 P G env σ H _ hp ok (ans.bind.mono (fun a ha' G1 H1 x g1 ok1 rx => ?_) fun _ h => h)
  obtain ⟨ad, ae⟩ := a
  cases rx <;> first | exact ha'.elim | skip
  rename_i p xs ds h r
  simp only at ha'
  refine ⟨p, xs, rfl, SqL.of (ok1.sub _ _ h), hb H0 P G1 ae σ H1 _ hp ok1 (ha'.bind.mono (fun b hb' G2 H2 y g2 ok2 ry => ?_) fun _ h => h)⟩
  obtain ⟨d, e, q⟩ := ans_lift hb'
  obtain ⟨bd, be⟩ := b
  cases ry <;> first | (cases e; done) | skip
  rename_i z
  obtain ⟨ys, hys, rfl⟩ := Option.map_eq_some_iff.mp (show (strsOf ds).map (fun ys => PyData.int (ys.count z : Nat)) = some d from e)
  have ed := strsOf_eq hys
  subst ed
  have ev := RpA.strs r
  subst ev
  exact ⟨p, ys, z, rfl, rfl, SqL.of (ok2.sub _ _ (g2.1 _ _ h)), q G2 H2 (.int (ys.count z : Nat)) (g1.trans g2) ok2 (.int _)⟩
end
section
variable {X : Cx} {tw own : List Nat} {W : WX} {cl : Nat → Addr} {o e : Expr} {apos cpos : Pos} {to te : TE} {fo fe : Env → R (D × Env)}
theorem de_m_lcnt (ho : DI X tw own W cl o to fo) (he : DI X tw own W cl e te fe) (hbase : attributeBase o "count" X.env (eval o X.env) = eval o X.env := by rfl)
    (hfew : ((backTo cpos (starEach [e] X.env)).all (fun x => !x.1) && (backToKw cpos (keywordEach [] X.env)).all (fun x => x.1.isSome) && decide (([e] : List Expr).length + ([] : List Keyword).length + (if ([] : List Keyword).isEmpty then 0 else 1) < 30)) = true := by rfl)
    (hline : (apos.endLine == cpos.line) = true := by rfl) (hs : starEach [e] X.env = (false, eval e X.env) :: starEach [] X.env := by rfl) (hplain : (backTo cpos (starEach [] X.env)).any (·.1) = false := by rfl) :
    DI X tw own W cl (.Call (.Attribute o "count" apos) [e] [] cpos) (tLCnt X.K to te) (lcntM fo fe) := ⟨pe_lcnt ho.pe he.pe hbase hfew hline hs hplain, EvI.lcnt ho.ev he.ev⟩
end
/-! sorted(tuple of texts) -/
section
variable {X : Cx}
end
section
variable {K : PySem.W.Frag} {tw own : List Nat} {W : WX} {cl : Nat → Addr}
end
section
variable {X : Cx} {tw own : List Nat} {W : WX} {cl : Nat → Addr} {a : Expr} {p pos : Pos} {ta : TE} {fa : Env → R (D × Env)}
end
end Hz

/-! sorted(list of pairs of an int and a tuple of ints) -/
namespace Hz
open PySem PySem.Spec PyProof.Rows L2 L2H
abbrev PT := Int × List Int
section
variable {prog : Program} {w : World} {A : Around} {E : Value → Shared → Prop} {s : Shared}
end
/-! on data -/
section
variable {X : Cx}
end
section
variable {K : PySem.W.Frag} {tw own : List Nat} {W : WX} {cl : Nat → Addr}
end
section
variable {X : Cx} {tw own : List Nat} {W : WX} {cl : Nat → Addr} {a : Expr} {p pos : Pos} {ta : TE} {fa : Env → R (D × Env)}
end
end Hz

/-! x in d.items(), sorted(d.items()), d a dict of ours with numbers for keys and values -/
namespace Hz
open PySem PySem.Spec PyProof.Rows L2 L2H L2.DX
section
variable {X : Cx}
def rItemsK : V → List V → Hp → VK → Prop := fun x xs H Q => ∃ (a : Addr) (kvs : List (Key × V)), x = .ref a ∧ xs = [] ∧ Rd H a (.dK kvs) ∧ ∀ p, H p = none → Q (.ref p) (upd H p (itemsO p a))
theorem mt_itemsK : MtR X "dict.items" rItemsK := by
  intro pins s σ H x xs v us Q I rx rxs h
  obtain ⟨a, kvs, rfl, rfl, ha, q⟩ := h
  cases rx
  cases rxs
  obtain ⟨hz, hs0, vs, kv, o, es, ep, ho, hx, hdat, _⟩ := dk_rd I.hok ha
  refine DT.callItems (es := es) (ep := ep) hs0 ⟨o, ho, hx, hdat⟩ ?_
  have hf : H s.heap.objs.size = none := I.hok.fresh (Nat.le_refl _)
  exact ⟨.ref s.heap.objs.size, upd H s.heap.objs.size (itemsO s.heap.objs.size a), I.laid (t' := s.toks) (fun b u e => Heap.get?_push_of_some _ e) (Nat.le_refl _) (itemsO_ok (Heap.get?_push_size _ rfl)), rfl, q _ hf⟩
end
section
variable {prog : Program} {w : World} {A : Around} {E : Value → Shared → Prop} {s : Shared}
theorem items_contain {p d t : Addr} {i j : Int} {ti tj : Tok} {o : Obj} {n : Nat} {kvs : List (Key × Value)} {Q : Bool → Shared → Prop} (hv : s.heap.IsItemsView p d) (hd : s.heap.DictOf (mixKind prog w) d kvs) (ho : s.heap.get? t = some o) (hc : o.cls = .type "tuple") (hod : o.data = .seq #[.int i ti, .int j tj] n)
    (hi : ∀ v, valueAt kvs (.inl i) = some v → ∃ k tk, v = .int k tk) (h : ∀ s', s' = { s with toks := s.toks + 1 } → Q (match valueAt kvs (.inl i) with
      | some (.int k _) => k == j
      | _ => false) s') : wpAny (model prog w) A (contains (.ref p) (.ref t)) Q E s := by
  refine wpAny_contains_slot hv.typeIs PySem.F.slot_dict_items_contains ?_
  refine wpAny_call_entry PySem.F.slot_dict_items_contains hv.typeIs PySem.F.entry_dict_items_contains ?_ (PySem.F.args_dict_items_contains_2 _ _)
  unfold Builtin.«dict_items.__contains__»
  refine wpAny_bind (wpAny_pure ?_)
  show wpAny _ _ (Builtin.Dict_items.itemsContain (.ref p) (.ref t) >>= fun b => ret (.bool b)) _ _ s
  refine wpAny_bind ?_
  unfold Builtin.Dict_items.itemsContain
  refine wpAny_bind (wpAny_isInstance (T := "tuple") (b := true) ⟨o, ho, hc⟩ (by rw [isSubtype_type]; kernel_rfl) ?_)
  show wpAny _ _ (seqItems? (.ref t) >>= _) _ _ s
  refine wpAny_bind (wpAny_seqItems ho hod ?_)
  show wpAny _ _ (Builtin.Dict_items.dictOf (.ref p) >>= _) _ _ s
  obtain ⟨ov, hov, hcv, hdv⟩ := id hv
  refine wpAny_bind ?_
  unfold Builtin.Dict_items.dictOf
  refine wpAny_bind (wpAny_field hov hdv (x := .ref d) rfl (wpAny_pure ?_))
  refine wpAny_bind (wpAny_dictGet_of (knd := mixKind prog w) (k := .inl i) (show Value.isInt i (.int i ti) = true by simp [Value.isInt]) hd.mapOf ?_)
  have h1 := h _ rfl
  cases hva : valueAt kvs (.inl i) with
  | none =>
    rw [hva] at h1
    exact wpAny_pure (wpAny_pure ⟨_, rfl, wpAny_truthy_bool h1⟩)
  | some v =>
    obtain ⟨k, tk, rfl⟩ := hi v hva
    rw [hva] at h1
    refine wpAny_holding (wpAny_eqBool_int ?_)
    exact wpAny_pure ⟨_, rfl, wpAny_truthy_bool h1⟩
end
section
variable {X : Cx}
def rNotItK (K : PySem.W.Frag) : R2 := fun x y H Q => ∃ (t p a : Addr) (kvs : List (Key × V)) (i j : Int), x = .ref t ∧ SqT K H t [.int i, .int j] ∧ y = .ref p ∧ H p = some (itemsO p a) ∧ Rd H a (.dK kvs) ∧ (∀ v, valV kvs (.inl i) = some v → ∃ k, v = .int k) ∧
  Q (.bl (!(match valV kvs (.inl i) with
    | some (.int k) => decide (k = j)
    | _ => false))) H
theorem op_notItK : OpR X (compareOp .NotIn) (rNotItK X.K) := by
  intro pins s σ H x y v u Q I rx ry h
  obtain ⟨t, p, a, kvs, i, j, rfl, ht, rfl, hp, ha, hi, q⟩ := h
  cases rx
  cases ry
  have view : s.heap.IsItemsView p a := (show ObjOk X.prog X.w H s.heap p (itemsO p a) from I.hok p _ hp).1
  obtain ⟨hz, hs0, vs, kv, hdo⟩ := dk_rd I.hok ha
  obtain ⟨its, r2, ⟨o, ho, hc, n, hd⟩, _⟩ := I.tuple ht
  obtain ⟨u1, u2, rfl, ⟨t1, rfl⟩, ⟨t2, rfl⟩⟩ := vals2 r2
  have hval := kv.val (.inl i)
  show wpAny _ _ (contains (.ref p) (.ref t) >>= fun b => pure (Value.bool (!b))) _ _ s
  refine wpAny_bind (items_contain view hdo ho hc hd (fun v hv => ?_) fun s' hs' => ?_)
  · rw [hv] at hval
    cases hx : valV kvs (.inl i) with
    | none =>
      rw [hx] at hval
      exact (show False from hval).elim
    | some x =>
      rw [hx] at hval
      obtain ⟨k, rfl⟩ := hi x hx
      obtain ⟨tk, e⟩ := (show RelV (.int k) v from hval)
      exact ⟨k, tk, e⟩
  · subst hs'
    refine wpAny_pure ⟨.bl _, H, I.tok _, rfl, ?_⟩
    have e : (match valueAt vs (Sum.inl i) with
      | some (Value.int k tok) => k == j
      | x => false) = (match valV kvs (.inl i) with
      | some (V.int k) => decide (k = j)
      | _ => false) := by
      cases hx : valV kvs (.inl i) with
      | none =>
        rw [hx] at hval
        cases hy : valueAt vs (Sum.inl i) with
        | none => rfl
        | some y =>
          rw [hy] at hval
          exact (show False from hval).elim
      | some x =>
        rw [hx] at hval
        obtain ⟨k, rfl⟩ := hi x hx
        cases hy : valueAt vs (Sum.inl i) with
        | none =>
          rw [hy] at hval
          exact (show False from hval).elim
        | some y =>
          rw [hy] at hval
          obtain ⟨tk, rfl⟩ := (show RelV (.int k) y from hval)
          show (k == j) = decide (k = j)
          rw [Bool.eq_iff_iff]
          simp
    rw [e]
    exact q
end
/-! sorted(d.items()) -/
def putP : Hp → List (Addr × (Int × Int)) → Hp
  | H, [] => H
  | H, z :: zs => upd (putP H zs) z.1 (.tup [.int z.2.1, .int z.2.2])
theorem putP_out {H : Hp} {b : Addr} : ∀ {zs : List (Addr × (Int × Int))}, b ∉ zs.map (·.1) → putP H zs b = H b
  | [], _ => rfl
  | z :: zs, h => by
    rw [List.map_cons, List.mem_cons, not_or] at h
    show upd (putP H zs) z.1 _ b = H b
    rw [upd_ne h.1]
    exact putP_out h.2
theorem putP_at {H : Hp} : ∀ {zs : List (Addr × (Int × Int))}, (zs.map (·.1)).Nodup → ∀ z ∈ zs, putP H zs z.1 = some (.tup [.int z.2.1, .int z.2.2])
  | z0 :: zs, nd, z, hz => by
    rw [List.map_cons, List.nodup_cons] at nd
    show upd (putP H zs) z0.1 _ z.1 = _
    rcases List.mem_cons.mp hz with rfl | hz
    · exact upd_same
    · rw [upd_ne fun e => nd.1 (by rw [← e]; exact List.mem_map_of_mem hz)]
      exact putP_at nd.2 z hz
theorem putP_upd {H : Hp} {l : Addr} {o : HO} : ∀ {zs : List (Addr × (Int × Int))}, l ∉ zs.map (·.1) → putP (upd H l o) zs = upd (putP H zs) l o
  | [], _ => rfl
  | z :: zs, h => by
    rw [List.map_cons, List.mem_cons, not_or] at h
    show upd (putP (upd H l o) zs) z.1 _ = upd (upd (putP H zs) z.1 _) l o
    rw [putP_upd h.2]
    funext b
    by_cases e : b = z.1
    · subst e
      rw [upd_same, upd_ne (Ne.symm h.1), upd_same]
    · rw [upd_ne e]
      by_cases e2 : b = l
      · subst e2
        rw [upd_same, upd_same]
      · rw [upd_ne e2, upd_ne e2, upd_ne e]
def rSortItK : List V → Hp → VK → Prop := fun vs H Q => ∃ (p a : Addr) (ns : List (Int × Int)), vs = [.ref p] ∧ H p = some (itemsO p a) ∧ Rd H a (.dK (ns.map fun q => (.inl q.1, .int q.2))) ∧
  ∀ (l : Addr) (zs : List (Addr × (Int × Int))), zs.map (·.2) = sortPr ns → (zs.map (·.1)).Nodup → (∀ z ∈ zs, H z.1 = none) → H l = none → l ∉ zs.map (·.1) → Q (.ref l) (upd (putP H zs) l (.lst (zs.map fun z => V.ref z.1)))
section
variable {X : Cx}
theorem takeP {pins : List (Addr × Obj)} {σ : L2.St} {H0 : Hp} {s : Shared} {h' : Heap} {tk : Nat} (I0 : Inv X pins σ H0 s) : ∀ (zs : List (Addr × (Int × Int))) (H1 : Hp), Inv X pins σ H1 { s with heap := h', toks := tk } → (zs.map (·.1)).Nodup →
    (∀ z ∈ zs, s.heap.objs.size ≤ z.1 ∧ H1 z.1 = none ∧ ∃ t1 t2, h'.get? z.1 = some { cls := .type "tuple", data := .seq #[.int z.2.1 t1, .int z.2.2 t2] }) → Inv X pins σ (putP H1 zs) { s with heap := h', toks := tk }
  | [], H1, I1, _, _ => I1
  | z :: zs, H1, I1, nd, h => by
    rw [List.map_cons, List.nodup_cons] at nd
    have ih := takeP I0 zs H1 I1 nd.2 fun y hy => h y (List.mem_cons_of_mem _ hy)
    obtain ⟨h1, h2, t1, t2, h3⟩ := h z List.mem_cons_self
    have hn : putP H1 zs z.1 = none := by rw [putP_out nd.1]; exact h2
    exact ih.take (h' := h') (t' := tk) (fun b ob _ e => e) (I0.fpOk h1 hn) ⟨by show 2 ≤ sizeLine; decide, [.int z.2.1 t1, .int z.2.2 t2], .cons ⟨t1, rfl⟩ (.cons ⟨t2, rfl⟩ .nil), ⟨_, h3, rfl, _, rfl⟩⟩
theorem cr_sortItK (hc : X.calm = true) : CallR X (.builtin "sorted") rSortItK := by
  intro pins s σ H vs us Q I r h
  obtain ⟨p, a, ns, rfl, hp, ha, q⟩ := h
  obtain rfl := Vals.ref1 r
  have view : s.heap.IsItemsView p a := (show ObjOk X.prog X.w H s.heap p (itemsO p a) from I.hok p _ hp).1
  obtain ⟨hz, hs0, kvs, kv, hdo⟩ := dk_rd I.hok ha
  obtain ⟨od, es, ep, hod, hex, hdat, _, hprs, _⟩ := hdo
  have lk : ns.length = kvs.length := by
    have := Paired.length kv
    rwa [List.length_map] at this
  have les : es.size = kvs.length := by rw [← hprs.length, Array.length_toList]
  rw [List.length_map] at hz
  refine Calls.call_function_entry kind_sorted plain_sorted entry_sorted (args_sorted1 _) ?_
  unfold Builtin.«sorted»
  refine wpAny_bind (m := checkCount "sorted" 1 1 _) (wpAny_pure ?_)
  refine wpAny_bind (DT.collectI (A := X.A.in1) (es := es) (ep := ep) (I.ok.hd hc) view ⟨od, hod, hex, hdat⟩ (by omega) fun h' tk as hk hlt hl hG => ?_)
  have lak : as.length = ns.length := by omega
  have nd : as.Nodup := List.Pairwise.imp (fun {a b} (h : a < b) => Nat.ne_of_lt h) hG.rise
  have hat2 : ∀ z ∈ as.zip ns, s.heap.objs.size < z.1 ∧ ∃ t1 t2, h'.get? z.1 = some { cls := .type "tuple", data := .seq #[.int z.2.1 t1, .int z.2.2 t2] } := fun z hz' => by
    obtain ⟨j, hj⟩ := List.mem_iff_getElem?.mp hz'
    obtain ⟨j1, j2⟩ := List.getElem?_zip_eq_some.mp hj
    obtain ⟨e, f1, f3⟩ := hG.pairs j z.1 j1
    refine ⟨hG.above _ (List.mem_of_getElem? j1), ?_⟩
    obtain ⟨⟨k, x⟩, g1, g2, g3⟩ := LiI.paired_get kv (i := j) (x := (.inl z.2.1, .int z.2.2)) (by rw [List.getElem?_map, j2]; rfl)
    have g2 : Sum.inl z.2.1 = k := g2
    subst g2
    obtain ⟨f4, f5⟩ := hprs.get? (i := j) (by rw [Array.getElem?_toList]; exact f1) g1
    obtain ⟨t1, e1⟩ := (show RelV (.int z.2.1) e.key from relV_key (k := Sum.inl z.2.1) (show keyIs (.inl z.2.1) e.key = true from f4))
    obtain ⟨t2, e2⟩ := (show RelV (.int z.2.2) x from g3)
    rw [e1, f5, e2] at f3
    exact ⟨t1, t2, f3⟩
  have hvl : (as.map Value.ref).length ≤ sizeLine := by rw [List.length_map, lak]; exact hz
  refine wpAny_bind (wpAny_newList ?_ hvl)
  have hzip : as.map Value.ref = (as.zip ns).map fun z => Value.ref z.1 := by
    have e : (as.zip ns).map (·.1) = as := List.map_fst_zip (by omega)
    rw [← e, List.map_map]
    exact congrArg (List.map _) (by rw [e])
  generalize hvs : as.map Value.ref = vs at *
  have hoL : (h'.push (seqObj "list" vs.toArray 0)).get? h'.objs.size = some (seqObj "list" vs.toArray 0) := Heap.get?_push_size _ rfl
  have fn : ∀ z ∈ as.zip ns, ∀ y ∈ as.zip ns, z.1 = y.1 → z.2 = y.2 := fun z hz1 y hy1 e => by
    obtain ⟨j, hj⟩ := List.mem_iff_getElem?.mp hz1
    obtain ⟨i, hi⟩ := List.mem_iff_getElem?.mp hy1
    obtain ⟨j1, j2⟩ := List.getElem?_zip_eq_some.mp hj
    obtain ⟨i1, i2⟩ := List.getElem?_zip_eq_some.mp hi
    have : j = i := by
      rw [e, ← i1] at j1
      exact (List.getElem?_inj (lt_of_get (j1.trans i1)) nd).mp j1
    subst this
    rw [j2] at i2
    exact Option.some.inj i2
  let k : Value → Int × Int := fun v => match v with
    | .ref b => (((as.zip ns).find? fun z => decide (z.1 = b)).map (·.2)).getD (0, 0)
    | _ => (0, 0)
  have hkz : ∀ z ∈ as.zip ns, k (.ref z.1) = z.2 := fun z hz1 => by
    show (((as.zip ns).find? fun y => decide (y.1 = z.1)).map (·.2)).getD (0, 0) = z.2
    cases hf : (as.zip ns).find? fun y => decide (y.1 = z.1) with
    | none =>
      rw [List.find?_eq_none] at hf
      exact absurd (hf z hz1) (by simp)
    | some y =>
      have h1 := List.find?_some hf
      have h2 := List.mem_of_find?_eq_some hf
      exact fn y h2 z hz1 (by simpa using h1)
  have up : ∀ b u, h'.get? b = some u → (h'.push (seqObj "list" vs.toArray 0)).get? b = some u := fun b u e => Heap.get?_push_of_some _ e
  have hpair : ∀ v ∈ vs, Srt.IsPair (h'.push (seqObj "list" vs.toArray 0)) v (k v).1 (k v).2 := fun v hv => by
    rw [hzip] at hv
    obtain ⟨z, hz1, rfl⟩ := List.mem_map.mp hv
    obtain ⟨_, t1, t2, e⟩ := hat2 z hz1
    rw [hkz z hz1]
    exact ⟨z.1, _, t1, t2, 0, rfl, up _ _ e, rfl, rfl⟩
  have swo : SrtO.Swo fun v u => SrtO.lexB (k v) (k u) := SrtO.swo_lex k
  refine wpAny_bind (wpAny_holding (wpAny_call_entry slot_list_sort ⟨_, hoL, rfl⟩ entry_list_sort (SrtO.list_sort_ord (s := { s with heap := h'.push (seqObj "list" vs.toArray 0), toks := tk }) swo hoL hvl (fun h2 => SrtO.pairs_sortableO (s := { s with heap := h'.push (seqObj "list" vs.toArray 0), toks := tk }) (by omega) hpair fun o e => ?_) fun out a1 a2 => ⟨_, rfl, ?_⟩) (args_list_sort _)))
  · have e' : some o = some (seqObj "list" vs.toArray 0) := e.symm.trans hoL
    cases e'
    intro c
    exact absurd (Value.type.inj c) (by decide)
  obtain ⟨c, hc2⟩ := sortedHeap_at (vs := vs) (out := out.toArray) hoL
  have hb : out.Perm ((as.zip ns).map fun z => Value.ref z.1) := by rw [← hzip]; exact a2.perm
  obtain ⟨zs, pz, ez⟩ := L2.perm_lift (fun z : Addr × (Int × Int) => Value.ref z.1) hb (as.zip ns) rfl
  have hmem : ∀ z ∈ zs, z ∈ as.zip ns := fun z hz1 => pz.mem_iff.mp hz1
  have e1 : (as.zip ns).map (·.1) = as := List.map_fst_zip (by omega)
  have e2 : (as.zip ns).map (·.2) = ns := List.map_snd_zip (by omega)
  have zsort : zs.map (·.2) = sortPr ns := by
    have pp := pz.map (·.2)
    rw [e2] at pp
    refine sorted_uniq (pp.trans (sortPr_perm _).symm) ?_ (sortPr_sorted _)
    rw [← ez] at a1
    rw [List.pairwise_map]
    refine List.Pairwise.imp_of_mem (fun {x y} hx hy hle => ?_) (List.pairwise_map.mp a1)
    have hle : SrtO.lexB (k (.ref y.1)) (k (.ref x.1)) = false := hle
    rw [hkz x (hmem x hx), hkz y (hmem y hy)] at hle
    have h4 := SrtO.lexB_no.mp hle
    rw [leP_iff]
    omega
  have znd : (zs.map (·.1)).Nodup := by
    have pp := pz.map (·.1)
    rw [e1] at pp
    exact pp.nodup_iff.mpr nd
  have hsz : ∀ z ∈ zs, z.1 < h'.objs.size := fun z hz1 => by
    obtain ⟨_, t1, t2, e⟩ := hat2 z (hmem z hz1)
    exact Heap.lt_size e
  have hlt0 : s.heap.objs.size ≤ h'.objs.size := Nat.le_of_lt hlt
  have kp : ∀ b u, h'.get? b = some u → (sortedHeap (h'.push (seqObj "list" vs.toArray 0)) h'.objs.size vs out.toArray).get? b = some u := fun b u e => by
    have hlt := Heap.lt_size e
    rw [sortedHeap_old (Nat.ne_of_lt hlt) (by rw [size_push']; exact Nat.lt_succ_of_lt hlt)]
    exact Heap.get?_push_of_some _ e
  have hln : H h'.objs.size = none := I.hok.fresh hlt0
  have hout : h'.objs.size ∉ zs.map (·.1) := fun z => by
    obtain ⟨y, hy, e⟩ := List.mem_map.mp z
    have e : y.1 = h'.objs.size := e
    have h9 : y.1 < h'.objs.size := hsz y hy
    exact Nat.lt_irrefl _ (e ▸ h9)
  have hzn : ∀ z ∈ zs, H z.1 = none := fun z hz1 => I.hok.fresh (Nat.le_of_lt (hat2 z (hmem z hz1)).1)
  have I2 : Inv X pins σ (upd H h'.objs.size (.lst (zs.map fun z => V.ref z.1))) { s with heap := sortedHeap (h'.push (seqObj "list" vs.toArray 0)) h'.objs.size vs out.toArray, toks := tk } := by
    refine I.laid (t' := tk) (fun b u e => kp b u (hk b u e)) hlt0 ⟨?_, out, c, ?_, hc2⟩
    · rw [List.length_map, pz.length_eq, List.length_zip]
      omega
    · rw [← ez]
      have : ∀ l : List (Addr × (Int × Int)), Vals (l.map fun z => V.ref z.1) (l.map fun z => Value.ref z.1) := fun l => by
        induction l with
        | nil => exact .nil
        | cons z l ih => exact .cons rfl ih
      exact this zs
  have I3 := takeP I zs _ I2 znd fun z hz1 => by
    obtain ⟨g1, t1, t2, g2⟩ := hat2 z (hmem z hz1)
    refine ⟨Nat.le_of_lt g1, ?_, t1, t2, kp _ _ g2⟩
    rw [upd_ne (fun e => hout (by rw [← e]; exact List.mem_map_of_mem hz1))]
    exact hzn z hz1
  rw [putP_upd hout] at I3
  exact wpAny_pure ⟨_, rfl, .ref h'.objs.size, _, I3, rfl, q _ zs zsort znd hzn hln hout⟩
end
/-! as data -/
theorem growP {G H : Hp} (sub : Same G H) : ∀ zs : List (Addr × (Int × Int)), (zs.map (·.1)).Nodup → (∀ z ∈ zs, H z.1 = none) → Grow G H (putP G zs) (putP H zs)
  | [], _, _ => Grow.refl sub
  | z :: zs, nd, h => by
    rw [List.map_cons, List.nodup_cons] at nd
    have ih := growP sub zs nd.2 fun y hy => h y (List.mem_cons_of_mem _ hy)
    exact ih.trans (Grow.lay ih.gh (by rw [putP_out nd.1]; exact h z List.mem_cons_self))
def prsK : List (D × D) → Option (List (Int × Int))
  | [] => some []
  | (.int a, .int b) :: ds => (prsK ds).map ((a, b) :: ·)
  | _ => none
def prVs (ns : List (Int × Int)) : List (Key × V) := ns.map fun q => (.inl q.1, .int q.2)
def lookP : List (Int × Int) → Int → Option Int
  | [], _ => none
  | q :: ns, i => if q.1 = i then some q.2 else lookP ns i
theorem valV_prs (i : Int) : ∀ ns : List (Int × Int), valV (prVs ns) (.inl i) = (lookP ns i).map V.int
  | [] => rfl
  | q :: ns => by
    have ih := valV_prs i ns
    unfold prVs valV at ih ⊢
    unfold lookP
    rw [List.map_cons, List.find?_cons]
    by_cases e : q.1 = i
    · simp [e]
    · rw [if_neg e]
      rw [show decide ((Sum.inl q.1 : Key) = Sum.inl i) = false by simp [e]]
      exact ih
def notItD : D → D → Option D
  | .tuple [.int i, .int j], .dict ds => (prsK ds).map fun ns => .bool (!(decide (lookP ns i = some j)))
  | _, _ => none
def sortItD : D → Option D
  | .dict ds => (prsK ds).map fun ns => .list ((sortPr ns).map prD)
  | _ => none
section
variable {K : PySem.W.Frag} {tw own : List Nat} {W : WX} {cl : Nat → Addr}
theorem rpk_prs {G : Hp} : ∀ {kvs : List (Key × V)} {ds : List (D × D)} {ns : List (Int × Int)}, RpK K G kvs ds → prsK ds = some ns → kvs = prVs ns
  | _, _, ns, .nil, h => by
    cases h
    rfl
  | _, _, ns, .cons (k := k) (d := d) (ds := ds) r t, h => by
    cases k with
    | inr x => cases d <;> cases h
    | inl a =>
      cases d with
      | int b =>
        obtain ⟨m, h1, rfl⟩ := Option.map_eq_some_iff.mp (show (prsK ds).map ((a, b) :: ·) = some ns from h)
        cases r
        rw [rpk_prs t h1]
        rfl
      | _ => cases h
theorem rp_prs {G : Hp} {y : V} {ds : List (D × D)} {ns : List (Int × Int)} (r : Rp K G y (.dict ds)) (h : prsK ds = some ns) : ∃ a, y = .ref a ∧ Rd G a (.dK (prVs ns)) := by
  cases r with
  | dic h1 a1 =>
    rw [rpk_prs a1 h] at h1
    exact ⟨_, rfl, h1⟩
  | dit h1 a1 => cases h
  | scr h1 => cases h
  | ins _ _ _ => cases h
  | rcd _ _ => cases h
def tItems (to : TE) : TE := fun σ H Q => to σ H fun x H1 => rItemsK x [] H1 Q
theorem notItD_inv {x y d : D} (e : notItD x y = some d) : ∃ i j ds ns, x = .tuple [.int i, .int j] ∧ y = .dict ds ∧ prsK ds = some ns ∧ d = .bool (!(decide (lookP ns i = some j))) := by
  unfold notItD at e
  split at e
  · obtain ⟨ns, hn, rfl⟩ := Option.map_eq_some_iff.mp e
    exact ⟨_, _, _, ns, rfl, rfl, hn, rfl⟩
  · cases e
theorem sortItD_inv {x d : D} (e : sortItD x = some d) : ∃ ds ns, x = .dict ds ∧ prsK ds = some ns ∧ d = .list ((sortPr ns).map prD) := by
  unfold sortItD at e
  split at e
  · obtain ⟨ns, hn, rfl⟩ := Option.map_eq_some_iff.mp e
    exact ⟨_, ns, rfl, hn, rfl⟩
  · cases e
theorem rp_tup2 {G : Hp} {x : V} {i j : Int} (r : Rp K G x (.tuple [.int i, .int j])) : ∃ t, x = .ref t ∧ SqT K G t [.int i, .int j] := by
  cases r with
  | tup h1 r1 n1 =>
    have ev := RpA.ints (ns := [i, j]) r1
    subst ev
    exact ⟨_, rfl, h1⟩
theorem EvI.notIt {ta tb : TE} {fa fb : Env → R (D × Env)} (ha : EvI K tw own W cl ta fa) (hb : EvI K tw own W cl tb fb) : EvI K tw own W cl (tOp (rNotItK K) ta (tItems tb)) (Hz.op2 notItD fa fb) := fun H0 P G env σ H Q hp ok ans => by
  refine ha H0 P G env σ H _ hp ok (ans.bind.mono (fun a ha' G1 H1 x g1 ok1 rx => ?_) fun _ h => h)
  refine hb H0 P G1 _ σ H1 _ hp ok1 (ha'.bind.mono (fun b hb' G2 H2 y g2 ok2 ry => ?_) fun _ h => h)
  obtain ⟨d, e, q⟩ := ans_lift hb'
  obtain ⟨a1, a2⟩ := a
  obtain ⟨b1, b2⟩ := b
  have rx := rx.mono g2.1
  obtain ⟨i, j, ds, ns, rfl, rfl, hn, rfl⟩ := notItD_inv e
  obtain ⟨p, rfl, hr⟩ := rp_prs (show Rp K G2 y (.dict ds) from ry) hn
  obtain ⟨t, rfl, h1⟩ := rp_tup2 (show Rp K G2 x (.tuple [.int i, .int j]) from rx)
  refine ⟨p, _, rfl, rfl, Same.rd ok2.sub hr, fun z nz => ?_⟩
  have gr : Grow G2 H2 G2 (upd H2 z (itemsO z p)) := Grow.drop ok2.sub nz
  have ok3 := ok2.grow gr
  refine ⟨t, z, p, _, i, j, rfl, Same.sqT ok3.sub h1, rfl, upd_same, Same.rd ok3.sub hr, fun v hv => ?_, ?_⟩
  · rw [valV_prs] at hv
    obtain ⟨k, _, rfl⟩ := Option.map_eq_some_iff.mp hv
    exact ⟨k, rfl⟩
  · have e2 : (match valV (prVs ns) (.inl i) with
      | some (.int k) => decide (k = j)
      | _ => false) = decide (lookP ns i = some j) := by
      rw [valV_prs]
      cases lookP ns i with
      | none => simp
      | some k => simp
    rw [e2]
    exact q G2 _ (.bl _) (g1.trans (g2.trans (gr.gr ok2))) ok3 (.bl _)
theorem rpA_pr {G : Hp} : ∀ {zs : List (Addr × (Int × Int))}, (∀ z ∈ zs, Rp K G (.ref z.1) (prD z.2)) → RpA K G (zs.map fun z => V.ref z.1) ((zs.map (·.2)).map prD)
  | [], _ => .nil
  | z :: zs, h => .cons (h z List.mem_cons_self) (rpA_pr fun y hy => h y (List.mem_cons_of_mem _ hy))
theorem EvN.sortIt {ta : TE} {fa : Env → R (D × Env)} (ha : EvI K tw own W cl ta fa) : EvN K tw own W cl (tCB rSortItK (tCons (tItems ta) tNil)) (Hz.op1 sortItD fa) := fun H0 P G env σ H Q hp ok ans => by
  refine ha H0 P G env σ H _ hp ok (ans.bind.mono (fun b hb G1 H1 x g1 ok1 rx => ?_) fun _ h => h)
  obtain ⟨d, e, qq⟩ := ans_lift hb
  obtain ⟨b1, b2⟩ := b
  obtain ⟨ds, ns, rfl, hn, rfl⟩ := sortItD_inv e
  obtain ⟨p, rfl, hr⟩ := rp_prs (show Rp K G1 x (.dict ds) from rx) hn
  refine ⟨p, _, rfl, rfl, Same.rd ok1.sub hr, fun z nz => ?_⟩
  have gr : Grow G1 H1 G1 (upd H1 z (itemsO z p)) := Grow.drop ok1.sub nz
  have ok2 := ok1.grow gr
  show rSortItK [.ref z] (upd H1 z (itemsO z p)) Q
  refine ⟨z, p, ns, rfl, upd_same, Same.rd ok2.sub hr, fun l zs hz nd hf nl no => ?_⟩
  have gp := growP ok2.sub zs nd hf
  have ok3 := ok2.grow gp
  have nl3 : putP (upd H1 z (itemsO z p)) zs l = none := by rw [putP_out no]; exact nl
  refine qq _ _ l _ (g1.trans ((gr.gr ok1).trans (gp.gr ok2))) ok3 nl3 ⟨ok3.sub.free nl3, .inl ⟨_, _, rfl, upd_same, ?_⟩⟩
  rw [← hz]
  refine rpA_pr fun y hy => ?_
  have h1 : putP G1 zs y.1 = some (.tup [.int y.2.1, .int y.2.2]) := putP_at nd y hy
  exact .tup (.of h1) (RpA.of_ints [y.2.1, y.2.2]) ⟨fun z => absurd z (by simp [needN]), fun _ => h1⟩
end
section
variable {X : Cx} {tw own oL : List Nat} {W : WX} {cl : Nat → Addr} {a b o : Expr} {p pos q apos : Pos} {ta tb to : TE} {fa fb : Env → R (D × Env)}
theorem pe_items (ho : PE X o to) (hbase : attributeBase o "items" X.env (eval o X.env) = eval o X.env := by rfl) (hline : (apos.endLine == q.line) = true := by rfl) : PE X (.Call (.Attribute o "items" apos) [] [] q) (tItems to) := by
  refine ⟨fun pins s σ H Q I h => ?_⟩
  refine wpAny_Call_method0_late hbase hline (thn (ho.run pins s σ H _ I h) fun v s1 ⟨x, H1, I1, r1, q1⟩ => ?_)
  have h12 : s1.TypeIs v "dict" ∧ ∀ a, v = .ref a → ∃ ob, s1.heap.get? a = some ob ∧ ob.dict = none := by
    obtain ⟨a, kvs, rfl, _, ha, _⟩ := q1
    cases r1
    obtain ⟨_, _, _, _, ob, _, _, e, ex, _⟩ := dk_rd I1.hok ha
    refine ⟨⟨ob, e, ex.1⟩, fun a e2 => ?_⟩
    cases e2
    exact ⟨ob, e, ex.2.1⟩
  exact ⟨"dict", "dict.items", PySem.F.plainAttrs_dict, PySem.F.slot_dict_items, PySem.F.type_dict_items, h12.1, h12.2, Calls.callWith_builtin rfl (PySem.evalArgs_none (mt_itemsK pins s1 σ H1 x [] v [] Q I1 r1 .nil q1))⟩
theorem de_notIt (ha : DI X tw own W cl a ta fa) (hb : DI X tw own W cl o tb fb) (hbase : attributeBase o "items" X.env (eval o X.env) = eval o X.env := by rfl) (hline : (apos.endLine == q.line) = true := by rfl)
    (hm : behindInMarks .NotIn (.Call (.Attribute o "items" apos) [] [] q) = false := by first | exact nomark _ | rfl) : DI X tw own W cl (.Compare a [.NotIn] [.Call (.Attribute o "items" apos) [] [] q] pos) (tOp (rNotItK X.K) ta (tItems tb)) (op2 notItD fa fb) :=
  ⟨pe_cmpR op_notItK ha.pe (pe_items hb.pe hbase hline) hm, EvI.notIt ha.ev hb.ev⟩
theorem dt_notIt (ha : DI X tw own W cl a ta fa) (hb : DI X tw own W cl o tb fb) (hbase : attributeBase o "items" X.env (eval o X.env) = eval o X.env := by rfl) (hline : (apos.endLine == q.line) = true := by rfl)
    (hm : behindInMarks .NotIn (.Call (.Attribute o "items" apos) [] [] q) = false := by first | exact nomark _ | rfl) : DT X tw own W cl (.Compare a [.NotIn] [.Call (.Attribute o "items" apos) [] [] q] pos) (tTest (tOp (rNotItK X.K) ta (tItems tb))) (tstD (op2 notItD fa fb)) :=
  ⟨pt_cmpR op_notItK ha.pe (pe_items hb.pe hbase hline) hm, EvT.tst (EvI.notIt ha.ev hb.ev)⟩
theorem dn_sortIt (hms : X.mg "sorted" = none) (ha : DI X tw own W cl a ta fa) (hc : X.calm = true := by rfl) (hg : Gl X "sorted" := by rfl)
    (hbase : attributeBase a "items" X.env (eval a X.env) = eval a X.env := by rfl) (hline : (apos.endLine == q.line) = true := by rfl)
    (nb : starEach [.Call (.Attribute a "items" apos) [] [] q] X.env = (false, eval (.Call (.Attribute a "items" apos) [] [] q) X.env) :: starEach [] X.env := by rfl)
    (h2 : (backTo pos (starEach [] X.env)).any (·.1) = false := by rfl) :
    DN X tw own W cl (.Call (.Name "sorted" p) [.Call (.Attribute a "items" apos) [] [] q] [] pos) (tCB rSortItK (tCons (tItems ta) tNil)) (op1 sortItD fa) :=
  ⟨pe_callB (cr_sortItK hc) hg hms boot_sorted (pa_cons (pe_items ha.pe hbase hline) pa_nil nb) (by decide) (by decide) nb h2, EvN.sortIt ha.ev⟩
end
end Hz

/-! for x in l, l a list of ours that the block does not change -/
namespace Hz
open PySem PySem.Spec PyProof.Rows L2 L2H
def ownI (e : Env) (i : Nat) : Option (List Int) := (ownL e i).bind intsOf
def loopO (i a : Nat) (b : Env → R (Fl × Env)) (all : List Int) : List Int → Env → R (Fl × Env)
  | [], e => .ok (.nx, e)
  | x :: xs, e => (b (e.set a (some (.int x)))).bind fun r => match r.1 with
    | .nx => if ownI r.2 i = some all then loopO i a b all xs r.2 else .bad
    | _ => .bad
def forOwnS (i a : Nat) (b : Env → R (Fl × Env)) : Env → R (Fl × Env) := fun e => (lift (ownI e i)).bind fun ns => loopO i a b ns ns e
section
variable {K : PySem.W.Frag} {H0 : Hp} {P : Par} {own oL tw : List Nat} {G H : Hp} {env : Env} {σ : L2.St} {W : WX} {cl : Nat → Addr}
theorem own_ints {i : Nat} {ns : List Int} (ok : StOk K H0 P own G env σ H) (hi : i ∈ own) (h : ownI env i = some ns) : ∃ p, σ[i]? = some (some (.ref p)) ∧ SqL K H p (ns.map V.int) := by
  obtain ⟨ds, h1, h2⟩ := Option.bind_eq_some_iff.mp h
  obtain ⟨p, vs, e1, e2, _, r⟩ := own_list ok hi h1
  rw [intsOf_eq h2] at r
  rw [RpA.ints r] at e2
  exact ⟨p, e1, SqL.of e2⟩
theorem EvS.forOwn {i a : Nat} {tb : TS} {b : Env → R (Fl × Env)} (hi : i ∈ own) (ha : a ∉ own) (hb : EvS K tw own own own W cl tb b) (hk : KeepS tb) : EvS K tw own own oL W cl (tFor (iList K (tVar i)) (gName a) tb) (forOwnS i a b) := EvS.of fun H0 P G env σ H E hp ok ans => by
  have hia : a ≠ i := fun z => ha (z ▸ hi)
  unfold forOwnS at ans
  obtain ⟨ns, en, ans⟩ := ans_lift ans
  obtain ⟨p, hs, hq⟩ := own_ints ok hi en
  refine ⟨.ref p, hs, p, rfl, ⟨_, hq⟩, ?_⟩
  let Pv : Nat → L2.St → Hp → Prop := fun k σ' H' => σ'[i]? = some (some (.ref p)) ∧ ∃ G' e', Gr H0 G G' ∧ StOk K H0 P own G' e' σ' H' ∧ ownI e' i = some ns ∧
      Ans (loopO i a b ns (ns.drop k) e') (Aft K tw own oL H0 P G E) (fun c => ∀ (σ' : L2.St) (H' : Hp), σ'.length = P.2 → Frm H0 P H' → W (.ref (cl c)) none σ' H')
  refine for_list (xs := ns.map V.int) Pv ⟨hs, G, env, Gr.refl, ok, en, by rw [List.drop_zero]; exact ans⟩ (fun k σ' H' hk' h => ?_) (fun k x σ' H' hx h => ?_) fun σ' H' h => ?_
  · obtain ⟨h1, G', e', _, ok', en', _⟩ := h
    obtain ⟨p', hs', hq'⟩ := own_ints ok' hi en'
    rw [h1] at hs'
    cases hs'
    exact hq'
  · obtain ⟨h1, G', e', g', ok', en', an⟩ := h
    rw [List.getElem?_map, Option.map_eq_some_iff] at hx
    obtain ⟨y, hy, rfl⟩ := hx
    obtain ⟨hlt, hy⟩ := List.getElem?_eq_some_iff.mp hy
    rw [List.drop_eq_getElem_cons hlt, hy] at an
    unfold loopO at an
    show tb _ (σ'.set a (some (.int y))) H'
    rw [hk _ { E with nx := fun σ2 H2 => σ2 = σ'.set a (some (.int y)) → Pv (k + 1) (σ'.set a (some (.int y))) H2 } (σ'.set a (some (.int y))) (by
      funext H2
      exact propext ⟨fun h _ => h, fun h => h rfl⟩)]
    refine hb H0 P G' _ _ H' _ hp (ok'.set (.int y) ha) (an.bind.mono (fun r hr => ?_) fun c h => h)
    obtain ⟨fl, e1⟩ := r
    cases fl with
    | nx =>
      intro G2 σ2 H2 g2 s2 hσ
      subst hσ
      refine ⟨by rw [List.getElem?_set_ne hia]; exact h1, G2, e1, g'.trans g2, s2, ?_⟩
      have hr : Ans (if ownI e1 i = some ns then loopO i a b ns (ns.drop (k + 1)) e1 else .bad) _ _ := hr
      by_cases z : ownI e1 i = some ns
      · rw [if_pos z] at hr
        exact ⟨z, hr⟩
      · rw [if_neg z] at hr
        exact hr.elim
    | rt d => exact hr.elim
    | bk => exact hr.elim
    | ct => exact hr.elim
  · obtain ⟨h1, G', e', g', ok', en', an⟩ := h
    rw [List.length_map, List.drop_length] at an
    unfold loopO at an
    exact an G' σ' H' g' ok'
end
section
variable {X : Cx} {tw own oL : List Nat} {W : WX} {cl : Nat → Addr} {body : List Stmt} {tg : Expr} {tb : TS} {b : Env → R (Fl × Env)} {pos p1 : Pos}
theorem ds_forOwn (i a : Nat) {x : Str} {sl : List Nat} {gb : D → Env → Option Env} (hp : PassesOwn (model X.prog X.w) X.A X.env X.xe) (hg : DG X own sl tg (gName a) gb) (hx : PE X (.Name x p1) (tVar i)) (h1 : DSs X tw own own own W cl body tb b) (hk : KeepS tb)
    (hi : i ∈ own := by decide) (ha : a ∉ own := by decide) (hc : X.calm = true := by rfl) (hs : ∀ x', foldedSetIterable (.Name x p1) X.env x' = pure x' := by intro _; rfl) :
    DS X tw own own oL W cl (.For tg (.Name x p1) body [] pos) (tFor (iList X.K (tVar i)) (gName a) tb) (forOwnS i a b) :=
  ⟨ps_for hp hc (pi_list hx) hg.pg h1.pe hs, EvS.forOwn hi ha h1.ev hk⟩
end
end Hz

namespace Hz
open PySem PySem.Spec PyProof.Rows L2
def scrV (ns : List Int) : D := .dict [(.none, .list (ns.map PyData.int))]
end Hz

namespace Hz
open PySem PySem.Spec PyProof.Rows L2
def b_is_whole : Env → R (Fl × Env) := retS (andV (op1 (isiD "int") (varD 0)) (andV (notV (op1 (isiD "bool") (varD 0))) (chainD leD leD (varD 1) (varD 0) (varD 2))))
def d_is_whole (ds : List D) : R D := fin (b_is_whole (env0 3 ds))
def b_with_rests : Env → R (Fl × Env) := seqS (setO 1 (lstD (nilA))) (seqS (forS (seqI (varD 0)) (bName 2) (extS 1 (lstD (consA (varD 2) (consA (cD (.str "rest")) (nilA)))))) (retS (varD 1)))
def d_with_rests (ds : List D) : R D := fin (b_with_rests (env0 3 ds))
def b_far_of : Env → R (Fl × Env) := seqS (setS 2 (cD (.int 0))) (seqS (whileS (andT (tstD (op2 neD (varD 1) (cD (.int 0)))) (tstD (op2 leD (varD 2) (opN lenD (consA (varD 0) (nilA)))))) (seqS (setS 1 (op2 idxD (varD 0) (op2 subD (varD 1) (cD (.int 1))))) (setS 2 (op2 addD (varD 2) (cD (.int 1)))))) (retS (ifD (tstD (op2 eqD (varD 1) (cD (.int 0)))) (varD 2) (cD .none))))
def d_far_of (ds : List D) : R D := fin (b_far_of (env0 3 ds))
def b_below : Env → R (Fl × Env) := retS (compD (argI rng2 (consA (cD (.int 1)) (consA (op2 addD (opN lenD (consA (varD 0) (nilA))) (cD (.int 1))) (nilA)))) [2] (bName 2) (tstD (op2 eqD (op2 idxD (varD 0) (op2 subD (varD 2) (cD (.int 1)))) (varD 1))) (varD 2))
def d_below (ds : List D) : R D := fin (b_below (env0 3 ds))
def b_seen_from : Env → R (Fl × Env) := retS (opN sortedD (consA (compD (seqI (varD 0)) [2] (bName 2) (tstD (op2 inD (varD 1) (varD 2))) (op2 subD (opN sumT (consA (varD 2) (nilA))) (varD 1))) (nilA)))
def d_seen_from (ds : List D) : R D := fin (b_seen_from (env0 3 ds))
def b_law_cell_at : Env → R (Fl × Env) := seqS (ifS (tstD (op2 ltD (varD 1) (opN lenD (consA (varD 0) (nilA))))) (retS (op2 idxD (varD 0) (varD 1))) (nextS)) (seqS (ifS (tstD (op2 eqD (varD 0) (lstD (nilA)))) (retS (cD (.int 0))) (nextS)) (retS (op2 addD (op2 mulD (op2 idxD (varD 0) (op2 modD (varD 1) (opN lenD (consA (varD 0) (nilA))))) (cD (.int 31))) (varD 1))))
def d_law_cell_at (ds : List D) : R D := fin (b_law_cell_at (env0 2 ds))
def b_law_near : Env → R (Fl × Env) := retS (compD (argI rng1 (consA (cD (.int 8)) (nilA))) [2] (bName 2) (andT (tstD (op2 inD (tupD (consA (opN minD (consA (varD 1) (consA (varD 2) (nilA)))) (consA (opN maxD (consA (varD 1) (consA (varD 2) (nilA)))) (nilA)))) (varD 0))) (tstD (op2 neD (varD 2) (varD 1)))) (varD 2))
def d_law_near (ds : List D) : R D := fin (b_law_near (env0 3 ds))
def b_is_sign : Env → R (Fl × Env) := retS (orV (callP d_is_whole (consA (varD 0) (consA (cD (.int 0)) (consA (cD (.int 11)) (nilA))))) (andV (op1 (isiD "str") (varD 0)) (op2 inD (varD 0) (cD (.tuple [.str "begin", .str "end", .str "halt", .str "spell", .str "strike", .str "word"])))))
def d_is_sign (ds : List D) : R D := fin (b_is_sign (env0 1 ds))
def b_is_tree : Env → R (Fl × Env) := seqS (ifS (orT (notT (tstD (op1 (isiD "tuple") (varD 0)))) (notT (tstD (chainD leD ltD (cD (.int 1)) (opN lenD (consA (varD 0) (nilA))) (cD (.int 8)))))) (retS (cD (.bool false))) (nextS)) (seqS (ifS (notT (tstD (opN allD (consA (compD (seqI (varD 0)) [1] (bName 1) (yesT) (callP d_is_whole (consA (varD 1) (consA (cD (.int 0)) (consA (opN lenD (consA (varD 0) (nilA))) (nilA)))))) (nilA))))) (retS (cD (.bool false))) (nextS)) (retS (opN allD (consA (compD (argI rng1 (consA (op2 addD (opN lenD (consA (varD 0) (nilA))) (cD (.int 1))) (nilA))) [1] (bName 1) (yesT) (op2 isNotD (callP d_far_of (consA (varD 0) (consA (varD 1) (nilA)))) (cD .none))) (nilA)))))
def d_is_tree (ds : List D) : R D := fin (b_is_tree (env0 2 ds))
def b_all_leaves : Env → R (Fl × Env) := retS (compD (argI rng2 (consA (cD (.int 1)) (consA (op2 addD (opN lenD (consA (varD 0) (nilA))) (cD (.int 1))) (nilA)))) [1] (bName 1) (tstD (op2 eqD (callP d_below (consA (varD 0) (consA (varD 1) (nilA)))) (lstD (nilA)))) (varD 1))
def d_all_leaves (ds : List D) : R D := fin (b_all_leaves (env0 2 ds))
def b_greatest_far : Env → R (Fl × Env) := retS (opN maxD (consA (compD (argI rng1 (consA (op2 addD (opN lenD (consA (varD 0) (nilA))) (cD (.int 1))) (nilA))) [1] (bName 1) (yesT) (callP d_far_of (consA (varD 0) (consA (varD 1) (nilA))))) (nilA)))
def d_greatest_far (ds : List D) : R D := fin (b_greatest_far (env0 2 ds))
def b_is_sight : Env → R (Fl × Env) := seqS (ifS (orT (notT (tstD (op1 (isiD "tuple") (varD 1)))) (tstD (op2 neD (opN lenD (consA (varD 1) (nilA))) (cD (.int 2))))) (retS (cD (.bool false))) (nextS)) (retS (andV (callP d_is_whole (consA (op2 idxD (varD 1) (cD (.int 0))) (consA (cD (.int 0)) (consA (op2 subD (varD 0) (cD (.int 1))) (nilA))))) (callP d_is_whole (consA (op2 idxD (varD 1) (cD (.int 1))) (consA (op2 addD (op2 idxD (varD 1) (cD (.int 0))) (cD (.int 1))) (consA (op2 subD (varD 0) (cD (.int 1))) (nilA)))))))
def d_is_sight (ds : List D) : R D := fin (b_is_sight (env0 2 ds))
def b_distances : Env → R (Fl × Env) := seqS (setO 3 (op1 (disp1 0) (varD 1))) (seqS (setO 4 (lstD (consA (varD 1) (nilA)))) (seqS (whileS (tstD (op2OL neD 4 (lstD (nilA)))) (seqS (setS 5 (popD 4 (cD (.int 0)))) (forS (seqI (callP d_seen_from (consA (varD 0) (consA (varD 5) (nilA))))) (bName 6) (ifS (andT (tstD (dinNotO (varD 6) 3)) (tstD (op2 notInD (varD 6) (varD 2)))) (seqS (dputS 3 (varD 6) (op2 addD (dgetO 3 (varD 5)) (cD (.int 1)))) (appS 4 (varD 6))) (nextS))))) (retS (varD 3))))
def d_distances (ds : List D) : R D := fin (b_distances (env0 7 ds))
def b_is_pair : Env → R (Fl × Env) := seqS (ifS (orT (notT (tstD (op1 (isiD "tuple") (varD 1)))) (tstD (op2 neD (opN lenD (consA (varD 1) (nilA))) (cD (.int 2))))) (retS (cD (.bool false))) (nextS)) (retS (andV (callP d_is_whole (consA (op2 idxD (varD 1) (cD (.int 0))) (consA (cD (.int 0)) (consA (cD (.int 999)) (nilA))))) (callP d_is_whole (consA (op2 idxD (varD 1) (cD (.int 1))) (consA (cD (.int 1)) (consA (opN lenD (consA (varD 0) (nilA))) (nilA)))))))
def d_is_pair (ds : List D) : R D := fin (b_is_pair (env0 2 ds))
def b_is_repeated : Env → R (Fl × Env) := retS (opN allD (consA (compD (seqI (callP d_below (consA (varD 0) (consA (varD 2) (nilA))))) [4] (bName 4) (yesT) (andV (op2 notInD (varD 4) (varD 3)) (op2 eqD (op2 idxD (varD 1) (varD 4)) (op2 idxD (varD 1) (varD 2))))) (nilA)))
def d_is_repeated (ds : List D) : R D := fin (b_is_repeated (env0 5 ds))
def b_law_mixed : Env → R (Fl × Env) := seqS (setS 3 (op2 modD (op2 addD (op2 addD (op2 mulD (callP d_law_cell_at (consA (varD 0) (consA (varD 1) (nilA)))) (cD (.int 1103515245))) (op2 mulD (cD (.int 7919)) (varD 1))) (cD (.int 12345))) (cD (.int 2147483647)))) (retS (op2 modD (op2 modD (op2 modD (op2 powD (varD 3) (cD (.int 5))) (cD (.int 2147483647))) (cD (.int 999983))) (varD 2)))
def d_law_mixed (ds : List D) : R D := fin (b_law_mixed (env0 4 ds))
def b_is_row : Env → R (Fl × Env) := retS (andV (op1 (isiD "list") (varD 0)) (andV (op2 leD (opN lenD (consA (varD 0) (nilA))) (cD (.int 160))) (opN allD (consA (compD (seqI (varD 0)) [1] (bName 1) (yesT) (callP d_is_sign (consA (varD 1) (nilA)))) (nilA)))))
def d_is_row (ds : List D) : R D := fin (b_is_row (env0 2 ds))
def b_need_tree : Env → R (Fl × Env) := ifS (notT (tstD (callP d_is_tree (consA (varD 0) (nilA))))) (raiseS 3) (nextS)
def d_need_tree (ds : List D) : R D := fin (b_need_tree (env0 1 ds))
def b_need_sights : Env → R (Fl × Env) := seqS (ifS (notT (tstD (callP d_is_whole (consA (varD 0) (consA (cD (.int 2)) (consA (cD (.int 8)) (nilA))))))) (raiseS 7) (nextS)) (seqS (ifS (orT (notT (tstD (op1 (isiD "tuple") (varD 1)))) (notT (tstD (opN allD (consA (compD (seqI (varD 1)) [2] (bName 2) (yesT) (callP d_is_sight (consA (varD 0) (consA (varD 2) (nilA))))) (nilA)))))) (raiseS 9) (nextS)) (ifS (notT (tstD (opN allD (consA (compD (argI zip2 (consA (varD 1) (consA (sliceD (varD 1) (someO (cD (.int 1))) (noO)) (nilA)))) [3, 4] (bTup 2 (bCons (bName 3) (bCons (bName 4) (bNil)))) (yesT) (op2 ltD (varD 3) (varD 4))) (nilA))))) (raiseS 9) (nextS)))
def d_need_sights (ds : List D) : R D := fin (b_need_sights (env0 5 ds))
def b_is_fog : Env → R (Fl × Env) := seqS (ifS (orT (notT (tstD (op1 (isiD "tuple") (varD 1)))) (orT (tstD (op2 gtD (opN lenD (consA (varD 1) (nilA))) (cD (.int 12)))) (notT (tstD (opN allD (consA (compD (seqI (varD 1)) [4] (bName 4) (yesT) (callP d_is_pair (consA (varD 0) (consA (varD 4) (nilA))))) (nilA))))))) (retS (cD (.bool false))) (nextS)) (retS (opN allD (consA (compD (argI zip2 (consA (varD 1) (consA (sliceD (varD 1) (someO (cD (.int 1))) (noO)) (nilA)))) [2, 3] (bTup 2 (bCons (bName 2) (bCons (bName 3) (bNil)))) (yesT) (op2 ltD (varD 2) (varD 3))) (nilA))))
def d_is_fog (ds : List D) : R D := fin (b_is_fog (env0 5 ds))
def b_is_slip : Env → R (Fl × Env) := retS (andV (op1 (isiD "tuple") (varD 1)) (andV (op2 eqD (opN lenD (consA (varD 1) (nilA))) (cD (.int 3))) (andV (callP d_is_pair (consA (varD 0) (consA (sliceD (varD 1) (noO) (someO (cD (.int 2)))) (nilA)))) (callP d_is_sign (consA (op2 idxD (varD 1) (cD (.int 2))) (nilA))))))
def d_is_slip (ds : List D) : R D := fin (b_is_slip (env0 2 ds))
def b_next_show : Env → R (Fl × Env) := seqS (setS 4 (op2 idxD (varD 0) (op2 subD (varD 2) (cD (.int 1))))) (seqS (ifS (orT (tstD (op2 inD (varD 2) (varD 3))) (orT (tstD (op2 eqD (op2 idxD (varD 1) (varD 4)) (op2 idxD (varD 1) (varD 2)))) (notT (tstD (callP d_is_repeated (consA (varD 0) (consA (varD 1) (consA (varD 2) (consA (varD 3) (nilA)))))))))) (retS (op2 idxD (varD 1) (varD 2))) (nextS)) (retS (op2 idxD (varD 1) (varD 4))))
def d_next_show (ds : List D) : R D := fin (b_next_show (env0 5 ds))
def b_law_draw : Env → R (Fl × Env) := seqS (appS 1 (cD (.int 0))) (retS (callP d_law_mixed (consA (varD 0) (consA (opNO lenD 1) (consA (varD 2) (nilA))))))
def d_law_draw (ds : List D) : R (D × D) := finT (b_law_draw (env0 3 ds))
def b_need_row : Env → R (Fl × Env) := ifS (notT (tstD (callP d_is_row (consA (varD 0) (nilA))))) (raiseS 2) (nextS)
def d_need_row (ds : List D) : R D := fin (b_need_row (env0 1 ds))
def b_need_hill : Env → R (Fl × Env) := seqS (exprS (callP d_need_tree (consA (varD 0) (nilA)))) (ifS (notT (tstD (callP d_is_whole (consA (varD 1) (consA (cD (.int 0)) (consA (opN lenD (consA (varD 0) (nilA))) (nilA))))))) (raiseS 7) (nextS))
def d_need_hill (ds : List D) : R D := fin (b_need_hill (env0 2 ds))
def b_leaves : Env → R (Fl × Env) := seqS (exprS (callP d_need_tree (consA (varD 0) (nilA)))) (retS (callP d_all_leaves (consA (varD 0) (nilA))))
def d_leaves (ds : List D) : R D := fin (b_leaves (env0 1 ds))
def b_nearest_tree : Env → R (Fl × Env) := seqS (exprS (callP d_need_sights (consA (varD 0) (consA (varD 1) (nilA))))) (seqS (setS 2 (callP d_distances (consA (varD 1) (consA (cD (.int 0)) (consA (lstD (nilA)) (nilA)))))) (seqS (ifS (tstD (op2 ltD (opN lenK (consA (varD 2) (nilA))) (varD 0))) (retS (cD .none)) (nextS)) (seqS (setO 3 (lstD (nilA))) (seqS (forS (argI rng2 (consA (cD (.int 1)) (consA (varD 0) (nilA)))) (bName 4) (appS 3 (op2 idxD (compD (seqI (callP d_seen_from (consA (varD 1) (consA (varD 4) (nilA))))) [5] (bName 5) (tstD (op2 eqD (op2 dgetD (varD 2) (varD 5)) (op2 subD (op2 dgetD (varD 2) (varD 4)) (cD (.int 1))))) (varD 5)) (cD (.int 0))))) (retS (opN tupleD (consA (varD 3) (nilA))))))))
def d_nearest_tree (ds : List D) : R D := fin (b_nearest_tree (env0 6 ds))
def b_unreached : Env → R (Fl × Env) := seqS (exprS (callP d_need_sights (consA (varD 0) (consA (varD 1) (nilA))))) (seqS (setS 2 (callP d_distances (consA (varD 1) (consA (cD (.int 0)) (consA (lstD (nilA)) (nilA)))))) (retS (compD (argI rng1 (consA (varD 0) (nilA))) [3] (bName 3) (tstD (op2 dnotInD (varD 3) (varD 2))) (varD 3))))
def d_unreached (ds : List D) : R D := fin (b_unreached (env0 4 ds))
def b_needed_hills : Env → R (Fl × Env) := seqS (exprS (callP d_need_sights (consA (varD 0) (consA (varD 1) (nilA))))) (seqS (setS 2 (callP d_distances (consA (varD 1) (consA (cD (.int 0)) (consA (lstD (nilA)) (nilA)))))) (seqS (setO 3 (lstD (nilA))) (seqS (forS (argI rng2 (consA (cD (.int 1)) (consA (varD 0) (nilA)))) (bName 4) (ifS (andT (tstD (op2 dinD (varD 4) (varD 2))) (tstD (op2 ltD (opN lenK (consA (callP d_distances (consA (varD 1) (consA (cD (.int 0)) (consA (lstD (consA (varD 4) (nilA))) (nilA))))) (nilA))) (op2 subD (opN lenK (consA (varD 2) (nilA))) (cD (.int 1)))))) (appS 3 (varD 4)) (nextS))) (retS (varD 3)))))
def d_needed_hills (ds : List D) : R D := fin (b_needed_hills (env0 5 ds))
def b_needed_sights : Env → R (Fl × Env) := seqS (exprS (callP d_need_sights (consA (varD 0) (consA (varD 1) (nilA))))) (seqS (setS 2 (opN lenK (consA (callP d_distances (consA (varD 1) (consA (cD (.int 0)) (consA (lstD (nilA)) (nilA))))) (nilA)))) (retS (compD (seqI (varD 1)) [3] (bName 3) (tstD (op2 ltD (opN lenK (consA (callP d_distances (consA (compD (seqI (varD 1)) [4] (bName 4) (tstD (op2 neD (varD 4) (varD 3))) (varD 4)) (consA (cD (.int 0)) (consA (lstD (nilA)) (nilA))))) (nilA))) (varD 2))) (varD 3))))
def d_needed_sights (ds : List D) : R D := fin (b_needed_sights (env0 5 ds))
def b_is_of : Env → R (Fl × Env) := seqS (exprS (callP d_need_sights (consA (varD 0) (consA (varD 1) (nilA))))) (seqS (ifS (orT (notT (tstD (callP d_is_tree (consA (varD 2) (nilA))))) (tstD (op2 neD (opN lenD (consA (varD 2) (nilA))) (op2 subD (varD 0) (cD (.int 1)))))) (retS (cD (.bool false))) (nextS)) (retS (opN allD (consA (compD (argI enumT (consA (varD 2) (nilA))) [3, 4] (bTup 2 (bCons (bName 3) (bCons (bName 4) (bNil)))) (yesT) (op2 inD (tupD (consA (opN minD (consA (op2 addD (varD 3) (cD (.int 1))) (consA (varD 4) (nilA)))) (consA (opN maxD (consA (op2 addD (varD 3) (cD (.int 1))) (consA (varD 4) (nilA)))) (nilA)))) (varD 1))) (nilA)))))
def d_is_of (ds : List D) : R D := fin (b_is_of (env0 5 ds))
def b_are_slips : Env → R (Fl × Env) := seqS (ifS (orT (notT (tstD (op1 (isiD "tuple") (varD 1)))) (orT (tstD (op2 gtD (opN lenD (consA (varD 1) (nilA))) (cD (.int 6)))) (notT (tstD (opN allD (consA (compD (seqI (varD 1)) [4] (bName 4) (yesT) (callP d_is_slip (consA (varD 0) (consA (varD 4) (nilA))))) (nilA))))))) (retS (cD (.bool false))) (nextS)) (retS (opN allD (consA (compD (argI zip2 (consA (varD 1) (consA (sliceD (varD 1) (someO (cD (.int 1))) (noO)) (nilA)))) [2, 3] (bTup 2 (bCons (bName 2) (bCons (bName 3) (bNil)))) (yesT) (op2 ltD (sliceD (varD 2) (noO) (someO (cD (.int 2)))) (sliceD (varD 3) (noO) (someO (cD (.int 2)))))) (nilA))))
def d_are_slips (ds : List D) : R D := fin (b_are_slips (env0 5 ds))
def b_stepped : Env → R (Fl × Env) := seqS (setO 5 (opN listD (consA (varD 1) (nilA)))) (seqS (ifS (andT (tstD (op2 neD (varD 2) (lstD (nilA)))) (tstD (callP d_is_repeated (consA (varD 0) (consA (varD 1) (consA (cD (.int 0)) (consA (varD 3) (nilA)))))))) (seqS (putS 5 (cD (.int 0)) (op2 idxD (varD 2) (cD (.int 0)))) (setS 2 (sliceD (varD 2) (someO (cD (.int 1))) (noO)))) (nextS)) (seqS (forS (argI rng2 (consA (cD (.int 1)) (consA (opN lenD (consA (varD 1) (nilA))) (nilA)))) (bName 6) (seqS (putS 5 (varD 6) (callP d_next_show (consA (varD 0) (consA (varD 1) (consA (varD 6) (consA (varD 3) (nilA))))))) (ifS (andT (tstD (op2 neD (idxO 5 (varD 6)) (op2 idxD (varD 1) (varD 6)))) (andT (tstD (op2 neD (idxO 5 (varD 6)) (cD (.str "rest")))) (tstD (op2 dinD (varD 6) (varD 4))))) (putS 5 (varD 6) (op2 dgetD (varD 4) (varD 6))) (nextS)))) (retS (tupD (consA (varD 5) (consA (varD 2) (nilA)))))))
def d_stepped (ds : List D) : R D := fin (b_stepped (env0 7 ds))
def b_clear_time : Env → R (Fl × Env) := seqS (exprS (callP d_need_tree (consA (varD 0) (nilA)))) (seqS (ifS (notT (tstD (callP d_is_whole (consA (varD 1) (consA (cD (.int 0)) (consA (cD (.int 160)) (nilA))))))) (raiseS 2) (nextS)) (retS (ifD (tstD (op2 eqD (varD 1) (cD (.int 0)))) (cD (.int 0)) (op2 subD (op2 addD (op2 mulD (cD (.int 4)) (varD 1)) (callP d_greatest_far (consA (varD 0) (nilA)))) (cD (.int 1))))))
def d_clear_time (ds : List D) : R D := fin (b_clear_time (env0 2 ds))
def b_law_pick : Env → R (Fl × Env) := retS (op2 idxD (varD 2) (callT d_law_draw 1 (varD 0) (consA (opN lenD (consA (varD 2) (nilA))) (nilA))))
def d_law_pick (ds : List D) : R (D × D) := finT (b_law_pick (env0 3 ds))
def b_law_sights : Env → R (Fl × Env) := seqS (setS 2 (op2 addD (cD (.int 2)) (callT d_law_draw 1 (varD 0) (consA (cD (.int 7)) (nilA))))) (seqS (setS 3 (op2 addD (cD (.int 1)) (callT d_law_draw 1 (varD 0) (consA (cD (.int 3)) (nilA))))) (seqS (setO 4 (lstD (nilA))) (seqS (forS (argI rng1 (consA (varD 2) (nilA))) (bName 5) (extS 4 (compD (argI rng2 (consA (op2 addD (varD 5) (cD (.int 1))) (consA (varD 2) (nilA)))) [6] (bName 6) (tstD (op2 ltD (callT d_law_draw 1 (varD 0) (consA (cD (.int 4)) (nilA))) (varD 3))) (tupD (consA (varD 5) (consA (varD 6) (nilA))))))) (retS (tupD (consA (varD 2) (consA (opN tupleD (consA (varD 4) (nilA))) (nilA))))))))
def d_law_sights (ds : List D) : R (D × D) := finT (b_law_sights (env0 7 ds))
def b_far : Env → R (Fl × Env) := seqS (exprS (callP d_need_hill (consA (varD 0) (consA (varD 1) (nilA))))) (retS (callP d_far_of (consA (varD 0) (consA (varD 1) (nilA)))))
def d_far (ds : List D) : R D := fin (b_far (env0 2 ds))
def b_need_all : Env → R (Fl × Env) := seqS (exprS (callP d_need_tree (consA (varD 0) (nilA)))) (seqS (exprS (callP d_need_row (consA (varD 1) (nilA)))) (seqS (ifS (notT (tstD (callP d_is_fog (consA (varD 0) (consA (varD 2) (nilA)))))) (raiseS 4) (nextS)) (ifS (notT (tstD (callP d_are_slips (consA (varD 0) (consA (varD 3) (nilA)))))) (raiseS 5) (nextS))))
def d_need_all (ds : List D) : R D := fin (b_need_all (env0 4 ds))
def b_all_shows : Env → R (Fl × Env) := seqS (setS 4 (op2 mulD (lstD (consA (cD (.str "rest")) (nilA))) (op2 addD (opN lenD (consA (varD 0) (nilA))) (cD (.int 1))))) (seqS (setS 5 (callP d_with_rests (consA (varD 1) (nilA)))) (seqS (setO 6 (lstD (consA (varD 4) (nilA)))) (seqS (whileS (orT (tstD (op2 neD (varD 5) (lstD (nilA)))) (tstD (op2 neD (idxO 6 (op1 negD (cD (.int 1)))) (op2 mulD (lstD (consA (cD (.str "rest")) (nilA))) (opN lenD (consA (varD 4) (nilA))))))) (seqS (setS 7 (op2 subD (opNO lenD 6) (cD (.int 1)))) (seqS (setS 8 (compD (seqI (varD 2)) [10, 11] (bTup 2 (bCons (bName 10) (bCons (bName 11) (bNil)))) (tstD (op2 eqD (varD 10) (varD 7))) (varD 11))) (seqS (setS 9 (opN dictD (consA (compD (seqI (varD 3)) [10, 11, 12] (bTup 3 (bCons (bName 10) (bCons (bName 11) (bCons (bName 12) (bNil))))) (tstD (op2 eqD (varD 10) (op2 addD (varD 7) (cD (.int 1))))) (tupD (consA (varD 11) (consA (varD 12) (nilA))))) (nilA)))) (seqS (asgS (bTup 2 (bCons (bName 4) (bCons (bName 5) (bNil)))) (callP d_stepped (consA (varD 0) (consA (idxO 6 (op1 negD (cD (.int 1)))) (consA (varD 5) (consA (varD 8) (consA (varD 9) (nilA)))))))) (appS 6 (varD 4))))))) (retS (varD 6)))))
def d_all_shows (ds : List D) : R D := fin (b_all_shows (env0 13 ds))
def b_law_sign : Env → R (Fl × Env) := seqS (ifS (tstD (op2 eqD (callT d_law_draw 1 (varD 0) (consA (cD (.int 4)) (nilA))) (cD (.int 0)))) (retS (callT d_law_pick 1 (varD 0) (consA (lstD (consA (cD (.str "begin")) (consA (cD (.str "end")) (consA (cD (.str "halt")) (consA (cD (.str "spell")) (consA (cD (.str "strike")) (consA (cD (.str "word")) (nilA)))))))) (nilA)))) (nextS)) (retS (callT d_law_draw 1 (varD 0) (consA (callT d_law_pick 1 (varD 0) (consA (lstD (consA (cD (.int 2)) (consA (cD (.int 12)) (nilA)))) (nilA))) (nilA))))
def d_law_sign (ds : List D) : R (D × D) := finT (b_law_sign (env0 2 ds))
def b_over : Env → R (Fl × Env) := seqS (exprS (callP d_need_all (consA (varD 0) (consA (varD 1) (consA (varD 2) (consA (varD 3) (nilA))))))) (retS (op2 subD (opN lenD (consA (callP d_all_shows (consA (varD 0) (consA (varD 1) (consA (varD 2) (consA (varD 3) (nilA)))))) (nilA))) (cD (.int 1))))
def d_over (ds : List D) : R D := fin (b_over (env0 4 ds))
def b_law_row : Env → R (Fl × Env) := retS (compD (argI rng1 (consA (callT d_law_draw 1 (varD 0) (consA (op2 addD (varD 2) (cD (.int 1))) (nilA))) (nilA))) [3] (bName 3) (yesT) (callT d_law_sign 1 (varD 0) (nilA)))
def d_law_row (ds : List D) : R (D × D) := finT (b_law_row (env0 4 ds))
def b_law : Env → R (Fl × Env) := seqS (setO 1 (lstD (nilA))) (seqS (asgS (bTup 2 (bCons (bName 7) (bCons (bName 8) (bNil)))) (callT d_law_sights 1 (varD 0) (nilA))) (seqS (setS 2 (callP d_nearest_tree (consA (varD 7) (consA (varD 8) (nilA))))) (seqS (ifS (tstD (op2 isD (varD 2) (cD .none))) (retS (op2 neD (callP d_unreached (consA (varD 7) (consA (varD 8) (nilA)))) (lstD (nilA)))) (nextS)) (seqS (setS 3 (callT d_law_row 1 (varD 0) (consA (cD (.int 4)) (nilA)))) (seqS (parS [9, 10] (consA (lstD (consA (cD (.int 0)) (nilA))) (consA (cD (.dict [])) (nilA)))) (seqS (whileS (tstD (op2 ltD (opNO lenD 9) (varD 7))) (seqS (setO 11 (lstD (nilA))) (seqS (forOwnS 9 12 (extS 11 (quI (brwN (compD (seqI (callP d_law_near (consA (varD 8) (consA (varD 12) (nilA))))) [13] (bName 13) (tstD (op2 notInD (varD 13) (varD 9))) (tupD (consA (varD 12) (consA (varD 13) (nilA))))))))) (seqS (asgS (bTup 2 (bCons (bName 12) (bCons (bName 13) (bNil)))) (callT d_law_pick 1 (varD 0) (consA (varD 11) (nilA)))) (seqS (appS 9 (varD 13)) (dputS 10 (varD 13) (varD 12))))))) (seqS (setS 4 (opN tupleD (consA (compD (argI rng2 (consA (cD (.int 1)) (consA (varD 7) (nilA)))) [14] (bName 14) (yesT) (dgetO 10 (varD 14))) (nilA)))) (seqS (ifS (orT (notT (tstD (callP d_is_of (consA (varD 7) (consA (varD 8) (consA (varD 4) (nilA))))))) (tstD (op2 ltD (callP d_over (consA (varD 4) (consA (varD 3) (consA (tupD (nilA)) (consA (tupD (nilA)) (nilA)))))) (callP d_over (consA (varD 2) (consA (varD 3) (consA (tupD (nilA)) (consA (tupD (nilA)) (nilA))))))))) (retS (cD (.bool false))) (nextS)) (seqS (ifS (tstD (op2 neD (compD (argI rng1 (consA (varD 7) (nilA))) [14] (bName 14) (tstD (op2 ltD (callP d_far (consA (varD 4) (consA (varD 14) (nilA)))) (callP d_far (consA (varD 2) (consA (varD 14) (nilA)))))) (varD 14)) (lstD (nilA)))) (retS (cD (.bool false))) (nextS)) (seqS (ifS (tstD (op2 ltD (callP d_clear_time (consA (varD 4) (consA (cD (.int 5)) (nilA)))) (callP d_clear_time (consA (varD 2) (consA (cD (.int 5)) (nilA)))))) (retS (cD (.bool false))) (nextS)) (seqS (forS (seqI (callP d_needed_sights (consA (varD 7) (consA (varD 8) (nilA))))) (bTup 2 (bCons (bName 12) (bCons (bName 13) (bNil)))) (ifS (andT (tstD (op2 notItD (tupD (consA (varD 13) (consA (varD 12) (nilA)))) (varD 10))) (tstD (op2 notItD (tupD (consA (varD 12) (consA (varD 13) (nilA)))) (varD 10)))) (retS (cD (.bool false))) (nextS))) (seqS (ifS (tstD (op2 neD (compD (seqI (callP d_needed_hills (consA (varD 7) (consA (varD 8) (nilA))))) [14] (bName 14) (orT (tstD (op2 inD (varD 14) (callP d_leaves (consA (varD 4) (nilA))))) (tstD (op2 inD (varD 14) (callP d_leaves (consA (varD 2) (nilA)))))) (varD 14)) (lstD (nilA)))) (retS (cD (.bool false))) (nextS)) (seqS (setS 5 (compD (seqI (op1 sortItD (varD 10))) [15, 16] (bTup 2 (bCons (bName 15) (bCons (bName 16) (bNil)))) (yesT) (tupD (consA (opN minD (consA (varD 15) (consA (varD 16) (nilA)))) (consA (opN maxD (consA (varD 15) (consA (varD 16) (nilA)))) (nilA)))))) (seqS (setS 6 (opN tupleD (consA (op1 sortedPD (varD 5)) (nilA)))) (seqS (ifS (orT (tstD (op2 neD (callP d_nearest_tree (consA (varD 7) (consA (varD 6) (nilA)))) (varD 4))) (tstD (op2 neD (callP d_needed_sights (consA (varD 7) (consA (varD 6) (nilA)))) (opN listD (consA (varD 6) (nilA)))))) (retS (cD (.bool false))) (nextS)) (retS (op2 eqD (callP d_needed_hills (consA (varD 7) (consA (varD 6) (nilA)))) (compD (argI rng2 (consA (cD (.int 1)) (consA (varD 7) (nilA)))) [14] (bName 14) (tstD (op2 notInD (varD 14) (callP d_leaves (consA (varD 4) (nilA))))) (varD 14)))))))))))))))))))
def d_law (ds : List D) : R D := fin (b_law (env0 17 ds))
end Hz

namespace Hz
open PySem PySem.Spec PyProof.Rows L2

theorem nr {α : Sort _} {a b : α} (h : a = b) : a = b := h
/-! ### plain reasoning about what defs are worth -/
def nD (k : Nat) : D := .int (k : Int)
def ntD (t : List Nat) : D := .tuple (t.map nD)
def nlD (t : List Nat) : D := .list (t.map nD)
def Ok {α : Type} (r : R α) (P : α → Prop) : Prop := ∃ a, r = .ok a ∧ P a
theorem Ok.bind {α β : Type} {r : R α} {k : α → R β} {P : β → Prop} (h : Ok r fun a => Ok (k a) P) : Ok (r.bind k) P := by
  obtain ⟨a, rfl, b, hb, p⟩ := h
  exact ⟨b, hb, p⟩
theorem Ok.mono {α : Type} {r : R α} {P Q : α → Prop} (h : Ok r P) (f : ∀ a, P a → Q a) : Ok r Q := by
  obtain ⟨a, e, p⟩ := h
  exact ⟨a, e, f a p⟩
@[simp] theorem lift_some {α : Type} (a : α) : lift (some a) = .ok a := nr rfl
@[simp] theorem ne_ok {α : Type} (a : α) : (R.ok a).ne = .ok a := nr rfl
/-! equality -/
mutual
theorem eqv_self : ∀ (n : Nat) (d : D), dep n d = true → PyData.eqv d d = true
  | _, .none, _ => by simp [PyData.eqv]
  | _, .bool b, _ => by simp [PyData.eqv]
  | _, .int i, _ => by simp [PyData.eqv]
  | _, .str x, _ => by simp [PyData.eqv]
  | 0, .list _, h => by simp [dep] at h
  | 0, .tuple _, h => by simp [dep] at h
  | n + 1, .list xs, h => by
    simp only [dep] at h
    simp only [PyData.eqv]
    exact eqvAll_self n xs h
  | n + 1, .tuple xs, h => by
    simp only [dep] at h
    simp only [PyData.eqv]
    exact eqvAll_self n xs h
  | 0, .dict _, h => by simp [dep] at h
  | n + 1, .dict _, h => by simp [dep] at h
theorem eqvAll_self : ∀ (n : Nat) (ds : List D), ds.all (dep n) = true → PyData.eqvAll ds ds = true
  | _, [], _ => by simp [PyData.eqvAll]
  | n, d :: ds, h => by
    simp only [List.all_cons, Bool.and_eq_true] at h
    simp only [PyData.eqvAll, Bool.and_eq_true]
    exact ⟨eqv_self n d h.1, eqvAll_self n ds h.2⟩
end
theorem scrD_none {n : Nat} {d : D} (h : dep n d = true) : scrD d = none := by
  cases d <;> first | rfl | skip
  cases n <;> simp [dep] at h
theorem eqD_dep {d e : D} (h : dep 9 d = true) (h' : dep 9 e = true) : eqD d e = some (.bool (PyData.eqv d e)) := by
  unfold eqD
  rw [scrD_none h]
  simp only
  rw [if_pos ⟨h, h'⟩]
theorem neD_dep {d e : D} (h : dep 9 d = true) (h' : dep 9 e = true) : neD d e = some (.bool (!PyData.eqv d e)) := by
  unfold neD
  rw [eqD_dep h h']
theorem eqD_self {d : D} (h : dep 9 d = true) : eqD d d = some (.bool true) := by rw [eqD_dep h h, eqv_self 9 d h]
theorem neD_self {d : D} (h : dep 9 d = true) : neD d d = some (.bool false) := by rw [neD_dep h h, eqv_self 9 d h]; rfl
theorem eqD_int (i j : Int) : eqD (.int i) (.int j) = some (.bool (decide (i = j))) := by
  rw [eqD_dep rfl rfl]
  simp only [PyData.eqv]
  congr 2
theorem neD_int (i j : Int) : neD (.int i) (.int j) = some (.bool (!decide (i = j))) := by
  unfold neD
  rw [eqD_int]
theorem dep_nl (n : Nat) (t : List Nat) : dep (n + 1) (nlD t) = true := by
  simp only [nlD, dep, List.all_map, List.all_eq_true]
  intro x _
  cases n <;> rfl
theorem dep_nt (n : Nat) (t : List Nat) : dep (n + 1) (ntD t) = true := by
  simp only [ntD, dep, List.all_map, List.all_eq_true]
  intro x _
  cases n <;> rfl
theorem eqvAll_n : ∀ (s t : List Nat), PyData.eqvAll (s.map nD) (t.map nD) = decide (s = t)
  | [], [] => by simp [PyData.eqvAll]
  | [], _ :: _ => by simp [PyData.eqvAll]
  | _ :: _, [] => by simp [PyData.eqvAll]
  | a :: s, b :: t => by
    simp only [List.map_cons, PyData.eqvAll, eqvAll_n s t, nD, PyData.eqv]
    by_cases h : a = b <;> by_cases h' : s = t <;> simp [h, h'] <;> omega
theorem eqD_nl (s t : List Nat) : eqD (nlD s) (nlD t) = some (.bool (decide (s = t))) := by
  rw [eqD_dep (dep_nl _ _) (dep_nl _ _)]
  simp only [nlD, PyData.eqv, eqvAll_n]
theorem neD_nl (s t : List Nat) : neD (nlD s) (nlD t) = some (.bool (!decide (s = t))) := by
  unfold neD
  rw [eqD_nl]
theorem neD_n (i j : Nat) : neD (nD i) (nD j) = some (.bool (!decide (i = j))) := by
  unfold nD
  rw [neD_int]
  congr 3
  exact decide_eq_decide.mpr Int.ofNat_inj
theorem eqD_n (i j : Nat) : eqD (nD i) (nD j) = some (.bool (decide (i = j))) := by
  unfold nD
  rw [eqD_int]
  congr 2
  exact decide_eq_decide.mpr Int.ofNat_inj
theorem inSeq_n (k : Nat) (t : List Nat) : inSeq (nD k) (t.map nD) = decide (k ∈ t) := by
  unfold inSeq
  rw [Bool.eq_iff_iff]
  simp only [List.any_map, List.any_eq_true, Function.comp, nD, PyData.eqv, decide_eq_true_eq, beq_iff_eq]
  constructor
  · rintro ⟨x, hx, e⟩
    have : x = k := by omega
    exact this ▸ hx
  · intro h
    exact ⟨k, h, rfl⟩
theorem notInD_nt (k : Nat) (t : List Nat) : notInD (nD k) (ntD t) = some (.bool (!decide (k ∈ t))) := by
  unfold notInD
  have e : inD (nD k) (ntD t) = some (.bool (decide (k ∈ t))) := by
    show (if dep 9 (nD k) = true ∧ dep 9 (ntD t) = true then some (PyData.bool (inSeq (nD k) (t.map nD))) else none) = _
    rw [if_pos ⟨rfl, dep_nt 8 t⟩, inSeq_n]
  rw [e]
/-! ranges -/
theorem rangeL_0 (n : Nat) : rangeL 0 (n : Int) = (List.range n).map nD := by
  unfold rangeL
  have e : ((n : Int) - 0).toNat = n := by omega
  rw [e]
  refine List.map_congr_left fun k _ => ?_
  unfold nD
  congr 1
  omega
theorem rangeL_nat (m n : Nat) : rangeL (m : Int) (n : Int) = (List.range' m (n - m)).map nD := by
  unfold rangeL
  have e : ((n : Int) - (m : Int)).toNat = n - m := by omega
  rw [e, List.range'_eq_map_range, List.map_map]
  refine List.map_congr_left fun k _ => ?_
  simp only [nD, Function.comp]
  congr 1
theorem rng1_n (n : Nat) (h : n ≤ 1000000) : rng1 [nD n] = some ((List.range n).map nD) := by
  show (if (n : Int) ≤ 1000000 ∧ -1000000 ≤ (n : Int) then some (rangeL 0 n) else none) = _
  rw [if_pos ⟨by omega, by omega⟩, rangeL_0]
theorem rng2_n (m n : Nat) (h : n ≤ 1000000) (h' : m ≤ 1000000) : rng2 [nD m, nD n] = some ((List.range' m (n - m)).map nD) := by
  show (if (n : Int) ≤ 1000000 ∧ -1000000 ≤ (n : Int) ∧ (m : Int) ≤ 1000000 ∧ -1000000 ≤ (m : Int) then some (rangeL m n) else none) = _
  rw [if_pos ⟨by omega, by omega, by omega, by omega⟩, rangeL_nat]
/-! comprehensions -/
theorem compL_map {α : Type} {vs : List Nat} {b : D → Env → Option Env} {c : Env → R (Bool × Env)} {el : Env → R (D × Env)} {e : Env} (enc : α → D) (p : α → Bool) (g : α → D) : ∀ (xs : List α)
    (_ : ∀ x ∈ xs, ∃ e1, b (enc x) e = some e1 ∧ c e1 = .ok (p x, e1) ∧ (p x = true → el e1 = .ok (g x, e1)) ∧ wipeE e1 vs = e), compL vs b c el (xs.map enc) e = .ok ((xs.filter p).map g, e)
  | [], _ => rfl
  | x :: xs, h => by
    obtain ⟨e1, h1, h2, h3, h4⟩ := h x List.mem_cons_self
    have ih := compL_map enc p g xs fun y hy => h y (List.mem_cons_of_mem _ hy)
    rw [List.map_cons, compL, h1]
    simp only [lift_some, bind_ok, h2, ne_ok]
    by_cases hp : p x = true
    · rw [if_pos hp, h3 hp]
      simp only [ne_ok, bind_ok, h4, ih]
      rw [List.filter_cons_of_pos hp, List.map_cons]
    · rw [if_neg hp, h4, ih, List.filter_cons_of_neg hp]
theorem compD_map {α : Type} {fi : Env → R (List D × Env)} {vs : List Nat} {b : D → Env → Option Env} {c : Env → R (Bool × Env)} {el : Env → R (D × Env)} {env : Env} (enc : α → D) (p : α → Bool) (g : α → D) (xs : List α) (hi : fi env = .ok (xs.map enc, env)) (hl : xs.length ≤ 1000000)
    (h : ∀ x ∈ xs, ∃ e1, b (enc x) (wipeE env vs) = some e1 ∧ c e1 = .ok (p x, e1) ∧ (p x = true → el e1 = .ok (g x, e1)) ∧ wipeE e1 vs = wipeE env vs) (hr : restE env vs (wipeE env vs) = env := by rfl) :
    compD fi vs b c el env = .ok (.list ((xs.filter p).map g), env) := by
  unfold compD
  rw [hi]
  simp only [bind_ok, List.length_map]
  rw [if_pos hl, compL_map enc p g xs h]
  simp only [ne_ok, bind_ok, hr]
/-- each element is made with a change of the state -/
theorem compL_ix {α β : Type} {vs : List Nat} {b : D → Env → Option Env} {el : Env → R (D × Env)} (enc : α → D) (en2 : β → D) (P : α → β → Prop) (xs : List α) (I : Nat → Env → Prop) (e : Env) (h0 : I 0 e)
    (st : ∀ i x e, xs[i]? = some x → I i e → ∃ e1 y e2, b (enc x) e = some e1 ∧ el e1 = .ok (en2 y, e2) ∧ P x y ∧ I (i + 1) (wipeE e2 vs)) : ∃ (ys : List β) (e' : Env), compL vs b yesT el (xs.map enc) e = .ok (ys.map en2, e') ∧ I xs.length e' ∧ ys.length = xs.length ∧ ∀ (i : Nat) (x : α) (y : β), xs[i]? = some x → ys[i]? = some y → P x y := by
  have key : ∀ (zs : List α) (i : Nat) (e : Env), xs.drop i = zs → I i e → ∃ (ys : List β) (e' : Env), compL vs b yesT el (zs.map enc) e = .ok (ys.map en2, e') ∧ I (i + zs.length) e' ∧ ys.length = zs.length ∧ ∀ (i : Nat) (x : α) (y : β), zs[i]? = some x → ys[i]? = some y → P x y := by
    intro zs
    induction zs with
    | nil => intro i e _ h; exact ⟨[], e, rfl, h, rfl, fun i x y h _ => by simp at h⟩
    | cons z zs ih =>
      intro i e hd h
      have hx : xs[i]? = some z := by
        have := congrArg (fun l => l[0]?) hd
        simpa using this
      obtain ⟨e1, y, e2, h1, h2, h3, h4⟩ := st i z e hx h
      have hd2 : xs.drop (i + 1) = zs := by
        rw [← List.drop_drop, hd]
        rfl
      obtain ⟨ys, e', h5, h6, h7, h8⟩ := ih (i + 1) _ hd2 h4
      refine ⟨y :: ys, e', ?_, ?_, by simp [h7], fun j x' y' => ?_⟩
      · rw [List.map_cons, compL, h1]
        simp only [lift_some, bind_ok, yesT, ne_ok, if_true, h2]
        show (compL vs b yesT el (zs.map enc) (wipeE e2 vs)).bind _ = _
        rw [h5]
        rfl
      · rw [List.length_cons, show i + (zs.length + 1) = i + 1 + zs.length by omega]
        exact h6
      · cases j with
        | zero =>
          intro q1 q2
          cases q1
          cases q2
          exact h3
        | succ j => exact fun q1 q2 => h8 j x' y' (by simpa using q1) (by simpa using q2)
  obtain ⟨ys, e', h1, h2, h3, h4⟩ := key xs 0 e rfl h0
  exact ⟨ys, e', h1, by simpa using h2, h3, h4⟩
theorem compD_ix {α β : Type} {fi : Env → R (List D × Env)} {vs : List Nat} {b : D → Env → Option Env} {el : Env → R (D × Env)} {env : Env} (enc : α → D) (en2 : β → D) (P : α → β → Prop) (xs : List α) (I : Nat → Env → Prop) (hi : fi env = .ok (xs.map enc, env)) (hl : xs.length ≤ 1000000) (h0 : I 0 (wipeE env vs))
    (st : ∀ i x e, xs[i]? = some x → I i e → ∃ e1 y e2, b (enc x) e = some e1 ∧ el e1 = .ok (en2 y, e2) ∧ P x y ∧ I (i + 1) (wipeE e2 vs)) : ∃ (ys : List β) (e' : Env), compD fi vs b yesT el env = .ok (.list (ys.map en2), restE env vs e') ∧ I xs.length e' ∧ ys.length = xs.length ∧ ∀ (i : Nat) (x : α) (y : β), xs[i]? = some x → ys[i]? = some y → P x y := by
  obtain ⟨ys, e', h1, h2, h3, h4⟩ := compL_ix enc en2 P xs I (wipeE env vs) h0 st
  refine ⟨ys, e', ?_, h2, h3, h4⟩
  unfold compD
  rw [hi]
  simp only [bind_ok, List.length_map]
  rw [if_pos hl, h1]
  rfl
/-! loops -/
/-- a for loop that runs through: the invariant by the items left -/
theorem forL_inv {b : D → Env → Option Env} {body : Env → R (Fl × Env)} (I : List D → Env → Prop) : ∀ (ds : List D) (e : Env), I ds e → (∀ d ds e, I (d :: ds) e → ∃ e1 e2, b d e = some e1 ∧ body e1 = .ok (.nx, e2) ∧ I ds e2) → ∃ e', forL b body ds e = .ok (.nx, e') ∧ I [] e'
  | [], e, h, _ => ⟨e, rfl, h⟩
  | d :: ds, e, h, st => by
    obtain ⟨e1, e2, h1, h2, h3⟩ := st d ds e h
    obtain ⟨e', h4, h5⟩ := forL_inv I ds e2 h3 st
    refine ⟨e', ?_, h5⟩
    rw [forL, h1]
    simp only [lift_some, bind_ok, h2]
    exact h4
/-- .. over items of a list, with their number -/
theorem forL_idx {α : Type} {b : D → Env → Option Env} {body : Env → R (Fl × Env)} (enc : α → D) (xs : List α) (I : Nat → Env → Prop) (e : Env) (h0 : I 0 e) (st : ∀ i x e, xs[i]? = some x → I i e → ∃ e1 e2, b (enc x) e = some e1 ∧ body e1 = .ok (.nx, e2) ∧ I (i + 1) e2) :
    ∃ e', forL b body (xs.map enc) e = .ok (.nx, e') ∧ I xs.length e' := by
  have key : ∀ (ys : List α) (i : Nat) (e : Env), xs.drop i = ys → I i e → ∃ e', forL b body (ys.map enc) e = .ok (.nx, e') ∧ I (i + ys.length) e' := by
    intro ys
    induction ys with
    | nil => intro i e _ h; exact ⟨e, rfl, h⟩
    | cons y ys ih =>
      intro i e hd h
      have hx : xs[i]? = some y := by
        have := congrArg (fun l => l[0]?) hd
        simpa using this
      obtain ⟨e1, e2, h1, h2, h3⟩ := st i y e hx h
      have hd2 : xs.drop (i + 1) = ys := by
        rw [← List.drop_drop, hd]
        rfl
      obtain ⟨e', h4, h5⟩ := ih (i + 1) e2 hd2 h3
      refine ⟨e', ?_, ?_⟩
      · rw [List.map_cons, forL, h1]
        simp only [lift_some, bind_ok, h2]
        exact h4
      · rw [List.length_cons]
        have z : i + (ys.length + 1) = i + 1 + ys.length := by omega
        rw [z]
        exact h5
  obtain ⟨e', h1, h2⟩ := key xs 0 e rfl h0
  exact ⟨e', h1, by simpa using h2⟩
/-- a while loop with a measure -/
theorem whileL_inv {c : Env → R (Bool × Env)} {body : Env → R (Fl × Env)} (I : Nat → Env → Prop) : ∀ (n m : Nat) (e : Env), m < n → I m e → (∀ m e, I m e → ∃ t e1, c e = .ok (t, e1) ∧ (t = true → ∃ e2 m', body e1 = .ok (.nx, e2) ∧ m' < m ∧ I m' e2)) → ∃ e0 m0 e', I m0 e0 ∧ c e0 = .ok (false, e') ∧ whileL c body n e = .ok (.nx, e')
  | 0, m, e, h, _, _ => by omega
  | n + 1, m, e, h, hi, st => by
    obtain ⟨t, e1, h1, h2⟩ := st m e hi
    cases t with
    | false =>
      refine ⟨e, m, e1, hi, h1, ?_⟩
      rw [whileL, h1]
      rfl
    | true =>
      obtain ⟨e2, m', h3, h4, h5⟩ := h2 rfl
      obtain ⟨e0, m0, e', h6, h7, h8⟩ := whileL_inv I n m' e2 (by omega) h5 st
      refine ⟨e0, m0, e', h6, h7, ?_⟩
      rw [whileL, h1]
      simp only [bind_ok, if_true, h3]
      exact h8
/-! statements -/
theorem seqS_nx {f g : Env → R (Fl × Env)} {e e' : Env} (h : f e = .ok (.nx, e')) : seqS f g e = g e' := by
  unfold seqS
  rw [h]
  rfl
theorem seqS_rt {f g : Env → R (Fl × Env)} {e e' : Env} {d : D} (h : f e = .ok (.rt d, e')) : seqS f g e = .ok (.rt d, e') := by
  unfold seqS
  rw [h]
  rfl
theorem seqS_err {f g : Env → R (Fl × Env)} {e : Env} {k : Nat} (h : f e = .err k) : seqS f g e = .err k := by
  unfold seqS
  rw [h]
  rfl
end Hz

namespace Hz
open PySem PySem.Spec PyProof.Rows L2
/-! ### reckoning by simp -/
def selD {α : Type} (d : D) (t f : R α) : R α := match d with
  | .bool true => t
  | .bool false => f
  | _ => .bad
@[simp] theorem selD_b {α : Type} (b : Bool) (t f : R α) : selD (.bool b) t f = if b = true then t else f := by cases b <;> rfl
def getD2 {α : Type} (o : Option (Option D)) (k : D → R α) : R α := match o with
  | some (some d) => k d
  | _ => .bad
@[simp] theorem getD2_s {α : Type} (d : D) (k : D → R α) : getD2 (some (some d)) k = k d := nr rfl
def intK {α : Type} (d : D) (k : Int → R α) : R α := match d with
  | .int i => k i
  | _ => .bad
@[simp] theorem intK_i {α : Type} (i : Int) (k : Int → R α) : intK (.int i) k = k i := nr rfl
@[simp] theorem intK_n {α : Type} (i : Nat) (k : Int → R α) : intK (nD i) k = k i := nr rfl
def flK (f : Fl) (t u : R (Fl × Env)) : R (Fl × Env) := match f with
  | .nx => t
  | _ => u
@[simp] theorem flK_nx (t u : R (Fl × Env)) : flK .nx t u = t := nr rfl
@[simp] theorem flK_rt (d : D) (t u : R (Fl × Env)) : flK (.rt d) t u = u := nr rfl
section
variable (e : Env) (d : D) (i n : Nat) (g h : D → D → Option D) (a b c : Env → R (D × Env)) (A : Env → R (List D × Env)) (F : List D → R D) (T : List D → R (D × D)) (s t : Env → R (Bool × Env)) (S U : Env → R (Fl × Env)) (b1 : D → Env → Option Env)
@[simp] theorem ev_cD : cD d e = .ok (d, e) := nr rfl
@[simp] theorem ev_varD : varD i e = getD2 e[i]? fun d => .ok (d, e) := by unfold varD getD2; exact nr rfl
@[simp] theorem ev_op2 : op2 g a b e = (a e).bind fun x => (b x.2).bind fun y => (lift (g x.1 y.1)).bind fun d => .ok (d, y.2) := nr rfl
@[simp] theorem ev_op1 (g : D → Option D) : op1 g a e = (a e).bind fun x => (lift (g x.1)).bind fun d => .ok (d, x.2) := nr rfl
@[simp] theorem ev_opN (g : List D → Option D) : opN g A e = (A e).bind fun x => (lift (g x.1)).bind fun d => .ok (d, x.2) := nr rfl
@[simp] theorem ev_nilA : nilA e = .ok ([], e) := nr rfl
@[simp] theorem ev_consA : consA a A e = (a e).bind fun x => (A x.2).bind fun y => .ok (x.1 :: y.1, y.2) := nr rfl
@[simp] theorem ev_lstD : lstD A e = (A e).bind fun x => .ok (.list x.1, x.2) := nr rfl
@[simp] theorem ev_tupD : tupD A e = (A e).bind fun x => .ok (.tuple x.1, x.2) := nr rfl
@[simp] theorem ev_callP : callP F A e = (A e).bind fun x => (F x.1).bind fun d => .ok (d, x.2) := nr rfl
@[simp] theorem ev_callT : callT T i a A e = (a e).bind fun x => (A x.2).bind fun y => getD2 y.2[i]? fun t => (T (x.1 :: t :: y.1)).bind fun r => .ok (r.1, y.2.set i (some r.2)) := by unfold callT getD2; exact nr rfl
@[simp] theorem ev_tstD : tstD a e = (a e).bind fun x => match x.1 with
  | .bool b => .ok (b, x.2)
  | _ => .bad := nr rfl
@[simp] theorem ev_andT : andT s t e = (s e).bind fun x => if x.1 = true then t x.2 else .ok (false, x.2) := nr rfl
@[simp] theorem ev_orT : orT s t e = (s e).bind fun x => if x.1 = true then .ok (true, x.2) else t x.2 := nr rfl
@[simp] theorem ev_notT : notT s e = (s e).bind fun x => .ok (!x.1, x.2) := nr rfl
@[simp] theorem ev_andV : andV a b e = (a e).bind fun x => selD x.1 (b x.2) (.ok (.bool false, x.2)) := by unfold andV selD; exact nr rfl
@[simp] theorem ev_orV : orV a b e = (a e).bind fun x => selD x.1 (.ok (.bool true, x.2)) (b x.2) := by unfold orV selD; exact nr rfl
@[simp] theorem ev_notV : notV a e = (a e).bind fun x => match x.1 with
  | .bool b => .ok (.bool (!b), x.2)
  | _ => .bad := nr rfl
@[simp] theorem ev_ifD : ifD s a b e = (s e).bind fun x => if x.1 = true then a x.2 else b x.2 := nr rfl
@[simp] theorem ev_chainD : chainD g h a b c e = (a e).bind fun x => (b x.2).bind fun y => (lift (g x.1 y.1)).bind fun d => selD d ((c y.2).bind fun z => (lift (h y.1 z.1)).bind fun d => .ok (d, z.2)) (.ok (.bool false, y.2)) := by
  unfold chainD
  congr 1
  funext x
  congr 1
  funext y
  cases g x.1 y.1 with
  | none => rfl
  | some d => cases d <;> first | rfl | skip; rename_i z; cases z <;> rfl
theorem ev_seqS : seqS S U e = (S e).bind fun r => flK r.1 (U r.2) (.ok r) := by unfold seqS flK; rfl
@[simp] theorem ev_nextS : nextS e = .ok (.nx, e) := nr rfl
@[simp] theorem ev_setS : setS i a e = (a e).bind fun x => .ok (.nx, x.2.set i (some x.1)) := nr rfl
@[simp] theorem ev_setO : setO i a e = (a e).bind fun x => if i < x.2.length then .ok (.nx, x.2.set i (some x.1)) else .bad := nr rfl
@[simp] theorem ev_exprS : exprS a e = (a e).bind fun x => .ok (.nx, x.2) := nr rfl
@[simp] theorem ev_retS : retS a e = (a e).bind fun x => .ok (.rt x.1, x.2) := nr rfl
@[simp] theorem ev_ifS : ifS s S U e = (s e).bind fun x => if x.1 = true then S x.2 else U x.2 := nr rfl
@[simp] theorem ev_raiseS : raiseS n e = .err n := nr rfl
@[simp] theorem ev_asgS : asgS b1 a e = (a e).bind fun x => (lift (b1 x.1 x.2)).bind fun e' => .ok (.nx, e') := nr rfl
@[simp] theorem ev_appS : appS i a e = (lift (ownL e i)).bind fun _ => (a e).bind fun x => (lift (ownL x.2 i)).bind fun ds => if ds.length < 1000000 then .ok (.nx, x.2.set i (some (.list (ds ++ [x.1])))) else .bad := nr rfl
@[simp] theorem ev_opNO (g : List D → Option D) : opNO g i e = (lift (ownL e i)).bind fun ds => (lift (g [.list ds])).bind fun d => if atomD d = true then .ok (d, e) else .bad := nr rfl
@[simp] theorem ev_idxO : idxO i b e = (b e).bind fun y => (lift (ownL y.2 i)).bind fun ds => (lift (idxD (.list ds) y.1)).bind fun d => .ok (d, y.2) := nr rfl
@[simp] theorem ev_op2OL : op2OL g i b e = (b e).bind fun y => (lift (ownL y.2 i)).bind fun ds => (lift (g (.list ds) y.1)).bind fun d => if atomD d = true then .ok (d, y.2) else .bad := nr rfl
@[simp] theorem ev_op2OR : op2OR g a i e = (a e).bind fun y => (lift (ownL y.2 i)).bind fun ds => (lift (g y.1 (.list ds))).bind fun d => if atomD d = true then .ok (d, y.2) else .bad := nr rfl
@[simp] theorem ev_popD : popD i a e = (lift (ownL e i)).bind fun _ => (a e).bind fun x => (lift (ownL x.2 i)).bind fun ds => intK x.1 fun j => if 0 ≤ j ∧ j < 1000000 then (lift ds[j.toNat]?).bind fun d => .ok (d, x.2.set i (some (.list (ds.eraseIdx j.toNat)))) else .bad := by unfold popD intK; exact nr rfl
@[simp] theorem ev_argI (g : List D → Option (List D)) : argI g A e = (A e).bind fun x => (lift (g x.1)).bind fun ds => .ok (ds, x.2) := nr rfl
@[simp] theorem ev_seqI : seqI a e = (a e).bind fun x => (lift (itemsOf x.1)).bind fun ds => .ok (ds, x.2) := nr rfl
@[simp] theorem ev_forS (f : Env → R (List D × Env)) : forS f b1 S e = (f e).bind fun x => forL b1 S x.1 x.2 := nr rfl
@[simp] theorem ev_parS (is : List Nat) : parS is A e = (A e).bind fun x => (lift (putE is x.1 x.2)).bind fun e' => .ok (.nx, e') := nr rfl
@[simp] theorem ev_bName : bName i d e = some (e.set i (some d)) := nr rfl
@[simp] theorem ev_wipe0 : wipeE e [] = e := nr rfl
@[simp] theorem ev_wipe1 (vs : List Nat) : wipeE e (i :: vs) = (wipeE e vs).set i none := nr rfl
@[simp] theorem ev_rest0 (e0 : Env) : restE e0 [] e = e := nr rfl
@[simp] theorem ev_rest1 (e0 : Env) (vs : List Nat) : restE e0 (i :: vs) e = (restE e0 vs e).set i (e0.getD i none) := nr rfl
@[simp] theorem ev_yesT : yesT e = .ok (true, e) := nr rfl
end
/-! operators at numbers -/
@[simp] theorem addD_n (i j : Nat) : addD (nD i) (nD j) = some (nD (i + j)) := by simp [addD, nD]
@[simp] theorem addD_i (i j : Int) : addD (.int i) (.int j) = some (.int (i + j)) := nr rfl
@[simp] theorem addD_ni (i : Nat) (j : Int) : addD (nD i) (.int j) = some (.int (i + j)) := nr rfl
@[simp] theorem addD_in (i : Int) (j : Nat) : addD (.int i) (nD j) = some (.int (i + j)) := nr rfl
@[simp high] theorem addD_n1 (i : Nat) : addD (nD i) (.int 1) = some (nD (i + 1)) := nr rfl
@[simp high] theorem addD_1n (i : Nat) : addD (.int 1) (nD i) = some (nD (i + 1)) := by
  show some (PyData.int (1 + (i : Int))) = some (.int ((i + 1 : Nat) : Int))
  congr 2
  omega
@[simp] theorem subD_i (i j : Int) : subD (.int i) (.int j) = some (.int (i - j)) := nr rfl
@[simp] theorem subD_ni (i : Nat) (j : Int) : subD (nD i) (.int j) = some (.int (i - j)) := nr rfl
@[simp] theorem leD_i (i j : Int) : leD (.int i) (.int j) = some (.bool (decide (i ≤ j))) := nr rfl
@[simp] theorem leD_n (i j : Nat) : leD (nD i) (nD j) = some (.bool (decide (i ≤ j))) := by simp [leD, nD]
@[simp] theorem leD_in (i : Int) (j : Nat) : leD (.int i) (nD j) = some (.bool (decide (i ≤ j))) := nr rfl
@[simp] theorem leD_ni (i : Nat) (j : Int) : leD (nD i) (.int j) = some (.bool (decide ((i : Int) ≤ j))) := nr rfl
@[simp] theorem ltD_i (i j : Int) : ltD (.int i) (.int j) = some (.bool (decide (i < j))) := nr rfl
@[simp] theorem ltD_n (i j : Nat) : ltD (nD i) (nD j) = some (.bool (decide (i < j))) := by simp [ltD, nD]
@[simp] theorem ltD_ni (i : Nat) (j : Int) : ltD (nD i) (.int j) = some (.bool (decide ((i : Int) < j))) := nr rfl
@[simp] theorem gtD_ni (i : Nat) (j : Int) : gtD (nD i) (.int j) = some (.bool (decide (j < (i : Int)))) := nr rfl
@[simp] theorem gtD_i (i j : Int) : gtD (.int i) (.int j) = some (.bool (decide (j < i))) := nr rfl
@[simp] theorem gtD_n (i j : Nat) : gtD (nD i) (nD j) = some (.bool (decide (j < i))) := by simp [gtD, nD]
@[simp] theorem geD_n (i j : Nat) : geD (nD i) (nD j) = some (.bool (decide (j ≤ i))) := by simp [geD, nD]
@[simp] theorem geD_i (i j : Int) : geD (.int i) (.int j) = some (.bool (decide (j ≤ i))) := nr rfl
@[simp] theorem negD_i (i : Int) : negD (.int i) = some (.int (-i)) := nr rfl
@[simp] theorem lenD_l (ds : List D) : lenD [.list ds] = some (nD ds.length) := nr rfl
@[simp] theorem lenD_t (ds : List D) : lenD [.tuple ds] = some (nD ds.length) := nr rfl
@[simp] theorem lenD_nl (t : List Nat) : lenD [nlD t] = some (nD t.length) := by simp [nlD]
@[simp] theorem lenD_nt (t : List Nat) : lenD [ntD t] = some (nD t.length) := by simp [ntD]
@[simp] theorem isi_int_i (i : Int) : isiD "int" (.int i) = some (.bool true) := nr (by rfl)
theorem kit_int_bool : kitB "int" "bool" = some false := by decide +kernel
@[simp] theorem isi_bool_i (i : Int) : isiD "bool" (.int i) = some (.bool false) := by
  show (kitB "int" "bool").map PyData.bool = _
  rw [kit_int_bool]
  rfl
@[simp] theorem isi_int_n (i : Nat) : isiD "int" (nD i) = some (.bool true) := isi_int_i _
@[simp] theorem isi_bool_n (i : Nat) : isiD "bool" (nD i) = some (.bool false) := isi_bool_i _
@[simp] theorem isi_tuple_t (ds : List D) : isiD "tuple" (.tuple ds) = some (.bool true) := nr (by rfl)
@[simp] theorem isi_tuple_nt (t : List Nat) : isiD "tuple" (ntD t) = some (.bool true) := nr (by rfl)
theorem kx_none_int : kitB "NoneType" "int" = some false := by decide +kernel
@[simp] theorem isx_none_int  : isiD "int" .none = some (.bool false) := by
  show (kitB "NoneType" "int").map PyData.bool = _
  rw [kx_none_int]
  rfl
theorem kx_bool_int : kitB "bool" "int" = some true := by decide +kernel
@[simp] theorem isx_bool_int (x : Bool) : isiD "int" (.bool x) = some (.bool true) := by
  show (kitB "bool" "int").map PyData.bool = _
  rw [kx_bool_int]
  rfl
theorem kx_int_int : kitB "int" "int" = some true := by decide +kernel
@[simp] theorem isx_int_int (x : Int) : isiD "int" (.int x) = some (.bool true) := by
  show (kitB "int" "int").map PyData.bool = _
  rw [kx_int_int]
  rfl
theorem kx_str_int : kitB "str" "int" = some false := by decide +kernel
@[simp] theorem isx_str_int (x : Str) : isiD "int" (.str x) = some (.bool false) := by
  show (kitB "str" "int").map PyData.bool = _
  rw [kx_str_int]
  rfl
theorem kx_list_int : kitB "list" "int" = some false := by decide +kernel
@[simp] theorem isx_list_int (x : List D) : isiD "int" (.list x) = some (.bool false) := by
  show (kitB "list" "int").map PyData.bool = _
  rw [kx_list_int]
  rfl
theorem kx_tuple_int : kitB "tuple" "int" = some false := by decide +kernel
@[simp] theorem isx_tuple_int (x : List D) : isiD "int" (.tuple x) = some (.bool false) := by
  show (kitB "tuple" "int").map PyData.bool = _
  rw [kx_tuple_int]
  rfl
theorem kx_none_bool : kitB "NoneType" "bool" = some false := by decide +kernel
@[simp] theorem isx_none_bool  : isiD "bool" .none = some (.bool false) := by
  show (kitB "NoneType" "bool").map PyData.bool = _
  rw [kx_none_bool]
  rfl
theorem kx_bool_bool : kitB "bool" "bool" = some true := by decide +kernel
@[simp] theorem isx_bool_bool (x : Bool) : isiD "bool" (.bool x) = some (.bool true) := by
  show (kitB "bool" "bool").map PyData.bool = _
  rw [kx_bool_bool]
  rfl
theorem kx_int_bool : kitB "int" "bool" = some false := by decide +kernel
@[simp] theorem isx_int_bool (x : Int) : isiD "bool" (.int x) = some (.bool false) := by
  show (kitB "int" "bool").map PyData.bool = _
  rw [kx_int_bool]
  rfl
theorem kx_str_bool : kitB "str" "bool" = some false := by decide +kernel
@[simp] theorem isx_str_bool (x : Str) : isiD "bool" (.str x) = some (.bool false) := by
  show (kitB "str" "bool").map PyData.bool = _
  rw [kx_str_bool]
  rfl
theorem kx_list_bool : kitB "list" "bool" = some false := by decide +kernel
@[simp] theorem isx_list_bool (x : List D) : isiD "bool" (.list x) = some (.bool false) := by
  show (kitB "list" "bool").map PyData.bool = _
  rw [kx_list_bool]
  rfl
theorem kx_tuple_bool : kitB "tuple" "bool" = some false := by decide +kernel
@[simp] theorem isx_tuple_bool (x : List D) : isiD "bool" (.tuple x) = some (.bool false) := by
  show (kitB "tuple" "bool").map PyData.bool = _
  rw [kx_tuple_bool]
  rfl
theorem kx_none_str : kitB "NoneType" "str" = some false := by decide +kernel
@[simp] theorem isx_none_str  : isiD "str" .none = some (.bool false) := by
  show (kitB "NoneType" "str").map PyData.bool = _
  rw [kx_none_str]
  rfl
theorem kx_bool_str : kitB "bool" "str" = some false := by decide +kernel
@[simp] theorem isx_bool_str (x : Bool) : isiD "str" (.bool x) = some (.bool false) := by
  show (kitB "bool" "str").map PyData.bool = _
  rw [kx_bool_str]
  rfl
theorem kx_int_str : kitB "int" "str" = some false := by decide +kernel
@[simp] theorem isx_int_str (x : Int) : isiD "str" (.int x) = some (.bool false) := by
  show (kitB "int" "str").map PyData.bool = _
  rw [kx_int_str]
  rfl
theorem kx_str_str : kitB "str" "str" = some true := by decide +kernel
@[simp] theorem isx_str_str (x : Str) : isiD "str" (.str x) = some (.bool true) := by
  show (kitB "str" "str").map PyData.bool = _
  rw [kx_str_str]
  rfl
theorem kx_list_str : kitB "list" "str" = some false := by decide +kernel
@[simp] theorem isx_list_str (x : List D) : isiD "str" (.list x) = some (.bool false) := by
  show (kitB "list" "str").map PyData.bool = _
  rw [kx_list_str]
  rfl
theorem kx_tuple_str : kitB "tuple" "str" = some false := by decide +kernel
@[simp] theorem isx_tuple_str (x : List D) : isiD "str" (.tuple x) = some (.bool false) := by
  show (kitB "tuple" "str").map PyData.bool = _
  rw [kx_tuple_str]
  rfl
theorem kx_none_list : kitB "NoneType" "list" = some false := by decide +kernel
@[simp] theorem isx_none_list  : isiD "list" .none = some (.bool false) := by
  show (kitB "NoneType" "list").map PyData.bool = _
  rw [kx_none_list]
  rfl
theorem kx_bool_list : kitB "bool" "list" = some false := by decide +kernel
@[simp] theorem isx_bool_list (x : Bool) : isiD "list" (.bool x) = some (.bool false) := by
  show (kitB "bool" "list").map PyData.bool = _
  rw [kx_bool_list]
  rfl
theorem kx_int_list : kitB "int" "list" = some false := by decide +kernel
@[simp] theorem isx_int_list (x : Int) : isiD "list" (.int x) = some (.bool false) := by
  show (kitB "int" "list").map PyData.bool = _
  rw [kx_int_list]
  rfl
theorem kx_str_list : kitB "str" "list" = some false := by decide +kernel
@[simp] theorem isx_str_list (x : Str) : isiD "list" (.str x) = some (.bool false) := by
  show (kitB "str" "list").map PyData.bool = _
  rw [kx_str_list]
  rfl
theorem kx_list_list : kitB "list" "list" = some true := by decide +kernel
@[simp] theorem isx_list_list (x : List D) : isiD "list" (.list x) = some (.bool true) := by
  show (kitB "list" "list").map PyData.bool = _
  rw [kx_list_list]
  rfl
theorem kx_tuple_list : kitB "tuple" "list" = some false := by decide +kernel
@[simp] theorem isx_tuple_list (x : List D) : isiD "list" (.tuple x) = some (.bool false) := by
  show (kitB "tuple" "list").map PyData.bool = _
  rw [kx_tuple_list]
  rfl
theorem kx_none_tuple : kitB "NoneType" "tuple" = some false := by decide +kernel
@[simp] theorem isx_none_tuple  : isiD "tuple" .none = some (.bool false) := by
  show (kitB "NoneType" "tuple").map PyData.bool = _
  rw [kx_none_tuple]
  rfl
theorem kx_bool_tuple : kitB "bool" "tuple" = some false := by decide +kernel
@[simp] theorem isx_bool_tuple (x : Bool) : isiD "tuple" (.bool x) = some (.bool false) := by
  show (kitB "bool" "tuple").map PyData.bool = _
  rw [kx_bool_tuple]
  rfl
theorem kx_int_tuple : kitB "int" "tuple" = some false := by decide +kernel
@[simp] theorem isx_int_tuple (x : Int) : isiD "tuple" (.int x) = some (.bool false) := by
  show (kitB "int" "tuple").map PyData.bool = _
  rw [kx_int_tuple]
  rfl
theorem kx_str_tuple : kitB "str" "tuple" = some false := by decide +kernel
@[simp] theorem isx_str_tuple (x : Str) : isiD "tuple" (.str x) = some (.bool false) := by
  show (kitB "str" "tuple").map PyData.bool = _
  rw [kx_str_tuple]
  rfl
theorem kx_list_tuple : kitB "list" "tuple" = some false := by decide +kernel
@[simp] theorem isx_list_tuple (x : List D) : isiD "tuple" (.list x) = some (.bool false) := by
  show (kitB "list" "tuple").map PyData.bool = _
  rw [kx_list_tuple]
  rfl
theorem kx_tuple_tuple : kitB "tuple" "tuple" = some true := by decide +kernel
@[simp] theorem isx_tuple_tuple (x : List D) : isiD "tuple" (.tuple x) = some (.bool true) := by
  show (kitB "tuple" "tuple").map PyData.bool = _
  rw [kx_tuple_tuple]
  rfl
@[simp] theorem atom_i (i : Int) : atomD (.int i) = true := nr rfl
@[simp] theorem atom_n (i : Nat) : atomD (nD i) = true := nr rfl
@[simp] theorem atom_b (b : Bool) : atomD (.bool b) = true := nr rfl
@[simp] theorem fin_rt (d : D) (e : Env) : fin (.ok (.rt d, e)) = .ok d := nr rfl
@[simp] theorem fin_nx (e : Env) : fin (.ok (.nx, e)) = .ok .none := nr rfl
@[simp] theorem fin_err (c : Nat) : fin (.err c) = .err c := nr rfl
theorem finT_rt {d t : D} {e : Env} (h : e[1]? = some (some t)) : finT (.ok (.rt d, e)) = .ok (d, t) := by unfold finT; simp only [h]
@[simp] theorem neD_nn (i j : Nat) : neD (nD i) (nD j) = some (.bool (!decide (i = j))) := neD_n i j
@[simp] theorem eqD_nn (i j : Nat) : eqD (nD i) (nD j) = some (.bool (decide (i = j))) := eqD_n i j
@[simp] theorem neD_ii (i j : Int) : neD (.int i) (.int j) = some (.bool (!decide (i = j))) := neD_int i j
@[simp] theorem eqD_ii (i j : Int) : eqD (.int i) (.int j) = some (.bool (decide (i = j))) := eqD_int i j
@[simp] theorem neD_ni (i : Nat) (j : Int) : neD (nD i) (.int j) = some (.bool (!decide ((i : Int) = j))) := neD_int i j
@[simp] theorem eqD_ni (i : Nat) (j : Int) : eqD (nD i) (.int j) = some (.bool (decide ((i : Int) = j))) := eqD_int i j
@[simp] theorem isNot_n (i : Nat) : isNotD (nD i) .none = some (.bool true) := nr rfl
@[simp] theorem is_n (i : Nat) : isD (nD i) .none = some (.bool false) := nr rfl
@[simp] theorem isNot_none : isNotD .none .none = some (.bool false) := nr rfl
@[simp] theorem is_none : isD .none .none = some (.bool true) := nr rfl
@[simp] theorem is_bool (a b : Bool) : isD (.bool a) (.bool b) = some (.bool (decide (a = b))) := nr rfl
@[simp] theorem isNot_bool (a b : Bool) : isNotD (.bool a) (.bool b) = some (.bool (!decide (a = b))) := nr rfl
theorem mulD_r (i j : Int) (h : -(2 ^ 64) < j ∧ j < 2 ^ 64) : mulD (.int i) (.int j) = some (.int (i * j)) := by
  show (if _ then some (PyData.int (i * j)) else none) = _
  rw [if_pos (.inr h)]
theorem mulD_l (i j : Int) (h : -(2 ^ 64) < i ∧ i < 2 ^ 64) : mulD (.int i) (.int j) = some (.int (i * j)) := by
  show (if _ then some (PyData.int (i * j)) else none) = _
  rw [if_pos (.inl h)]
theorem modD_i (i j : Int) (h : 0 < j) : modD (.int i) (.int j) = some (.int (i % j)) := by
  show (if _ then some (PyData.int (i % j)) else none) = _
  rw [if_pos h]
theorem modD_n (i j : Nat) (h : 0 < j) : modD (nD i) (nD j) = some (nD (i % j)) := modD_i _ _ (by omega)
theorem powD_i (i j : Int) (h : 0 ≤ j ∧ j ≤ 1000000 ∧ i.natAbs < 2 ^ 64) : powD (.int i) (.int j) = some (.int (i ^ j.toNat)) := by
  show (if _ then some (PyData.int (i ^ j.toNat)) else none) = _
  rw [if_pos h]
/-- by place, in numbers -/
theorem atI_n {α : Type} {xs : List α} {k : Nat} {x : α} (h : xs[k]? = some x) : atI xs (k : Int) = some x := by
  have hl := lt_of_get h
  unfold atI ixN
  rw [if_pos (by omega), if_pos (by omega)]
  simpa using h
theorem idx_nt {t : List Nat} {i : Int} {k x : Nat} (hk : i = (k : Int)) (h : t[k]? = some x) : idxD (ntD t) (.int i) = some (nD x) := by
  subst hk
  show atI (t.map nD) (k : Int) = some (nD x)
  exact atI_n (by rw [List.getElem?_map, h]; rfl)
theorem idx_nl {t : List Nat} {i : Int} {k x : Nat} (hk : i = (k : Int)) (h : t[k]? = some x) : idxD (nlD t) (.int i) = some (nD x) := by
  subst hk
  show atI (t.map nD) (k : Int) = some (nD x)
  exact atI_n (by rw [List.getElem?_map, h]; rfl)
theorem idx_l {ds : List D} {i : Int} {k : Nat} {x : D} (hk : i = (k : Int)) (h : ds[k]? = some x) : idxD (.list ds) (.int i) = some x := by
  subst hk
  exact atI_n h
theorem idx_last {t : List Nat} {x : Nat} (h : t.getLast? = some x) : idxD (nlD t) (.int (-1)) = some (nD x) := by
  show atI (t.map nD) (-1) = some (nD x)
  have hne : t ≠ [] := fun z => by rw [z] at h; cases h
  have hl : 0 < t.length := List.length_pos_iff.mpr hne
  unfold atI ixN
  rw [if_neg (by omega), if_pos (by rw [List.length_map]; omega)]
  simp only [List.length_map, Option.bind_some]
  have e : ((-1 : Int) + (t.length : Int)).toNat = t.length - 1 := by omega
  rw [e, List.getElem?_map, ← List.getLast?_eq_getElem?, h]
  rfl
end Hz

namespace Hz
open PySem PySem.Spec PyProof.Rows L2
/-! ### what holds behind a piece -/
@[simp] theorem Ok_ok {α : Type} (a : α) (P : α → Prop) : Ok (.ok a) P ↔ P a := ⟨fun ⟨b, e, p⟩ => by cases e; exact p, fun p => ⟨a, rfl, p⟩⟩
@[simp] theorem Ok_bind {α β : Type} (r : R α) (k : α → R β) (P : β → Prop) : Ok (r.bind k) P ↔ Ok r fun a => Ok (k a) P := by
  refine ⟨fun ⟨b, e, p⟩ => ?_, Ok.bind⟩
  cases r with
  | ok a => exact ⟨a, rfl, b, e, p⟩
  | err c => cases e
  | bad => cases e
theorem Ok_ite {α : Type} {c : Prop} [Decidable c] {r t : R α} {P : α → Prop} (h1 : c → Ok r P) (h2 : ¬ c → Ok t P) : Ok (if c then r else t) P := by
  by_cases h : c
  · rw [if_pos h]; exact h1 h
  · rw [if_neg h]; exact h2 h
def thenP (r : Fl × Env) (A : Env → Prop) (B : Prop) : Prop := match r.1 with
  | .nx => A r.2
  | _ => B
@[simp] theorem thenP_nx (e : Env) (A : Env → Prop) (B : Prop) : thenP (.nx, e) A B = A e := nr rfl
@[simp] theorem thenP_rt (d : D) (e : Env) (A : Env → Prop) (B : Prop) : thenP (.rt d, e) A B = B := nr rfl
theorem Ok_seq {f g : Env → R (Fl × Env)} {e : Env} {P : Fl × Env → Prop} (h : Ok (f e) fun r => thenP r (fun e' => Ok (g e') P) (P r)) : Ok (seqS f g e) P := by
  obtain ⟨⟨fl, e'⟩, h1, h2⟩ := h
  unfold seqS
  rw [h1]
  cases fl with
  | nx => exact h2
  | rt d => exact ⟨_, rfl, h2⟩
  | bk => exact ⟨_, rfl, h2⟩
  | ct => exact ⟨_, rfl, h2⟩
theorem Ok_fin {r : R (Fl × Env)} {P : D → Prop} (h : Ok r fun a => ∃ d, a.1 = .rt d ∧ P d) : Ok (fin r) P := by
  obtain ⟨⟨fl, e⟩, rfl, d, h1, h2⟩ := h
  cases h1
  exact ⟨d, rfl, h2⟩
theorem Ok_finT {r : R (Fl × Env)} {P : D × D → Prop} (h : Ok r fun a => ∃ d t, a.1 = .rt d ∧ a.2[1]? = some (some t) ∧ P (d, t)) : Ok (finT r) P := by
  obtain ⟨⟨fl, e⟩, rfl, d, t, h1, h2, h3⟩ := h
  cases h1
  exact ⟨(d, t), finT_rt h2, h3⟩
theorem Ok_eq {α : Type} {r : R α} {P : α → Prop} {a : α} (h : r = .ok a) (p : P a) : Ok r P := ⟨a, h, p⟩
theorem Ok_compD {α β : Type} {fi : Env → R (List D × Env)} {vs : List Nat} {b : D → Env → Option Env} {el : Env → R (D × Env)} {env : Env} {Q : D × Env → Prop} (enc : α → D) (en2 : β → D) (P : α → β → Prop) (xs : List α) (I : Nat → Env → Prop) (hi : fi env = .ok (xs.map enc, env)) (hl : xs.length ≤ 1000000) (h0 : I 0 (wipeE env vs))
    (st : ∀ i x e, xs[i]? = some x → I i e → ∃ e1, b (enc x) e = some e1 ∧ Ok (el e1) fun r => ∃ y, r.1 = en2 y ∧ P x y ∧ I (i + 1) (wipeE r.2 vs))
    (q : ∀ (ys : List β) (e' : Env), I xs.length e' → ys.length = xs.length → (∀ (i : Nat) (x : α) (y : β), xs[i]? = some x → ys[i]? = some y → P x y) → Q (.list (ys.map en2), restE env vs e')) : Ok (compD fi vs b yesT el env) Q := by
  obtain ⟨ys, e', h1, h2, h3, h4⟩ := compD_ix enc en2 P xs I hi hl h0 (fun i x e hx hI => by
    obtain ⟨e1, h1, ⟨d, e2⟩, h2, y, h3, h4, h5⟩ := st i x e hx hI
    cases h3
    exact ⟨e1, y, e2, h1, h2, h4, h5⟩)
  exact ⟨_, h1, q ys e' h2 h3 h4⟩
theorem Ok_compP {α : Type} {fi : Env → R (List D × Env)} {vs : List Nat} {b : D → Env → Option Env} {c : Env → R (Bool × Env)} {el : Env → R (D × Env)} {env : Env} {Q : D × Env → Prop} (enc : α → D) (p : α → Bool) (g : α → D) (xs : List α) (hi : fi env = .ok (xs.map enc, env)) (hl : xs.length ≤ 1000000)
    (h : ∀ x ∈ xs, ∃ e1, b (enc x) (wipeE env vs) = some e1 ∧ c e1 = .ok (p x, e1) ∧ (p x = true → el e1 = .ok (g x, e1)) ∧ wipeE e1 vs = wipeE env vs) (hr : restE env vs (wipeE env vs) = env) (q : Q (.list ((xs.filter p).map g), env)) : Ok (compD fi vs b c el env) Q :=
  ⟨_, compD_map enc p g xs hi hl h hr, q⟩
theorem Ok_compY {α : Type} {fi : Env → R (List D × Env)} {vs : List Nat} {b : D → Env → Option Env} {el : Env → R (D × Env)} {env : Env} {Q : D × Env → Prop} (enc : α → D) (g : α → D) (xs : List α) (hi : fi env = .ok (xs.map enc, env)) (hl : xs.length ≤ 1000000)
    (h : ∀ x ∈ xs, ∃ e1, b (enc x) (wipeE env vs) = some e1 ∧ el e1 = .ok (g x, e1) ∧ wipeE e1 vs = wipeE env vs) (hr : restE env vs (wipeE env vs) = env) (q : Q (.list (xs.map g), env)) : Ok (compD fi vs b yesT el env) Q := by
  refine Ok_compP enc (fun _ => true) g xs hi hl (fun x hx => ?_) hr ?_
  · obtain ⟨e1, h1, h2, h3⟩ := h x hx
    exact ⟨e1, h1, rfl, fun _ => h2, h3⟩
  · rw [List.filter_eq_self.mpr fun _ _ => rfl]
    exact q
def cI (ds : List D) : Env → R (List D × Env) := fun e => .ok (ds, e)
theorem Ok_compI {fi : Env → R (List D × Env)} {vs : List Nat} {b : D → Env → Option Env} {c : Env → R (Bool × Env)} {el : Env → R (D × Env)} {env e1 : Env} {ds : List D} {Q : D × Env → Prop} (hi : fi env = .ok (ds, e1)) (h : Ok (compD (cI ds) vs b c el e1) Q) : Ok (compD fi vs b c el env) Q := by
  unfold compD at h ⊢
  rw [hi]
  exact h
theorem Ok_forL {α : Type} {b : D → Env → Option Env} {body : Env → R (Fl × Env)} {e : Env} {Q : Fl × Env → Prop} (enc : α → D) (xs : List α) (I : Nat → Env → Prop) (h0 : I 0 e) (st : ∀ i x e, xs[i]? = some x → I i e → ∃ e1, b (enc x) e = some e1 ∧ Ok (body e1) fun r => r.1 = .nx ∧ I (i + 1) r.2)
    (q : ∀ e', I xs.length e' → Q (.nx, e')) : Ok (forL b body (xs.map enc) e) Q := by
  obtain ⟨e', h1, h2⟩ := forL_idx enc xs I e h0 (fun i x e hx hI => by
    obtain ⟨e1, h1, ⟨fl, e2⟩, h2, h3, h4⟩ := st i x e hx hI
    cases h3
    exact ⟨e1, e2, h1, h2, h4⟩)
  exact ⟨_, h1, q e' h2⟩
theorem rgD_nat (m n : Nat) : rgD (m : Int) (n : Int) = (List.range' m (n - m)).map nD := rangeL_nat m n
theorem lrg2_n (m n : Nat) (hm : m ≤ 1000) (hn : n ≤ 1000) : lrg2D (nD m) (nD n) = some (nlD (List.range' m (n - m))) := by
  show (if -1000 ≤ (m : Int) ∧ (m : Int) ≤ 1000 ∧ -1000 ≤ (n : Int) ∧ (n : Int) ≤ 1000 then some (PyData.list (rgD m n)) else none) = _
  rw [if_pos ⟨by omega, by omega, by omega, by omega⟩, rgD_nat]
  rfl
theorem lrg2_lit (md : D) (m n : Nat) (hmd : md = nD m) (hm : m ≤ 1000) (hn : n ≤ 1000) : lrg2D md (nD n) = some (nlD (List.range' m (n - m))) := by
  subst hmd
  exact lrg2_n m n hm hn
theorem rng2_lit (md : D) (m n : Nat) (hmd : md = nD m) (h : n ≤ 1000000) (h' : m ≤ 1000000) : rng2 [md, nD n] = some ((List.range' m (n - m)).map nD) := by
  subst hmd
  exact rng2_n m n h h'
theorem rng1_lit (md : D) (n : Nat) (hmd : md = nD n) (h : n ≤ 1000000) : rng1 [md] = some ((List.range n).map nD) := by
  subst hmd
  exact rng1_n n h
theorem erase_map {α β : Type} (f : α → β) : ∀ (l : List α) (j : Nat), (l.map f).eraseIdx j = (l.eraseIdx j).map f
  | [], _ => rfl
  | _ :: _, 0 => rfl
  | a :: l, j + 1 => by
    rw [List.map_cons, List.eraseIdx_cons_succ, List.eraseIdx_cons_succ, erase_map f l j]
    rfl
theorem perm_erase {α : Type} : ∀ (l : List α) (j : Nat) (x : α), l[j]? = some x → (x :: l.eraseIdx j).Perm l
  | [], j, x, h => by simp at h
  | a :: l, 0, x, h => by
    cases h
    exact List.Perm.refl _
  | a :: l, j + 1, x, h => by
    rw [List.eraseIdx_cons_succ]
    exact (List.Perm.swap a x _).trans ((perm_erase l j x (by simpa using h)).cons a)
theorem getR {n i x : Nat} (h : (List.range n)[i]? = some x) : x = i ∧ i < n := by
  rw [List.getElem?_eq_some_iff] at h
  obtain ⟨h1, h2⟩ := h
  simp at h1 h2
  exact ⟨h2.symm, h1⟩
theorem getR' {m n i x : Nat} (h : (List.range' m n)[i]? = some x) : x = m + i ∧ i < n := by
  rw [List.getElem?_eq_some_iff] at h
  obtain ⟨h1, h2⟩ := h
  simp at h1 h2
  exact ⟨h2.symm, h1⟩
theorem nl_fold (l : List Nat) : PyData.list (l.map nD) = nlD l := rfl
theorem nt_fold (l : List Nat) : PyData.tuple (l.map nD) = ntD l := rfl
@[simp] theorem revD_nl (W : List Nat) : revD (nlD W) = some (nlD W.reverse) := by
  show some (PyData.list (W.map nD).reverse) = _
  rw [← List.map_reverse]
  rfl
theorem Ok_forD {b : D → Env → Option Env} {body : Env → R (Fl × Env)} {e : Env} {Q : Fl × Env → Prop} (xs : List D) (I : Nat → Env → Prop) (h0 : I 0 e) (st : ∀ i x e, xs[i]? = some x → I i e → ∃ e1, b x e = some e1 ∧ Ok (body e1) fun r => r.1 = .nx ∧ I (i + 1) r.2)
    (q : ∀ e', I xs.length e' → Q (.nx, e')) : Ok (forL b body xs e) Q := by
  have h := Ok_forL (b := b) (body := body) (e := e) (Q := Q) id xs I h0 st q
  rwa [List.map_id] at h
theorem rng1_pred (n : Nat) (h : n ≤ 1000000) : rng1 [.int ((n : Int) - 1)] = some ((List.range (n - 1)).map nD) := by
  show (if (n : Int) - 1 ≤ 1000000 ∧ -1000000 ≤ (n : Int) - 1 then some (rangeL 0 ((n : Int) - 1)) else none) = _
  rw [if_pos ⟨by omega, by omega⟩]
  unfold rangeL
  rw [show ((n : Int) - 1 - 0).toNat = n - 1 by omega]
  congr 1
  refine List.map_congr_left fun k _ => ?_
  unfold nD
  congr 1
  omega
theorem dep_up {d : D} (h : dep 0 d = true) (n : Nat) : dep n d = true := by
  cases d <;> first | (cases n <;> rfl; done) | skip
  · cases n <;> exact h
  · simp [dep] at h
  · simp [dep] at h
  · simp [dep] at h
theorem dep_list {ds : List D} {n : Nat} (h : ∀ d ∈ ds, dep n d = true) : dep (n + 1) (.list ds) = true := by
  simp only [dep, List.all_eq_true]
  exact h
theorem dep_tuple {ds : List D} {n : Nat} (h : ∀ d ∈ ds, dep n d = true) : dep (n + 1) (.tuple ds) = true := by
  simp only [dep, List.all_eq_true]
  exact h
theorem addD_l (xs ys : List D) (h : xs.length + ys.length ≤ 1000000) : addD (.list xs) (.list ys) = some (.list (xs ++ ys)) := by
  show (if _ then some (PyData.list (xs ++ ys)) else none) = _
  rw [if_pos h]
/-! cuts -/
def intO (d : D) (e : Env) : R (Option Int × Env) := match d with
  | .int i => .ok (some i, e)
  | _ => .bad
@[simp] theorem intO_i (i : Int) (e : Env) : intO (.int i) e = .ok (some i, e) := nr rfl
@[simp] theorem intO_n (i : Nat) (e : Env) : intO (nD i) e = .ok (some (i : Int), e) := nr rfl
theorem cut_from {α : Type} (xs : List α) (k : Nat) : cutL xs (some (k : Int)) none = xs.drop k := by
  unfold cutL
  rw [HT.sIx_nat, HT.sIx_none]
  by_cases h : k ≤ xs.length
  · rw [Nat.min_eq_left h, List.take_of_length_le (by rw [List.length_drop]; omega)]
  · rw [Nat.min_eq_right (by omega), Nat.sub_self, List.take_zero, List.drop_eq_nil_of_le (by omega)]
theorem cut_to {α : Type} (xs : List α) (k : Nat) : cutL xs none (some (k : Int)) = xs.take k := by
  unfold cutL
  rw [HT.sIx_nat, HT.sIx_none, List.drop_zero, Nat.sub_zero]
  by_cases h : k ≤ xs.length
  · rw [Nat.min_eq_left h]
  · rw [Nat.min_eq_right (by omega), List.take_of_length_le (Nat.le_refl _), List.take_of_length_le (by omega)]
@[simp] theorem ev_sliceD (a : Env → R (D × Env)) (lo hi : Env → R (Option Int × Env)) (e : Env) : sliceD a lo hi e = (a e).bind fun x => (lo x.2).bind fun l => (hi l.2).bind fun h => (lift (cutD x.1 l.1 h.1)).bind fun d => .ok (d, h.2) := nr rfl
@[simp] theorem ev_noO (e : Env) : noO e = .ok (none, e) := nr rfl
@[simp] theorem ev_someO (a : Env → R (D × Env)) (e : Env) : someO a e = (a e).bind fun x => intO x.1 x.2 := by unfold someO intO; exact nr rfl
@[simp] theorem cutD_l (ds : List D) (lo hi : Option Int) : cutD (.list ds) lo hi = some (.list (cutL ds lo hi)) := nr rfl
@[simp] theorem cutD_t (ds : List D) (lo hi : Option Int) : cutD (.tuple ds) lo hi = some (.tuple (cutL ds lo hi)) := nr rfl
/-! dicts of numbers -/
def pD (p : Nat × Nat) : D × D := (nD p.1, nD p.2)
theorem keq_n (i j : Nat) : keqD (nD i) (nD j) = decide (i = j) := by
  show decide ((i : Int) = (j : Int)) = _
  exact decide_eq_decide.mpr Int.ofNat_inj
theorem valD_n (k : Nat) : ∀ l : List (Nat × Nat), valD (l.map pD) (nD k) = (l.find? fun p => decide (p.1 = k)).map fun p => nD p.2
  | [] => rfl
  | p :: l => by
    rw [List.map_cons]
    show (if keqD (nD p.1) (nD k) = true then some (nD p.2) else valD (l.map pD) (nD k)) = _
    rw [keq_n, valD_n k l, List.find?_cons]
    by_cases h : p.1 = k <;> simp [h]
theorem mergeD_n : ∀ (l acc : List (Nat × Nat)), ((acc ++ l).map (·.1)).Nodup → mergeD (acc.map pD) (l.map pD) = (acc ++ l).map pD
  | [], acc, _ => by simp [mergeD]
  | p :: l, acc, h => by
    rw [List.map_cons]
    have hno : hasD (acc.map pD) (nD p.1) = false := by
      unfold hasD
      rw [valD_n]
      have : acc.find? (fun q => decide (q.1 = p.1)) = none := by
        rw [List.find?_eq_none]
        intro q hq
        simp only [decide_eq_true_eq]
        intro z
        rw [List.map_append, List.map_cons, List.nodup_append] at h
        exact h.2.2 q.1 (List.mem_map_of_mem hq) p.1 List.mem_cons_self z
      rw [this]
      rfl
    have e : putD (acc.map pD) (nD p.1) (nD p.2) = (acc ++ [p]).map pD := by
      unfold putD
      rw [hno]
      simp [pD]
    show mergeD (putD (acc.map pD) (nD p.1) (nD p.2)) (l.map pD) = _
    rw [e, mergeD_n l (acc ++ [p]) (by simpa using h)]
    simp
theorem pairsOf_n : ∀ l : List (Nat × Nat), pairsOf (l.map fun p => .tuple [nD p.1, nD p.2]) = some (l.map pD)
  | [] => rfl
  | p :: l => by
    rw [List.map_cons]
    show (match keyOf (nD p.1), pairsOf (l.map fun p => .tuple [nD p.1, nD p.2]) with
      | some _, some r => some ((nD p.1, nD p.2) :: r)
      | _, _ => none) = _
    rw [pairsOf_n l]
    rfl
theorem dictD_n (l : List (Nat × Nat)) (h : (l.map (·.1)).Nodup) : dictD [.list (l.map fun p => .tuple [nD p.1, nD p.2])] = some (.dict (l.map pD)) := by
  show (pairsOf (l.map fun p => .tuple [nD p.1, nD p.2])).map (fun l => PyData.dict (mergeD [] l)) = _
  rw [pairsOf_n l]
  simp only [Option.map_some]
  have := mergeD_n l [] (by simpa using h)
  rw [show ([] : List (D × D)) = ([] : List (Nat × Nat)).map pD from rfl, this]
  simp
theorem dgetD_n {l : List (Nat × Nat)} (h : (l.map (·.1)).Nodup) {k v : Nat} (hm : (k, v) ∈ l) : dgetD (.dict (l.map pD)) (nD k) = some (nD v) := by
  show valD (l.map pD) (nD k) = _
  rw [valD_n]
  have : l.find? (fun p => decide (p.1 = k)) = some (k, v) := by
    induction l with
    | nil => cases hm
    | cons p l ih =>
      rw [List.find?_cons]
      rw [List.map_cons, List.nodup_cons] at h
      rcases List.mem_cons.mp hm with e | e
      · subst e
        simp
      · have : p.1 ≠ k := fun z => h.1 (by rw [z]; exact List.mem_map_of_mem (f := fun q : Nat × Nat => q.1) e)
        simp [this]
        simpa using ih h.2 e
  rw [this]
  rfl
end Hz

namespace Hz
open PySem PySem.Spec PyProof.Rows L2
theorem Ok_while {c : Env → R (Bool × Env)} {body : Env → R (Fl × Env)} {e : Env} {Q : Fl × Env → Prop} (I : Nat → Env → Prop) (m : Nat) (hm : m < 1000000) (h0 : I m e)
    (st : ∀ m e, I m e → Ok (c e) fun r => (r.1 = true → Ok (body r.2) fun q => q.1 = .nx ∧ ∃ m', m' < m ∧ I m' q.2) ∧ (r.1 = false → Q (.nx, r.2))) : Ok (whileS c body e) Q := by
  obtain ⟨e0, m0, e', h1, h2, h3⟩ := whileL_inv I fuel m e hm h0 (fun m e hI => by
    obtain ⟨⟨t, e1⟩, h1, h2, _⟩ := st m e hI
    refine ⟨t, e1, h1, fun ht => ?_⟩
    obtain ⟨⟨fl, e2⟩, h3, h4, m', h5, h6⟩ := h2 ht
    cases h4
    exact ⟨e2, m', h3, h5, h6⟩)
  obtain ⟨r, q1, _, q2⟩ := st m0 e0 h1
  rw [h2] at q1
  cases q1
  exact ⟨_, h3, q2 rfl⟩
/-- a for loop that may return -/
theorem Ok_forR {α : Type} {b : D → Env → Option Env} {body : Env → R (Fl × Env)} {e : Env} {Q : Fl × Env → Prop} (enc : α → D) (xs : List α) (I : Nat → Env → Prop) (h0 : I 0 e) (st : ∀ i x e, xs[i]? = some x → I i e → ∃ e1, b (enc x) e = some e1 ∧ Ok (body e1) fun r => (r.1 = .nx ∧ I (i + 1) r.2) ∨ ∃ d, r.1 = .rt d ∧ Q (.rt d, r.2))
    (q : ∀ e', I xs.length e' → Q (.nx, e')) : Ok (forL b body (xs.map enc) e) Q := by
  have key : ∀ (ys : List α) (i : Nat) (e : Env), xs.drop i = ys → i + ys.length = xs.length → I i e → Ok (forL b body (ys.map enc) e) Q := by
    intro ys
    induction ys with
    | nil =>
      intro i e hd hl h
      refine ⟨_, rfl, q e ?_⟩
      have z : xs.length = i := by simpa using hl.symm
      rw [z]
      exact h
    | cons y ys ih =>
      intro i e hd hl h
      have hx : xs[i]? = some y := by
        have := congrArg (fun l => l[0]?) hd
        simpa using this
      have hd2 : xs.drop (i + 1) = ys := by
        rw [← List.drop_drop, hd]
        rfl
      obtain ⟨e1, h1, ⟨fl, e2⟩, h2, h3⟩ := st i y e hx h
      rw [List.map_cons, forL, h1]
      simp only [lift_some, bind_ok, h2]
      rcases h3 with ⟨rfl, h3⟩ | ⟨d, rfl, h3⟩
      · exact ih (i + 1) e2 hd2 (by rw [List.length_cons] at hl; omega) h3
      · exact ⟨_, rfl, h3⟩
  exact key xs 0 e rfl (by simp) h0
/-! ### going up a tree -/
def up (t : List Nat) (h : Nat) : Nat := if h = 0 then 0 else t.getD (h - 1) 0
def upN (t : List Nat) : Nat → Nat → Nat
  | 0, h => h
  | k + 1, h => upN t k (up t h)
def farN (t : List Nat) : Nat → Nat → Option Nat
  | f, 0 => some 0
  | 0, _ + 1 => none
  | f + 1, h + 1 => (farN t f (up t (h + 1))).map (· + 1)
def Whole (t : List Nat) : Prop := ∀ x ∈ t, x ≤ t.length
section
variable {t : List Nat}
theorem up_zero : up t 0 = 0 := rfl
theorem up_at {h x : Nat} (hx : t[h]? = some x) : up t (h + 1) = x := by
  unfold up
  rw [if_neg (by omega)]
  simp [List.getD, hx]
theorem up_get {h : Nat} (h1 : 1 ≤ h) (h2 : h ≤ t.length) : t[h - 1]? = some (up t h) := by
  unfold up
  rw [if_neg (by omega), List.getD, List.getElem?_eq_getElem (by omega)]
  rfl
theorem up_le (w : Whole t) (h : Nat) : up t h ≤ t.length := by
  unfold up
  split
  · omega
  · rw [List.getD]
    cases e : t[h - 1]? with
    | none => simp
    | some x => exact w x (List.mem_of_getElem? e)
theorem upN_zero : ∀ k, upN t k 0 = 0
  | 0 => rfl
  | k + 1 => by rw [upN, up_zero, upN_zero k]
theorem upN_add : ∀ (i j h : Nat), upN t (i + j) h = upN t j (upN t i h)
  | 0, j, h => by rw [Nat.zero_add]; rfl
  | i + 1, j, h => by rw [show i + 1 + j = i + j + 1 by omega, upN, upN, upN_add i j]
theorem upN_le (w : Whole t) : ∀ (k h : Nat), h ≤ t.length → upN t k h ≤ t.length
  | 0, h, hh => hh
  | k + 1, h, _ => upN_le w k _ (up_le w h)
theorem upN_stay {i j h : Nat} (hij : i ≤ j) (h0 : upN t i h = 0) : upN t j h = 0 := by
  rw [show j = i + (j - i) by omega, upN_add, h0, upN_zero]
theorem farN_zero (f : Nat) : farN t f 0 = some 0 := by cases f <;> rfl
theorem farN_iff : ∀ (f h : Nat), (farN t f h).isSome = true ↔ upN t f h = 0
  | 0, 0 => by simp [farN, upN]
  | 0, h + 1 => by simp [farN, upN]
  | f + 1, 0 => by simp [farN, upN, up_zero, upN_zero]
  | f + 1, h + 1 => by
    rw [farN, Option.isSome_map, farN_iff f, upN]
theorem farN_far : ∀ (f h k : Nat), farN t f h = some k → k ≤ f ∧ upN t k h = 0 ∧ ∀ j, j < k → upN t j h ≠ 0
  | f, 0, k, e => by
    rw [farN_zero] at e
    cases e
    exact ⟨Nat.zero_le _, rfl, fun j hj => by omega⟩
  | 0, h + 1, k, e => by cases e
  | f + 1, h + 1, k, e => by
    rw [farN, Option.map_eq_some_iff] at e
    obtain ⟨k', e, rfl⟩ := e
    obtain ⟨h1, h2, h3⟩ := farN_far f _ k' e
    refine ⟨by omega, h2, fun j hj => ?_⟩
    cases j with
    | zero => simp [upN]
    | succ j => exact h3 j (by omega)
theorem farN_mono : ∀ (f g h k : Nat), f ≤ g → farN t f h = some k → farN t g h = some k
  | f, g, 0, k, _, e => by rw [farN_zero] at e ⊢; exact e
  | 0, g, h + 1, k, _, e => by cases e
  | f + 1, 0, h + 1, k, hg, e => by omega
  | f + 1, g + 1, h + 1, k, hg, e => by
    rw [farN, Option.map_eq_some_iff] at e ⊢
    obtain ⟨k', e, rfl⟩ := e
    exact ⟨k', farN_mono f g _ k' (by omega) e, rfl⟩
end
theorem nodup_le : ∀ (n : Nat) (l : List Nat), l.Nodup → (∀ x ∈ l, x < n) → l.length ≤ n
  | 0, [], _, _ => Nat.le_refl _
  | 0, x :: l, _, h => by have := h x List.mem_cons_self; omega
  | n + 1, l, hd, h => by
    have h1 := nodup_le n (l.erase n) (hd.erase n) (fun x hx => by
      have := h x (List.mem_of_mem_erase hx)
      have : x ≠ n := fun z => by
        rw [z] at hx
        exact (List.Nodup.not_mem_erase hd) hx
      omega)
    have h2 : l.length ≤ (l.erase n).length + 1 := by
      rw [List.length_erase]
      split <;> omega
    omega
theorem upN_pigeon {t : List Nat} (w : Whole t) {h : Nat} (hh : h ≤ t.length) (e : upN t (t.length + 1) h = 0) : upN t t.length h = 0 := by
  refine Classical.byContradiction fun hn => ?_
  have nz : ∀ i, i ≤ t.length → upN t i h ≠ 0 := fun i hi z => hn (upN_stay hi z)
  have hd : ((List.range (t.length + 1)).map fun i => upN t i h - 1).Nodup := by
    rw [List.nodup_iff_pairwise_ne, List.pairwise_map]
    refine List.Pairwise.imp_of_mem (R := fun i j => i < j) (fun {i j} hi hj hij z => ?_) List.pairwise_lt_range
    simp at hi hj
    have h1 := nz i (by omega)
    have h2 := nz j (by omega)
    have z' : upN t i h = upN t j h := by omega
    have h3 : upN t (i + (t.length + 1 - j)) h = 0 := by rw [upN_add, z', ← upN_add, show j + (t.length + 1 - j) = t.length + 1 by omega, e]
    exact nz _ (by omega) h3
  have := nodup_le t.length _ hd (fun x hx => by
    simp at hx
    obtain ⟨i, hi, rfl⟩ := hx
    have h1 := nz i (by omega)
    have h2 := upN_le w i h hh
    omega)
  simp at this
  omega
structure IsTree (t : List Nat) : Prop where
  pos : 1 ≤ t.length
  le : ∀ x ∈ t, x ≤ t.length
  rank : ∃ r : Nat → Nat, (∀ h, h ≤ t.length → r h ≤ t.length) ∧ ∀ (k x : Nat), t[k]? = some x → r x < r (k + 1)
theorem IsTree.top {t : List Nat} (T : IsTree t) {h : Nat} (hh : h ≤ t.length) : upN t t.length h = 0 := by
  obtain ⟨r, h1, h2⟩ := T.rank
  have key : ∀ (n h : Nat), h ≤ t.length → r h ≤ n → upN t n h = 0 := by
    intro n
    induction n with
    | zero =>
      intro h hh hr
      by_cases z : h = 0
      · rw [z, upN_zero]
      · have := h2 (h - 1) (up t h) (up_get (by omega) hh)
        rw [show h - 1 + 1 = h by omega] at this
        omega
    | succ n ih =>
      intro h hh hr
      by_cases z : h = 0
      · rw [z, upN_zero]
      · have := h2 (h - 1) (up t h) (up_get (by omega) hh)
        rw [show h - 1 + 1 = h by omega] at this
        rw [upN]
        exact ih _ (up_le T.le h) (by omega)
  exact key t.length h hh (h1 h hh)
theorem IsTree.far {t : List Nat} (T : IsTree t) {h : Nat} (hh : h ≤ t.length) : ∃ k, k ≤ t.length ∧ farN t (t.length + 1) h = some k ∧ farN t t.length h = some k := by
  obtain ⟨k, hk⟩ := Option.isSome_iff_exists.mp ((farN_iff t.length h).mpr (T.top hh))
  exact ⟨k, (farN_far _ _ _ hk).1, farN_mono _ _ _ _ (by omega) hk, hk⟩
end Hz

namespace Hz
open PySem PySem.Spec PyProof.Rows L2
theorem ofOk {α : Type} {r : R α} {a : α} (h : Ok r fun x => x = a) : r = .ok a := by
  obtain ⟨x, e, rfl⟩ := h
  exact e
/-- a comprehension whose elements hang on those before -/
theorem compL_acc {α β : Type} {vs : List Nat} {b : D → Env → Option Env} {el : Env → R (D × Env)} (enc : α → D) (en2 : β → D) (I : List β → Env → Prop) (n : Nat)
    (st : ∀ x acc e, acc.length < n → I acc e → ∃ e1, b (enc x) e = some e1 ∧ Ok (el e1) fun r => ∃ y, r.1 = en2 y ∧ I (acc ++ [y]) (wipeE r.2 vs)) :
    ∀ (xs : List α) (acc : List β) (e : Env), acc.length + xs.length ≤ n → I acc e → ∃ ys e', compL vs b yesT el (xs.map enc) e = .ok (ys.map en2, e') ∧ I (acc ++ ys) e' ∧ ys.length = xs.length
  | [], acc, e, _, h => ⟨[], e, rfl, by simpa using h, rfl⟩
  | x :: xs, acc, e, hl, h => by
    rw [List.length_cons] at hl
    obtain ⟨e1, h1, ⟨d, e2⟩, h2, y, h3, h4⟩ := st x acc e (by omega) h
    simp only at h3
    subst h3
    obtain ⟨ys, e', h5, h6, h7⟩ := compL_acc enc en2 I n st xs (acc ++ [y]) _ (by simp; omega) h4
    refine ⟨y :: ys, e', ?_, by simpa using h6, by simp [h7]⟩
    rw [List.map_cons, compL, h1]
    simp only [lift_some, bind_ok, ev_yesT, ne_ok, if_true, h2]
    rw [h5]
    rfl
theorem Ok_compA {α β : Type} {fi : Env → R (List D × Env)} {vs : List Nat} {b : D → Env → Option Env} {el : Env → R (D × Env)} {env env1 : Env} {Q : D × Env → Prop} (enc : α → D) (en2 : β → D) (xs : List α) (I : List β → Env → Prop) (hi : fi env = .ok (xs.map enc, env1)) (hl : xs.length ≤ 1000000) (h0 : I [] (wipeE env1 vs))
    (st : ∀ x acc e, acc.length < xs.length → I acc e → ∃ e1, b (enc x) e = some e1 ∧ Ok (el e1) fun r => ∃ y, r.1 = en2 y ∧ I (acc ++ [y]) (wipeE r.2 vs))
    (q : ∀ (ys : List β) (e' : Env), I ys e' → ys.length = xs.length → Q (.list (ys.map en2), restE env1 vs e')) : Ok (compD fi vs b yesT el env) Q := by
  obtain ⟨ys, e', h1, h2, h3⟩ := compL_acc enc en2 I xs.length st xs [] _ (by simp) h0
  refine ⟨_, ?_, q ys e' (by simpa using h2) h3⟩
  unfold compD
  rw [hi]
  simp only [bind_ok]
  rw [if_pos (by simpa using hl), h1]
  rfl
theorem zip2_map {α : Type} (f : α → D) (hf : ∀ a b, needN [f a, f b] = false) (xs ys : List α) : zip2 [.tuple (xs.map f), .tuple (ys.map f)] = some ((xs.zip ys).map fun p => .tuple [f p.1, f p.2]) := by
  have hz : ∀ (xs ys : List α), (xs.map f).zip (ys.map f) = (xs.zip ys).map fun p => (f p.1, f p.2) := by
    intro xs
    induction xs with
    | nil => intro ys; rfl
    | cons x xs ih =>
      intro ys
      cases ys with
      | nil => rfl
      | cons y ys => simp [ih]
  simp only [zip2]
  rw [hz, if_pos]
  · rw [List.map_map]
    rfl
  · rw [List.all_eq_true]
    intro p hp
    obtain ⟨i, _, rfl⟩ := List.mem_map.mp hp
    simp [hf]
end Hz

namespace Hz
open PySem PySem.Spec PyProof.Rows L2
/-! ### posts: reckoning by simp -/
def posR (xt xb xs xi xa xl xh xr xf xw xk xg xo : D) : D := insD [(.str "tree", xt), (.str "book", xb), (.str "shows", xs), (.str "items_left", xi), (.str "at", xa), (.str "tellings", xl), (.str "here", xh), (.str "broken", xr), (.str "fogs", xf), (.str "wrong", xw), (.str "books", xk), (.str "got_there", xg), (.str "told", xo)]
def setF (f : Str) (d x : D) : D := match insOf x with
  | some ds => insD (setD f d ds)
  | none => x
def oD {α : Type} (o : Option (Option D)) (k : D → Option α) : Option α := match o with
  | some (some d) => k d
  | _ => none
@[simp] theorem oD_s {α : Type} (d : D) (k : D → Option α) : oD (some (some d)) k = k d := nr rfl
def insK {α : Type} (d : D) (k : List (D × D) → R α) : R α := match insOf d with
  | some ds => if ds.length < 1000 then k ds else .bad
  | none => .bad
def setK (o : Option (Option D)) (e : Env) (i : Nat) (f : Str) (d : D) : R (Fl × Env) := getD2 o fun x => insK x fun ds => .ok (.nx, e.set i (some (setF f d x)))
section
variable (xt xb xs xi xa xl xh xr xf xw xk xg xo d : D)
@[simp] theorem fld_tree : fldD "tree" (posR xt xb xs xi xa xl xh xr xf xw xk xg xo) = some xt := nr (by rfl)
@[simp] theorem set_tree : setF "tree" d (posR xt xb xs xi xa xl xh xr xf xw xk xg xo) = (posR d xb xs xi xa xl xh xr xf xw xk xg xo) := nr (by rfl)
@[simp] theorem fld_book : fldD "book" (posR xt xb xs xi xa xl xh xr xf xw xk xg xo) = some xb := nr (by rfl)
@[simp] theorem set_book : setF "book" d (posR xt xb xs xi xa xl xh xr xf xw xk xg xo) = (posR xt d xs xi xa xl xh xr xf xw xk xg xo) := nr (by rfl)
@[simp] theorem fld_shows : fldD "shows" (posR xt xb xs xi xa xl xh xr xf xw xk xg xo) = some xs := nr (by rfl)
@[simp] theorem set_shows : setF "shows" d (posR xt xb xs xi xa xl xh xr xf xw xk xg xo) = (posR xt xb d xi xa xl xh xr xf xw xk xg xo) := nr (by rfl)
@[simp] theorem fld_items_left : fldD "items_left" (posR xt xb xs xi xa xl xh xr xf xw xk xg xo) = some xi := nr (by rfl)
@[simp] theorem set_items_left : setF "items_left" d (posR xt xb xs xi xa xl xh xr xf xw xk xg xo) = (posR xt xb xs d xa xl xh xr xf xw xk xg xo) := nr (by rfl)
@[simp] theorem fld_at : fldD "at" (posR xt xb xs xi xa xl xh xr xf xw xk xg xo) = some xa := nr (by rfl)
@[simp] theorem set_at : setF "at" d (posR xt xb xs xi xa xl xh xr xf xw xk xg xo) = (posR xt xb xs xi d xl xh xr xf xw xk xg xo) := nr (by rfl)
@[simp] theorem fld_tellings : fldD "tellings" (posR xt xb xs xi xa xl xh xr xf xw xk xg xo) = some xl := nr (by rfl)
@[simp] theorem set_tellings : setF "tellings" d (posR xt xb xs xi xa xl xh xr xf xw xk xg xo) = (posR xt xb xs xi xa d xh xr xf xw xk xg xo) := nr (by rfl)
@[simp] theorem fld_here : fldD "here" (posR xt xb xs xi xa xl xh xr xf xw xk xg xo) = some xh := nr (by rfl)
@[simp] theorem set_here : setF "here" d (posR xt xb xs xi xa xl xh xr xf xw xk xg xo) = (posR xt xb xs xi xa xl d xr xf xw xk xg xo) := nr (by rfl)
@[simp] theorem fld_broken : fldD "broken" (posR xt xb xs xi xa xl xh xr xf xw xk xg xo) = some xr := nr (by rfl)
@[simp] theorem set_broken : setF "broken" d (posR xt xb xs xi xa xl xh xr xf xw xk xg xo) = (posR xt xb xs xi xa xl xh d xf xw xk xg xo) := nr (by rfl)
@[simp] theorem fld_fogs : fldD "fogs" (posR xt xb xs xi xa xl xh xr xf xw xk xg xo) = some xf := nr (by rfl)
@[simp] theorem set_fogs : setF "fogs" d (posR xt xb xs xi xa xl xh xr xf xw xk xg xo) = (posR xt xb xs xi xa xl xh xr d xw xk xg xo) := nr (by rfl)
@[simp] theorem fld_wrong : fldD "wrong" (posR xt xb xs xi xa xl xh xr xf xw xk xg xo) = some xw := nr (by rfl)
@[simp] theorem set_wrong : setF "wrong" d (posR xt xb xs xi xa xl xh xr xf xw xk xg xo) = (posR xt xb xs xi xa xl xh xr xf d xk xg xo) := nr (by rfl)
@[simp] theorem fld_books : fldD "books" (posR xt xb xs xi xa xl xh xr xf xw xk xg xo) = some xk := nr (by rfl)
@[simp] theorem set_books : setF "books" d (posR xt xb xs xi xa xl xh xr xf xw xk xg xo) = (posR xt xb xs xi xa xl xh xr xf xw d xg xo) := nr (by rfl)
@[simp] theorem fld_got_there : fldD "got_there" (posR xt xb xs xi xa xl xh xr xf xw xk xg xo) = some xg := nr (by rfl)
@[simp] theorem set_got_there : setF "got_there" d (posR xt xb xs xi xa xl xh xr xf xw xk xg xo) = (posR xt xb xs xi xa xl xh xr xf xw xk d xo) := nr (by rfl)
@[simp] theorem fld_told : fldD "told" (posR xt xb xs xi xa xl xh xr xf xw xk xg xo) = some xo := nr (by rfl)
@[simp] theorem set_told : setF "told" d (posR xt xb xs xi xa xl xh xr xf xw xk xg xo) = (posR xt xb xs xi xa xl xh xr xf xw xk xg d) := nr (by rfl)
@[simp] theorem mOk_row_waiting : mOk "row_waiting" (posR xt xb xs xi xa xl xh xr xf xw xk xg xo) = true := nr (by rfl)
@[simp] theorem mOk_note : mOk "note" (posR xt xb xs xi xa xl xh xr xf xw xk xg xo) = true := nr (by rfl)
@[simp] theorem mOk_under_way : mOk "under_way" (posR xt xb xs xi xa xl xh xr xf xw xk xg xo) = true := nr (by rfl)
@[simp] theorem mOk_log : mOk "log" (posR xt xb xs xi xa xl xh xr xf xw xk xg xo) = true := nr (by rfl)
@[simp] theorem mOk_break_off : mOk "break_off" (posR xt xb xs xi xa xl xh xr xf xw xk xg xo) = true := nr (by rfl)
@[simp] theorem mOk_finish : mOk "finish" (posR xt xb xs xi xa xl xh xr xf xw xk xg xo) = true := nr (by rfl)
@[simp] theorem mOk_waiting : mOk "waiting" (posR xt xb xs xi xa xl xh xr xf xw xk xg xo) = true := nr (by rfl)
@[simp] theorem mOk_standing : mOk "standing" (posR xt xb xs xi xa xl xh xr xf xw xk xg xo) = true := nr (by rfl)
@[simp] theorem mOk_heard_by : mOk "heard_by" (posR xt xb xs xi xa xl xh xr xf xw xk xg xo) = true := nr (by rfl)
@[simp] theorem mOk_send : mOk "send" (posR xt xb xs xi xa xl xh xr xf xw xk xg xo) = true := nr (by rfl)
@[simp] theorem mOk_begin : mOk "begin" (posR xt xb xs xi xa xl xh xr xf xw xk xg xo) = true := nr (by rfl)
@[simp] theorem mOk_hear : mOk "hear" (posR xt xb xs xi xa xl xh xr xf xw xk xg xo) = true := nr (by rfl)
@[simp] theorem mOk_pass_on : mOk "pass_on" (posR xt xb xs xi xa xl xh xr xf xw xk xg xo) = true := nr (by rfl)
@[simp] theorem mOk_go : mOk "go" (posR xt xb xs xi xa xl xh xr xf xw xk xg xo) = true := nr (by rfl)
@[simp] theorem mOk_moment : mOk "moment" (posR xt xb xs xi xa xl xh xr xf xw xk xg xo) = true := nr (by rfl)
@[simp] theorem mOk_shown_now : mOk "shown_now" (posR xt xb xs xi xa xl xh xr xf xw xk xg xo) = true := nr (by rfl)
@[simp] theorem mOk_withdraw : mOk "withdraw" (posR xt xb xs xi xa xl xh xr xf xw xk xg xo) = true := nr (by rfl)
@[simp] theorem mOk_fog : mOk "fog" (posR xt xb xs xi xa xl xh xr xf xw xk xg xo) = true := nr (by rfl)
@[simp] theorem mOk_slip : mOk "slip" (posR xt xb xs xi xa xl xh xr xf xw xk xg xo) = true := nr (by rfl)
@[simp] theorem mOk_need_lower : mOk "need_lower" (posR xt xb xs xi xa xl xh xr xf xw xk xg xo) = true := nr (by rfl)
@[simp] theorem mOk_twin : mOk "twin" (posR xt xb xs xi xa xl xh xr xf xw xk xg xo) = true := nr (by rfl)
@[simp] theorem insK_p {α : Type} (k : List (D × D) → R α) : insK (posR xt xb xs xi xa xl xh xr xf xw xk xg xo) k = k [(.str "tree", xt), (.str "book", xb), (.str "shows", xs), (.str "items_left", xi), (.str "at", xa), (.str "tellings", xl), (.str "here", xh), (.str "broken", xr), (.str "fogs", xf), (.str "wrong", xw), (.str "books", xk), (.str "got_there", xg), (.str "told", xo)] := nr (by rfl)
@[simp] theorem setK_p (e : Env) (i : Nat) (f : Str) : setK (some (some (posR xt xb xs xi xa xl xh xr xf xw xk xg xo))) e i f d = .ok (.nx, e.set i (some (setF f d (posR xt xb xs xi xa xl xh xr xf xw xk xg xo)))) := nr (by rfl)
end
section
variable (e : Env) (i j n : Nat) (f key m : Str) (a b : Env → R (D × Env)) (A : Env → R (List D × Env)) (F : List D → R D) (T : List D → R (D × D)) (s : Env → R (Bool × Env)) (S : Env → R (Fl × Env)) (q k : Env → R D) (qb : Env → R Bool) (qa : Env → R (List D)) (c : Env → R Unit)
@[simp] theorem fldAt_o : fldAt e i f = oD e[i]? (fldD f) := by
  unfold fldAt insAt oD fldD
  cases e[i]? with
  | none => exact nr rfl
  | some o => cases o <;> exact nr rfl
def oL (o : Option D) : Option (List D) := match o with
  | some (.list es) => some es
  | _ => none
@[simp] theorem oL_l (es : List D) : oL (some (.list es)) = some es := nr rfl
def oT (o : Option D) : Option (List (D × D)) := match o with
  | some (.dict es) => some es
  | _ => none
@[simp] theorem oT_d (es : List (D × D)) : oT (some (.dict es)) = some es := nr rfl
@[simp] theorem fldL_o : fldL e i f = oL (oD e[i]? (fldD f)) := by rw [← fldAt_o]; unfold fldL oL; exact nr rfl
@[simp] theorem fldT_o : fldT e i f = oT (oD e[i]? (fldD f)) := by rw [← fldAt_o]; unfold fldT oT; exact nr rfl
def sA (o : Option (Option D)) (e : Env) (i : Nat) (f : Str) (d : D) : Env := match o with
  | some (some x) => match insOf x with
    | some ds => e.set i (some (setF f d x))
    | none => e
  | _ => e
theorem setAt_o (d : D) : setAt e i f d = sA e[i]? e i f d := by
  unfold setAt insAt sA
  cases e[i]? with
  | none => rfl
  | some o =>
    cases o with
    | none => rfl
    | some x =>
      cases hx : insOf x with
      | none => simp only [hx]
      | some ds =>
        simp only [hx]
        unfold setF
        rw [hx]
@[simp] theorem ev_quI : quI q e = (q e).bind fun d => .ok (d, e) := nr rfl
@[simp] theorem ev_quT : quT qb e = (qb e).bind fun d => .ok (d, e) := nr rfl
@[simp] theorem ev_brwQ : brwQ a e = (a e).bind fun x => if lightD x.1 = true then .ok x.1 else .bad := nr rfl
@[simp] theorem ev_brwB : brwB s e = (s e).bind fun x => .ok x.1 := nr rfl
@[simp] theorem ev_brwN : brwN a e = (a e).bind fun x => if lightC x.1 = true then .ok x.1 else .bad := nr rfl
@[simp] theorem ev_hidQ (own : List Nat) : hidQ own a e = (a (wipeE e own)).bind fun x => .ok x.1 := nr rfl
@[simp] theorem ev_qNil : qNil e = .ok [] := nr rfl
@[simp] theorem ev_qCons : qCons q qa e = (q e).bind fun x => (qa e).bind fun y => .ok (x :: y) := nr rfl
@[simp] theorem ev_qDisp (ks : List Str) : qDisp ks qa e = (qa e).bind fun ds => .ok (.dict (mergeD [] ((ks.zip ds).map fun p => (.str p.1, p.2)))) := nr rfl
@[simp] theorem ev_callMP : callMP m F a A e = (a e).bind fun x => if mOk m x.1 = true then (A x.2).bind fun y => (F (x.1 :: y.1)).bind fun d => .ok (d, y.2) else .bad := nr rfl
@[simp] theorem ev_callM : callM m T i A e = getD2 e[i]? fun t0 => if mOk m t0 = true then (A e).bind fun y => getD2 y.2[i]? fun t => (T (t :: y.1)).bind fun r => .ok (r.1, y.2.set i (some r.2)) else .bad := by unfold callM getD2; exact nr rfl
@[simp] theorem ev_dropC : dropC q e = (q e).bind fun _ => .ok () := nr rfl
@[simp] theorem ev_guardC : guardC qb n e = (qb e).bind fun b => if b = true then .err n else .ok () := nr rfl
@[simp] theorem ev_chkS : chkS c S e = (c e).bind fun _ => S e := nr rfl
theorem ev_neS : neS S e = (S e).ne := rfl
@[simp] theorem ev_retN : retN e = .ok (.rt .none, e) := nr rfl
@[simp] theorem ev_fldS : fldS i f a e = (a e).bind fun x => setK x.2[i]? x.2 i f x.1 := by
  unfold fldS
  congr 1
  funext x
  unfold insAt setK getD2 insK
  cases x.2[i]? with
  | none => exact nr rfl
  | some o =>
    cases o with
    | none => exact nr rfl
    | some y =>
      simp only
      cases hy : insOf y with
      | none => exact nr rfl
      | some ds =>
        simp only [lift_some, bind_ok]
        unfold setF
        rw [hy]
@[simp] theorem ev_fldO : fldO i f e = lift (oD e[i]? (fldD f)) := by unfold fldO; rw [fldAt_o]
def dctK {α : Type} (d : D) (k : List (D × D) → R α) : R α := match d with
  | .dict es => k es
  | _ => .bad
@[simp] theorem dctK_d {α : Type} (es : List (D × D)) (k : List (D × D) → R α) : dctK (.dict es) k = k es := nr rfl
def odK {α : Type} (o : Option D) (k : List (D × D) → R α) : R α := match o with
  | some (.dict es) => k es
  | _ => .bad
@[simp] theorem odK_d {α : Type} (es : List (D × D)) (k : List (D × D) → R α) : odK (some (.dict es)) k = k es := nr rfl
def olK {α : Type} (o : Option D) (k : List D → R α) : R α := match o with
  | some (.list es) => k es
  | _ => .bad
@[simp] theorem olK_l {α : Type} (es : List D) (k : List D → R α) : olK (some (.list es)) k = k es := nr rfl
@[simp] theorem ev_dputF : dputF i f k a e = (a e).bind fun x => (lift (oD x.2[i]? (fldD f))).bind fun d => (k x.2).bind fun y => (lift (keyOf y)).bind fun ky => dctK d fun es => if es.length < 1000 then .ok (.nx, sA x.2[i]? x.2 i f (.dict (putD es (kD ky) x.1))) else .bad := by
  unfold dputF dctK
  simp only [fldAt_o, setAt_o]
  all_goals exact nr rfl
@[simp] theorem ev_appF : appF i f q e = (lift (oL (oD e[i]? (fldD f)))).bind fun es => (q e).bind fun x => if es.length < 1000000 then .ok (.nx, sA e[i]? e i f (.list (es ++ [x]))) else .bad := by
  unfold appF
  simp only [fldL_o, setAt_o]
@[simp] theorem ev_dputL : dputL i f key q a e = (a e).bind fun x => (lift (oL (oD x.2[i]? (fldD f)))).bind fun es => (q x.2).bind fun y => intK y fun j => (lift (ixN es.length j)).bind fun m => odK es[m]? fun ks => if ks.length < 1000 then .ok (.nx, sA x.2[i]? x.2 i f (.list (es.set m (.dict (putD ks (.str key) x.1))))) else .bad := by
  unfold dputL intK odK
  simp only [fldL_o, setAt_o]
  all_goals exact nr rfl
@[simp] theorem ev_appLN : appLN i f q e = (lift (oL (oD e[i]? (fldD f)))).bind fun es => (q e).bind fun x => if es.length < 1000000 ∧ newOk "told" x = true then .ok (.nx, sA e[i]? e i f (.list (es ++ [x]))) else .bad := by
  unfold appLN
  simp only [fldL_o, setAt_o]
@[simp] theorem ev_dputN : dputN i f k a e = (a e).bind fun x => (lift (oT (oD x.2[i]? (fldD f)))).bind fun es => (k x.2).bind fun y => (lift (keyOf y)).bind fun ky => if es.length < 1000 ∧ newOk "told" x.1 = true ∧ (valD es (kD ky)).isNone = true then .ok (.nx, sA x.2[i]? x.2 i f (.dict (es ++ [(kD ky, x.1)]))) else .bad := by
  unfold dputN
  simp only [fldT_o, setAt_o]
@[simp] theorem ev_appD : appD i f k q e = (lift (oT (oD e[i]? (fldD f)))).bind fun es => (k e).bind fun y => (lift (keyOf y)).bind fun ky => olK (valD es (kD ky)) fun xs => (q e).bind fun x => if xs.length < 1000000 then .ok (.nx, sA e[i]? e i f (.dict (setG (kD ky) (.list (xs ++ [x])) es))) else .bad := by
  unfold appD olK
  simp only [fldT_o, setAt_o]
  all_goals exact nr rfl
@[simp] theorem ev_dpopF : dpopF i f k e = (lift (oT (oD e[i]? (fldD f)))).bind fun es => (k e).bind fun y => (lift (keyOf y)).bind fun ky => (lift (valD es (kD ky))).bind fun d => .ok (d, sA e[i]? e i f (.dict (dropD (kD ky) es))) := by
  unfold dpopF
  simp only [fldT_o, setAt_o]
@[simp] theorem ev_rdL : rdL i f key q e = (lift (oL (oD e[i]? (fldD f)))).bind fun es => (q e).bind fun y => intK y fun j => (lift (ixN es.length j)).bind fun m => odK es[m]? fun ks => (lift (valD ks (.str key))).bind .ok := by
  unfold rdL intK odK
  simp only [fldL_o]
  all_goals exact nr rfl
def liK (d : D) (k : List D → R (D × Env)) : R (D × Env) := match d with
  | .list ds => k ds
  | _ => .bad
@[simp] theorem liK_l (ds : List D) (k : List D → R (D × Env)) : liK (.list ds) k = k ds := nr rfl
@[simp] theorem ev_sliceL (lo hi : Env → R (Option Int × Env)) : sliceL a lo hi e = (a e).bind fun x => (lo x.2).bind fun l => (hi l.2).bind fun h => liK x.1 fun ds => .ok (.list (cutL ds l.1 h.1), h.2) := by unfold sliceL liK; exact nr rfl
@[simp] theorem ev_makeD : makeD T A e = (A e).bind fun y => (T (insD [] :: y.1)).bind fun r => match r.1 with
  | .none => .ok (r.2, y.2)
  | _ => .bad := nr rfl
@[simp] theorem ev_pairFS : pairFS j i f T A e = (A e).bind fun y => (T y.1).bind fun d => if j < y.2.length then setK (y.2.set j (some d.1))[i]? (y.2.set j (some d.1)) i f d.2 else .bad := by
  unfold pairFS
  congr 1
  funext y
  congr 1
  funext d
  congr 1
  unfold insAt setK getD2 insK
  cases (y.2.set j (some d.1))[i]? with
  | none => exact nr rfl
  | some o =>
    cases o with
    | none => exact nr rfl
    | some y =>
      simp only
      cases hy : insOf y with
      | none => exact nr rfl
      | some ds =>
        simp only [lift_some, bind_ok]
        unfold setF
        rw [hy]
theorem ev_seqR (g : Env → R (D × Env)) : seqR S g e = (S e).bind fun r => match r.1 with
  | .nx => g r.2
  | _ => .bad := rfl
@[simp] theorem keyOf_n : keyOf (nD n) = some (.inl (n : Int)) := nr rfl
@[simp] theorem kD_n : kD (.inl (n : Int)) = nD n := nr rfl
@[simp] theorem light_n : lightD (nD n) = true := nr rfl
@[simp] theorem light_i (z : Int) : lightD (.int z) = true := nr rfl
@[simp] theorem light_s (x : Str) : lightD (.str x) = true := nr rfl
@[simp] theorem light_none : lightD .none = true := nr rfl
@[simp] theorem light_b (b : Bool) : lightD (.bool b) = true := nr rfl
end
section
variable (xt xb xs xi xa xl xh xr xf xw xk xg xo d : D)
@[simp] theorem sA_p (e : Env) (i : Nat) (f : Str) : sA (some (some (posR xt xb xs xi xa xl xh xr xf xw xk xg xo))) e i f d = e.set i (some (setF f d (posR xt xb xs xi xa xl xh xr xf xw xk xg xo))) := nr (by rfl)
end
theorem Ok_ne {α : Type} {r : R α} {P : α → Prop} (h : Ok r P) : Ok r.ne P := by
  obtain ⟨a, rfl, p⟩ := h
  exact ⟨a, rfl, p⟩
theorem Ok_neS {f : Env → R (Fl × Env)} {e : Env} {P : Fl × Env → Prop} (h : Ok (f e) P) : Ok (neS f e) P := Ok_ne h
def resK (k : Nat) (a : Fl × Env) (P : D × D → Prop) : Prop := ∃ t, a.2[k]? = some (some t) ∧ ((∃ d, a.1 = .rt d ∧ P (d, t)) ∨ (a.1 = .nx ∧ P (.none, t)))
theorem Ok_finK {k : Nat} {r : R (Fl × Env)} {P : D × D → Prop} (h : Ok r fun a => resK k a P) : Ok (finK k r) P := by
  obtain ⟨⟨fl, e⟩, rfl, t, ht, h⟩ := h
  rcases h with ⟨d, hd, p⟩ | ⟨hd, p⟩
  · refine ⟨_, ?_, p⟩
    cases hd
    show (match e[k]? with
      | some (some t) => R.ok (d, t)
      | _ => .bad) = _
    rw [show e[k]? = _ from ht]
  · refine ⟨_, ?_, p⟩
    cases hd
    show (match e[k]? with
      | some (some t) => R.ok (PyData.none, t)
      | _ => .bad) = _
    rw [show e[k]? = _ from ht]
@[simp] theorem resK_rt (k : Nat) (d : D) (e : Env) (P : D × D → Prop) : resK k (.rt d, e) P ↔ ∃ t, e[k]? = some (some t) ∧ P (d, t) := by
  unfold resK
  refine ⟨fun ⟨t, ht, h⟩ => ⟨t, ht, ?_⟩, fun ⟨t, ht, h⟩ => ⟨t, ht, .inl ⟨d, rfl, h⟩⟩⟩
  rcases h with ⟨d', hd, p⟩ | ⟨hd, p⟩
  · cases hd
    exact p
  · cases hd
@[simp] theorem resK_nx (k : Nat) (e : Env) (P : D × D → Prop) : resK k (.nx, e) P ↔ ∃ t, e[k]? = some (some t) ∧ P (.none, t) := by
  unfold resK
  refine ⟨fun ⟨t, ht, h⟩ => ⟨t, ht, ?_⟩, fun ⟨t, ht, h⟩ => ⟨t, ht, .inr ⟨rfl, h⟩⟩⟩
  rcases h with ⟨d', hd, p⟩ | ⟨hd, p⟩
  · cases hd
  · exact p
theorem Ok_seqR {f : Env → R (Fl × Env)} {g : Env → R (D × Env)} {e : Env} {P : D × Env → Prop} (h : Ok (f e) fun r => thenP r (fun e' => Ok (g e') P) False) : Ok (seqR f g e) P := by
  obtain ⟨⟨fl, e1⟩, he, h⟩ := h
  rw [ev_seqR, he]
  cases fl with
  | nx => exact h
  | _ => exact h.elim
theorem Ok_finE {r : R (D × Env)} {P : D → Prop} (h : Ok r fun a => P a.1) : Ok (finE r) P := by
  obtain ⟨a, rfl, p⟩ := h
  exact ⟨_, rfl, p⟩
theorem Ok_finF {i : Nat} {r : R (D × Env)} {P : D × D → Prop} (h : Ok r fun a => ∃ x, a.2[i]? = some (some x) ∧ P (x, a.1)) : Ok (finF i r) P := by
  obtain ⟨a, rfl, x, hx, p⟩ := h
  refine ⟨_, ?_, p⟩
  show (match a.2[i]? with
    | some (some x) => R.ok (x, a.1)
    | _ => .bad) = _
  rw [hx]
end Hz

namespace Hz
open PySem PySem.Spec PyProof.Rows L2
/-! ### draws -/
def twn (k : Nat) : D := .list (List.replicate k (.int 0))
theorem cell_ok (ns : List Int) (k : Nat) : ∃ z, d_law_cell_at [scrV ns, nD k] = .ok (.int z) := by
  have hs : scrD (scrV ns) = some (ns.map PyData.int) := rfl
  have hlen : lenD [scrV ns] = some (nD ns.length) := by simp [scrV, lenD, scrD, nD]
  have hidx : ∀ i : Nat, i < ns.length → ∃ z, idxD (scrV ns) (nD i) = some (.int z) := fun i hi => by
    refine ⟨ns[i], ?_⟩
    show atI (ns.map PyData.int) (i : Int) = _
    exact atI_n (by rw [List.getElem?_map, List.getElem?_eq_getElem hi]; rfl)
  unfold d_law_cell_at b_law_cell_at env0
  by_cases hk : k < ns.length
  · obtain ⟨z, hz⟩ := hidx k hk
    simp [ev_seqS, hlen, hk, hz]
  · have he : eqD (scrV ns) (.list []) = some (.bool (decide (ns = []))) := by
      unfold eqD
      rw [hs]
      have hd : dep 9 (.list (ns.map PyData.int)) = true := by simp [dep]
      simp only
      rw [if_pos ⟨hd, rfl⟩]
      cases ns <;> simp [PyData.eqv, PyData.eqvAll]
    by_cases hn : ns = []
    · rw [decide_eq_true hn] at he
      simp [ev_seqS, hlen, hk, he]
    · rw [decide_eq_false hn] at he
      have hp : 0 < ns.length := List.length_pos_iff.mpr hn
      obtain ⟨z, hz⟩ := hidx (k % ns.length) (Nat.mod_lt _ hp)
      simp [ev_seqS, hlen, hk, he, modD_n k _ hp, hz, mulD_r z 31 (by decide)]
theorem mixed_ok (ns : List Int) (k many : Nat) (hm : 0 < many) : ∃ m, m < many ∧ d_law_mixed [scrV ns, nD k, nD many] = .ok (nD m) := by
  obtain ⟨z, hz⟩ := cell_ok ns k
  have h2 : mulD (.int 7919) (nD k) = some (.int (7919 * k)) := mulD_l _ _ (by decide)
  have h4 : ∀ i : Int, powD (.int (i % 2147483647)) (.int 5) = some (.int ((i % 2147483647) ^ 5)) := fun i => by
    have h := Int.emod_nonneg i (show (2147483647 : Int) ≠ 0 by decide)
    have h' := Int.emod_lt_of_pos i (show (0 : Int) < 2147483647 by decide)
    exact powD_i _ _ ⟨by decide, by decide, by omega⟩
  have h5 : ∀ i : Int, modD (.int i) (nD many) = some (.int (i % many)) := fun i => modD_i i many (by omega)
  have key : ∃ i : Int, d_law_mixed [scrV ns, nD k, nD many] = .ok (.int (i % many)) := by
    unfold d_law_mixed b_law_mixed env0
    simp [ev_seqS, hz, mulD_r z 1103515245 (by decide), h2, modD_i _ 2147483647 (by decide), modD_i _ 999983 (by decide), h4, h5]
    exact ⟨_, rfl⟩
  obtain ⟨i, hi⟩ := key
  have h := Int.emod_nonneg i (show (many : Int) ≠ 0 by omega)
  have h' := Int.emod_lt_of_pos i (show (0 : Int) < many by omega)
  refine ⟨(i % many).toNat, by omega, ?_⟩
  rw [hi]
  unfold nD
  rw [Int.toNat_of_nonneg h]
theorem draw_ok (ns : List Int) (k many : Nat) (hm : 0 < many) (hk : k < 999999) : ∃ m, m < many ∧ d_law_draw [scrV ns, twn k, nD many] = .ok (nD m, twn (k + 1)) := by
  obtain ⟨m, h, e⟩ := mixed_ok ns (k + 1) many hm
  refine ⟨m, h, ?_⟩
  have ht : ownL [some (scrV ns), some (twn k), some (nD many)] 1 = some (List.replicate k (.int 0)) := rfl
  have ht2 : ownL [some (scrV ns), some (twn (k + 1)), some (nD many)] 1 = some (List.replicate (k + 1) (.int 0)) := rfl
  have hr : List.replicate k (PyData.int 0) ++ [PyData.int 0] = List.replicate (k + 1) (.int 0) := List.replicate_succ'.symm
  have hr2 : PyData.list (List.replicate (k + 1) (.int 0)) = twn (k + 1) := rfl
  unfold d_law_draw b_law_draw env0
  simp [ev_seqS, ht, hr, hr2, ht2, e, show k < 1000000 by omega]
  rfl
theorem draw_lit (ns : List Int) (k many : Nat) (md : D) (hmd : md = nD many) (hm : 0 < many) (hk : k < 999999) : ∃ m, m < many ∧ d_law_draw [scrV ns, twn k, md] = .ok (nD m, twn (k + 1)) := by
  subst hmd
  exact draw_ok ns k many hm hk
theorem pick_ok (ns : List Int) (k : Nat) (ds : List D) (hd : ds ≠ []) (hk : k < 999999) : ∃ d, d ∈ ds ∧ d_law_pick [scrV ns, twn k, .list ds] = .ok (d, twn (k + 1)) := by
  obtain ⟨m, h, e⟩ := draw_ok ns k ds.length (List.length_pos_iff.mpr hd) hk
  have hi : idxD (.list ds) (nD m) = some ds[m] := idx_l rfl (List.getElem?_eq_getElem h)
  refine ⟨ds[m], List.getElem_mem h, ?_⟩
  unfold d_law_pick b_law_pick env0
  simp [e, hi]
  rfl
end Hz

namespace Hz
open PySem PySem.Spec PyProof.Rows L2
/-! ### what the defs about trees are worth -/
def isN (d : D) (lo hi : Int) : Bool := match d with
  | .int i => decide (lo ≤ i) && decide (i ≤ hi)
  | _ => false
theorem whole_int (i lo hi : Int) : d_is_whole [.int i, .int lo, .int hi] = .ok (.bool (decide (lo ≤ i) && decide (i ≤ hi))) := by
  unfold d_is_whole b_is_whole env0
  by_cases h1 : lo ≤ i <;> by_cases h2 : i ≤ hi <;> simp [h1, h2]
theorem whole_n (i hi : Nat) : d_is_whole [nD i, .int 0, nD hi] = .ok (.bool (decide (i ≤ hi))) := by
  rw [show nD i = .int (i : Int) from rfl, show nD hi = .int (hi : Int) from rfl, whole_int]
  congr 2
  by_cases h : i ≤ hi <;> simp [h]
theorem far_of_n {t : List Nat} (w : Whole t) (hl : t.length ≤ 1000) {h : Nat} (hh : h ≤ t.length) : d_far_of [ntD t, nD h] = .ok (match farN t (t.length + 1) h with | some k => nD k | none => .none) := by
  have key : Ok (d_far_of [ntD t, nD h]) fun d => d = (match farN t (t.length + 1) h with | some k => nD k | none => .none) := by
    unfold d_far_of b_far_of env0
    refine Ok_fin (Ok_seq ?_)
    simp
    refine Ok_seq ?_
    refine Ok_while (fun f e => ∃ g m, e = [some (ntD t), some (nD g), some (nD m)] ∧ g ≤ t.length ∧ m + f = t.length + 1 ∧ (farN t f g).map (· + m) = farN t (t.length + 1) h) (t.length + 1) (by omega) ⟨h, 0, rfl, hh, by omega, by simp⟩ (fun f e hI => ?_)
    obtain ⟨g, m, rfl, hg, hm, he⟩ := hI
    by_cases hg0 : g = 0
    · subst hg0
      rw [farN_zero] at he
      simp at he
      simp [← he]
    · by_cases hf : f = 0
      · subst hf
        have e2 : farN t 0 g = none := by
          cases g with
          | zero => exact absurd rfl hg0
          | succ g => rfl
        rw [e2] at he
        simp at he
        simp [hg0, show ¬ m ≤ t.length by omega, ← he]
      · have hx : idxD (ntD t) (.int ((g : Int) - 1)) = some (nD (up t g)) := idx_nt (k := g - 1) (by omega) (up_get (by omega) hg)
        simp [ev_seqS, hg0, show m ≤ t.length by omega, hx]
        refine ⟨f - 1, by omega, up t g, m + 1, ⟨rfl, rfl⟩, up_le w g, by omega, ?_⟩
        rw [← he]
        obtain ⟨g, rfl⟩ : ∃ g', g = g' + 1 := ⟨g - 1, by omega⟩
        obtain ⟨f, rfl⟩ : ∃ f', f = f' + 1 := ⟨f - 1, by omega⟩
        rw [farN, Option.map_map]
        congr 1
        funext z
        simp
        omega
  obtain ⟨d, e, rfl⟩ := key
  exact e
def belowN (t : List Nat) (h : Nat) : List Nat := (List.range' 1 t.length).filter fun o => decide (up t o = h)
theorem below_n {t : List Nat} (hl : t.length ≤ 1000) (h : Nat) : d_below [ntD t, nD h] = .ok (nlD (belowN t h)) := by
  have key : Ok (d_below [ntD t, nD h]) fun d => d = nlD (belowN t h) := by
    unfold d_below b_below env0
    refine Ok_fin ?_
    simp
    refine Ok_compP nD (fun o => decide (up t o = h)) nD (List.range' 1 t.length) (by
      simp [rng2_lit (.int 1) 1 (t.length + 1) rfl (by omega) (by omega)]) (by simp; omega) (fun o ho => ?_) rfl rfl
    rw [List.mem_range'_1] at ho
    have hx : idxD (ntD t) (.int ((o : Int) - 1)) = some (nD (up t o)) := idx_nt (k := o - 1) (by omega) (up_get (by omega) (by omega))
    refine ⟨_, rfl, ?_, fun _ => ?_, rfl⟩
    · simp [hx]
    · simp
  obtain ⟨d, e, rfl⟩ := key
  exact e
theorem whole_other {d : D} (hi : Nat) (h : ∀ i, d ≠ .int i) (hd : ∀ l, d ≠ .dict l) : d_is_whole [d, .int 0, nD hi] = .ok (.bool false) := by
  unfold d_is_whole b_is_whole env0
  cases d with
  | int i => exact absurd rfl (h i)
  | dict l => exact absurd rfl (hd l)
  | bool b =>
    have e1 : isiD "int" (.bool b) = some (.bool true) := by
      show (kitB "bool" "int").map PyData.bool = _
      rw [show kitB "bool" "int" = some true by decide +kernel]
      rfl
    have e2 : isiD "bool" (.bool b) = some (.bool true) := by rfl
    simp [e1, e2]
  | none =>
    have e1 : isiD "int" .none = some (.bool false) := by
      show (kitB "NoneType" "int").map PyData.bool = _
      rw [show kitB "NoneType" "int" = some false by decide +kernel]
      rfl
    simp [e1]
  | str x =>
    have e1 : isiD "int" (.str x) = some (.bool false) := by
      show (kitB "str" "int").map PyData.bool = _
      rw [show kitB "str" "int" = some false by decide +kernel]
      rfl
    simp [e1]
  | list x =>
    have e1 : isiD "int" (.list x) = some (.bool false) := by
      show (kitB "list" "int").map PyData.bool = _
      rw [show kitB "list" "int" = some false by decide +kernel]
      rfl
    simp [e1]
  | tuple x =>
    have e1 : isiD "int" (.tuple x) = some (.bool false) := by
      show (kitB "tuple" "int").map PyData.bool = _
      rw [show kitB "tuple" "int" = some false by decide +kernel]
      rfl
    simp [e1]
theorem whole_d (d : D) (hi : Nat) (hd : ∀ l, d ≠ .dict l) : d_is_whole [d, .int 0, nD hi] = .ok (.bool (isN d 0 hi)) := by
  by_cases h : ∃ i, d = .int i
  · obtain ⟨i, rfl⟩ := h
    exact whole_int i 0 hi
  · have h' : ∀ i, d ≠ .int i := fun i z => h ⟨i, z⟩
    rw [whole_other hi h' hd]
    cases d <;> first | rfl | exact absurd rfl (h' _)
theorem bools_map {α : Type} (f : α → Bool) : ∀ l : List α, boolsOf (l.map fun x => .bool (f x)) = some (l.map f)
  | [] => rfl
  | x :: l => by
    rw [List.map_cons]
    show (boolsOf (l.map fun x => .bool (f x))).map (f x :: ·) = _
    rw [bools_map f l]
    rfl
theorem allD_map {α : Type} (f : α → Bool) (l : List α) : allD [.list (l.map fun x => .bool (f x))] = some (.bool (l.all f)) := by
  show (boolsOf (l.map fun x => .bool (f x))).map (fun bs => PyData.bool (bs.all id)) = _
  rw [bools_map f l]
  simp
def treeB (t : List Nat) : Bool := (List.range (t.length + 1)).all fun h => (farN t (t.length + 1) h).isSome
def natsOf (ds : List D) : List Nat := ds.map fun d => match d with
  | .int i => i.toNat
  | _ => 0
theorem natsOf_eq {ds : List D} {n : Nat} (h : ds.all (fun d => isN d 0 n) = true) : ds = (natsOf ds).map nD ∧ ∀ x ∈ natsOf ds, x ≤ n := by
  induction ds with
  | nil => exact ⟨rfl, fun x hx => by simp [natsOf] at hx⟩
  | cons d ds ih =>
    rw [List.all_cons, Bool.and_eq_true] at h
    obtain ⟨h1, h2⟩ := ih h.2
    cases d with
    | int i =>
      have hi : 0 ≤ i ∧ i ≤ n := by simpa [isN] using h.1
      have e : natsOf (.int i :: ds) = i.toNat :: natsOf ds := rfl
      rw [e]
      refine ⟨?_, fun x hx => ?_⟩
      · rw [List.map_cons, ← h1]
        unfold nD
        rw [Int.toNat_of_nonneg hi.1]
      · rcases List.mem_cons.mp hx with z | z
        · omega
        · exact h2 x z
    | _ => simp [isN] at h
theorem far_ne {o : Option Nat} : isNotD (match o with | some k => nD k | none => .none) .none = some (.bool o.isSome) := by
  cases o <;> rfl
theorem is_tree_t (ds : List D) (hd : ∀ d ∈ ds, ∀ l, d ≠ .dict l) : d_is_tree [.tuple ds] = .ok (.bool (decide (1 ≤ ds.length) && (decide (ds.length < 8) && (ds.all (fun d => isN d 0 ds.length) && treeB (natsOf ds))))) := by
  have key : Ok (d_is_tree [.tuple ds]) fun d => d = .bool (decide (1 ≤ ds.length) && (decide (ds.length < 8) && (ds.all (fun d => isN d 0 ds.length) && treeB (natsOf ds)))) := by
    unfold d_is_tree b_is_tree env0
    refine Ok_fin (Ok_seq ?_)
    by_cases h1 : (1 : Int) ≤ (ds.length : Int)
    · by_cases h2 : (ds.length : Int) < 8
      · simp [h1, h2]
        refine Ok_seq ?_
        simp
        refine Ok_compY id (fun d => .bool (isN d 0 ds.length)) ds (by simp [itemsOf]) (by omega) (fun d hdd => ⟨_, rfl, by simp [whole_d d ds.length (hd d hdd)], rfl⟩) rfl ?_
        simp only [allD_map, lift_some, Ok_ok]
        by_cases h3 : ds.all (fun d => isN d 0 ds.length) = true
        · obtain ⟨et, hle⟩ := natsOf_eq h3
          have hlen : (natsOf ds).length = ds.length := by simp [natsOf]
          have w : Whole (natsOf ds) := fun x hx => by rw [hlen]; exact hle x hx
          have etd : PyData.tuple ds = ntD (natsOf ds) := by
            unfold ntD
            rw [← et]
          simp [h3]
          rw [etd, show ds.length = (natsOf ds).length from hlen.symm]
          generalize natsOf ds = t at *
          refine Ok_compY nD (fun h => .bool (farN t (t.length + 1) h).isSome) (List.range (t.length + 1)) (by simp [rng1_n (t.length + 1) (by omega)]) (by simp; omega) (fun h hh => ⟨_, rfl, ?_, rfl⟩) rfl ?_
          · simp at hh
            simp [far_of_n w (by omega) (show h ≤ t.length by omega), far_ne]
          · simp only [allD_map]
            simp [treeB, show 1 ≤ t.length by omega, show t.length < 8 by omega]
        · rw [Bool.not_eq_true] at h3
          simp [h3]
      · simp [h1, h2, show ¬ ds.length < 8 by omega]
    · simp [h1, show ¬ 1 ≤ ds.length by omega]
  obtain ⟨d, e, rfl⟩ := key
  exact e
theorem natsOf_n (t : List Nat) : natsOf (t.map nD) = t := by
  unfold natsOf
  rw [List.map_map]
  have : ((fun d : D => match d with | .int i => i.toNat | _ => 0) ∘ nD) = id := by
    funext k
    simp [nD]
  rw [this, List.map_id]
theorem is_tree_n (t : List Nat) (w : Whole t) : d_is_tree [ntD t] = .ok (.bool (decide (1 ≤ t.length) && (decide (t.length < 8) && treeB t))) := by
  have h := is_tree_t (t.map nD) (fun d hd l z => by
    rw [z] at hd
    simp [nD] at hd)
  have ha : (t.map nD).all (fun d => isN d 0 (t.map nD).length) = true := by
    rw [List.all_eq_true]
    intro d hd
    obtain ⟨x, hx, rfl⟩ := List.mem_map.mp hd
    have := w x hx
    simp [isN, nD]
    omega
  rw [ha, natsOf_n] at h
  simpa [ntD] using h
theorem treeB_of {t : List Nat} (T : IsTree t) : treeB t = true := by
  unfold treeB
  rw [List.all_eq_true]
  intro h hh
  simp at hh
  obtain ⟨k, _, hk, _⟩ := T.far (show h ≤ t.length by omega)
  rw [hk]
  rfl
section
variable {t : List Nat} (T : IsTree t) (hl : t.length < 8)
include T hl
theorem is_tree_T : d_is_tree [ntD t] = .ok (.bool true) := by
  rw [is_tree_n t T.le, treeB_of T]
  simp [T.pos, hl]
theorem need_tree_T : d_need_tree [ntD t] = .ok .none := by
  unfold d_need_tree b_need_tree env0
  simp [is_tree_T T hl]
theorem need_hill_T {h : Nat} (hh : h ≤ t.length) : d_need_hill [ntD t, nD h] = .ok .none := by
  unfold d_need_hill b_need_hill env0
  simp [ev_seqS, need_tree_T T hl, whole_n, hh]
theorem far_T {h k : Nat} (hh : h ≤ t.length) (hk : farN t (t.length + 1) h = some k) : d_far [ntD t, nD h] = .ok (nD k) := by
  unfold d_far b_far env0
  simp [ev_seqS, need_hill_T T hl hh, far_of_n T.le (show t.length ≤ 1000 by omega) hh, hk]
end
def leavesN (t : List Nat) : List Nat := (List.range' 1 t.length).filter fun h => decide (belowN t h = [])
theorem all_leaves_n {t : List Nat} (hl : t.length ≤ 1000) : d_all_leaves [ntD t] = .ok (nlD (leavesN t)) := by
  have key : Ok (d_all_leaves [ntD t]) fun d => d = nlD (leavesN t) := by
    unfold d_all_leaves b_all_leaves env0
    refine Ok_fin ?_
    simp
    refine Ok_compP nD (fun h => decide (belowN t h = [])) nD (List.range' 1 t.length) (by
      simp [rng2_lit (.int 1) 1 (t.length + 1) rfl (by omega) (by omega)]) (by simp; omega) (fun o ho => ?_) rfl rfl
    have he : ∀ l : List Nat, eqD (nlD l) (.list []) = some (.bool (decide (l = []))) := fun l => eqD_nl l []
    refine ⟨_, rfl, ?_, fun _ => ?_, rfl⟩
    · simp [below_n hl, he]
    · simp
  obtain ⟨d, e, rfl⟩ := key
  exact e
theorem leaves_T {t : List Nat} (T : IsTree t) (hl : t.length < 8) : d_leaves [ntD t] = .ok (nlD (leavesN t)) := by
  unfold d_leaves b_leaves env0
  simp [ev_seqS, need_tree_T T hl, all_leaves_n (show t.length ≤ 1000 by omega)]
end Hz

namespace Hz
open PySem PySem.Spec PyProof.Rows L2
theorem farN_pos {t : List Nat} {f h k : Nat} (e : farN t f h = some k) (hh : h ≠ 0) : ∃ k', k = k' + 1 ∧ farN t f (up t h) = some k' := by
  cases h with
  | zero => exact absurd rfl hh
  | succ h =>
    cases f with
    | zero => cases e
    | succ f =>
      rw [farN, Option.map_eq_some_iff] at e
      obtain ⟨k', e, rfl⟩ := e
      exact ⟨k', rfl, farN_mono _ _ _ _ (by omega) e⟩
end Hz

namespace Hz
open PySem PySem.Spec PyProof.Rows L2
/-! ### signs and rows -/
def ctrls : List Str := ["begin", "end", "halt", "spell", "strike", "word"]
def restD : D := .str "rest"
def signB (d : D) : Bool := match d with
  | .int i => decide (0 ≤ i) && decide (i ≤ 11)
  | .str x => ctrls.contains x
  | _ => false
theorem inSeq_str (x : Str) : ∀ l : List Str, inSeq (.str x) (l.map PyData.str) = l.contains x
  | [] => rfl
  | y :: l => by
    have ih := inSeq_str x l
    unfold inSeq at ih ⊢
    rw [List.map_cons, List.any_cons, ih, List.contains_cons]
    congr 1
    simp only [PyData.eqv]
    rw [Bool.eq_iff_iff, beq_iff_eq, beq_iff_eq]
    exact eq_comm
theorem sign_ok {d : D} (h : dep 9 d = true) : d_is_sign [d] = .ok (.bool (signB d)) := by
  unfold d_is_sign b_is_sign env0
  cases d with
  | none => simp [whole_other (d := .none) 11 (by simp) (by simp), show (PyData.int 11) = nD 11 from rfl]; rfl
  | bool b => simp [whole_other (d := .bool b) 11 (by simp) (by simp), show (PyData.int 11) = nD 11 from rfl]; rfl
  | int i =>
    simp [whole_int, signB]
    by_cases h1 : 0 ≤ i <;> by_cases h2 : i ≤ 11 <;> simp [h1, h2]
  | str x =>
    have e : inD (.str x) (.tuple [.str "begin", .str "end", .str "halt", .str "spell", .str "strike", .str "word"]) = some (.bool (ctrls.contains x)) := by
      show (if dep 9 (.str x) = true ∧ dep 9 (.tuple (ctrls.map PyData.str)) = true then some (PyData.bool (inSeq (.str x) (ctrls.map PyData.str))) else none) = _
      rw [if_pos ⟨h, by decide +kernel⟩, inSeq_str]
    simp [whole_other (d := .str x) 11 (by simp) (by simp), show (PyData.int 11) = nD 11 from rfl, e, signB]
  | list l => simp [whole_other (d := .list l) 11 (by simp) (by simp), show (PyData.int 11) = nD 11 from rfl]; rfl
  | tuple l => simp [whole_other (d := .tuple l) 11 (by simp) (by simp), show (PyData.int 11) = nD 11 from rfl]; rfl
  | dict l => simp [dep] at h
theorem row_list {ds : List D} (h : ∀ d ∈ ds, dep 9 d = true) (hl : ds.length ≤ 1000000) : d_is_row [.list ds] = .ok (.bool (decide (ds.length ≤ 160) && ds.all signB)) := by
  have key : Ok (d_is_row [.list ds]) fun d => d = .bool (decide (ds.length ≤ 160) && ds.all signB) := by
    unfold d_is_row b_is_row env0
    refine Ok_fin ?_
    by_cases h1 : (ds.length : Int) ≤ 160
    · simp [h1]
      refine Ok_compY id (fun d => .bool (signB d)) ds (by simp [itemsOf]) hl (fun d hd => ⟨_, rfl, by simp [sign_ok (h d hd)], rfl⟩) rfl ?_
      simp [allD_map, show ds.length ≤ 160 by omega]
    · simp [h1, show ¬ ds.length ≤ 160 by omega]
  obtain ⟨d, e, rfl⟩ := key
  exact e
def restsOf : List D → List D
  | [] => []
  | d :: ds => d :: restD :: restsOf ds
theorem rests_len : ∀ ds : List D, (restsOf ds).length = 2 * ds.length
  | [] => rfl
  | d :: ds => by simp [restsOf, rests_len ds]; omega
theorem rests_snoc (d : D) : ∀ ds : List D, restsOf (ds ++ [d]) = restsOf ds ++ [d, restD]
  | [] => rfl
  | e :: ds => by simp [restsOf, rests_snoc d ds]
theorem ev_extS (i : Nat) (a : Env → R (D × Env)) (e : Env) {es : List D} {e1 : Env} {ds : List D} (h0 : ownL e i = some ds) (h1 : a e = .ok (.list es, e1)) (h2 : ownL e1 i = some ds) (h3 : ds.length + es.length ≤ 1000000) : extS i a e = .ok (.nx, e1.set i (some (.list (ds ++ es)))) := by
  unfold extS
  rw [h0, h1]
  simp only [lift_some, bind_ok, h2]
  rw [if_pos h3]
theorem rests_ok {ds : List D} (hl : ds.length ≤ 1000) : d_with_rests [.list ds] = .ok (.list (restsOf ds)) := by
  have key : Ok (d_with_rests [.list ds]) fun d => d = .list (restsOf ds) := by
    unfold d_with_rests b_with_rests env0
    refine Ok_fin (Ok_seq ?_)
    simp
    refine Ok_seq ?_
    simp [itemsOf]
    have hf := Ok_forL (b := bName 2) (body := extS 1 (lstD (consA (varD 2) (consA (cD (.str "rest")) nilA)))) (e := [some (.list ds), some (.list []), none]) (Q := fun r => thenP r (fun e' => Ok (retS (varD 1) e') fun a => ∃ d, a.1 = .rt d ∧ d = .list (restsOf ds)) (∃ d, r.1 = .rt d ∧ d = .list (restsOf ds))) id ds (fun i e => ∃ x, e = [some (.list ds), some (.list (restsOf (ds.take i))), x]) ⟨_, rfl⟩ (fun i d e hx hI => by
      obtain ⟨x, rfl⟩ := hI
      refine ⟨_, rfl, ?_⟩
      have hlt := lt_of_get hx
      have hlen : (restsOf (ds.take i)).length ≤ 2000 := by rw [rests_len, List.length_take]; omega
      rw [ev_extS 1 _ _ (es := [d, restD]) (e1 := [some (.list ds), some (.list (restsOf (ds.take i))), some d]) (ds := restsOf (ds.take i)) rfl (by simp [restD]) rfl (by simp; omega)]
      refine ⟨_, rfl, rfl, some d, ?_⟩
      rw [List.take_add_one, hx]
      simp [rests_snoc]) (fun e hI => by
      obtain ⟨x, rfl⟩ := hI
      simp)
    rw [List.map_id] at hf
    simpa using hf
  obtain ⟨d, e, rfl⟩ := key
  exact e
def isR (d : D) : Bool := PyData.eqv d restD
theorem rest_dep : dep 9 restD = true := by decide +kernel
theorem ne_rest {d : D} (h : dep 9 d = true) : neD d (.str "rest") = some (.bool (!isR d)) := neD_dep h rest_dep
theorem law_sign_ok (ns : List Int) (k : Nat) (hk : k ≤ 900000) : Ok (d_law_sign [scrV ns, twn k]) fun r => ∃ d k', r = (d, twn k') ∧ signB d = true ∧ dep 0 d = true ∧ k ≤ k' ∧ k' ≤ k + 3 := by
  unfold d_law_sign b_law_sign env0
  refine Ok_finT (Ok_seq ?_)
  obtain ⟨m, hm, e1⟩ := draw_lit ns k 4 (.int 4) rfl (by omega) (by omega)
  by_cases h0 : m = 0
  · obtain ⟨d, hd, e2⟩ := pick_ok ns (k + 1) [.str "begin", .str "end", .str "halt", .str "spell", .str "strike", .str "word"] (by simp) (by omega)
    simp [e1, h0, e2]
    refine ⟨_, _, ⟨rfl, rfl⟩, ?_, ?_, by omega, by omega⟩
    · simp only [List.mem_cons, List.not_mem_nil, or_false] at hd
      rcases hd with rfl | rfl | rfl | rfl | rfl | rfl <;> decide +kernel
    · simp only [List.mem_cons, List.not_mem_nil, or_false] at hd
      rcases hd with rfl | rfl | rfl | rfl | rfl | rfl <;> decide +kernel
  · obtain ⟨d, hd, e2⟩ := pick_ok ns (k + 1) [.int 2, .int 12] (by simp) (by omega)
    have hq : ∃ q, d = nD q ∧ 0 < q ∧ q ≤ 12 := by
      simp at hd
      rcases hd with rfl | rfl
      · exact ⟨2, rfl, by omega, by omega⟩
      · exact ⟨12, rfl, by omega, by omega⟩
    obtain ⟨q, rfl, hq1, hq2⟩ := hq
    obtain ⟨u, hu, e3⟩ := draw_ok ns (k + 1 + 1) q hq1 (by omega)
    simp [e1, h0, e2, e3]
    refine ⟨_, _, ⟨rfl, rfl⟩, ?_, rfl, by omega, by omega⟩
    simp [signB, nD]
    omega
theorem law_row_ok (ns : List Int) (k most : Nat) (md : D) (hmd : md = nD most) (hm : most ≤ 1000) (hk : k ≤ 800000) : Ok (d_law_row [scrV ns, twn k, md]) fun r => ∃ ds k', r = (.list ds, twn k') ∧ ds.length ≤ most ∧ (∀ d ∈ ds, signB d = true ∧ dep 0 d = true) ∧ k ≤ k' ∧ k' ≤ k + 1 + 3 * most := by
  subst hmd
  unfold d_law_row b_law_row env0
  refine Ok_finT ?_
  obtain ⟨m, hm1, e1⟩ := draw_ok ns k (most + 1) (by omega) (by omega)
  simp only [ev_retS, Ok_bind]
  refine Ok_compI (ds := (List.range m).map nD) (e1 := [some (scrV ns), some (twn (k + 1)), some (nD most), none]) (by simp [e1, rng1_n m (by omega)]) ?_
  refine Ok_compD nD id (fun _ d => signB d = true ∧ dep 0 d = true) (List.range m) (fun i e => ∃ j, e = [some (scrV ns), some (twn j), some (nD most), none] ∧ k + 1 ≤ j ∧ j ≤ k + 1 + 3 * i) rfl (by simp; omega) ⟨_, rfl, by omega, by omega⟩ (fun i x e hx hI => ?_) fun ys e' hI hy hP => ?_
  · obtain ⟨j, rfl, hj1, hj2⟩ := hI
    obtain ⟨rfl, hi⟩ := getR hx
    refine ⟨_, rfl, ?_⟩
    obtain ⟨_, e2, d, j', rfl, q1, q2, q3, q4⟩ := law_sign_ok ns j (by omega)
    simp [e2]
    exact ⟨⟨q1, q2⟩, j', rfl, by omega, by omega⟩
  · obtain ⟨j, rfl, hj1, hj2⟩ := hI
    simp only [List.length_range] at hy hj2
    simp
    refine ⟨ys, j, ⟨rfl, rfl⟩, by omega, fun d hd => ?_, by omega, by omega⟩
    obtain ⟨i, hi⟩ := List.getElem?_of_mem hd
    have hil : i < m := by rw [← hy]; exact lt_of_get hi
    exact hP i i d (by simp [hil]) hi
theorem sign_not_rest {d : D} (h : signB d = true) : isR d = false := by
  cases d with
  | int i => rfl
  | str x =>
    unfold signB ctrls at h
    simp at h
    rcases h with rfl | rfl | rfl | rfl | rfl | rfl <;> decide +kernel
  | _ => simp [signB] at h
theorem isR_rest : isR restD = true := by decide +kernel
theorem rests_mem : ∀ {ds : List D} {d : D}, d ∈ restsOf ds → d ∈ ds ∨ d = restD
  | [], _, h => by cases h
  | e :: ds, d, h => by
    rcases List.mem_cons.mp h with z | h
    · exact .inl (by rw [z]; exact List.mem_cons_self)
    · rcases List.mem_cons.mp h with z | h
      · exact .inr z
      · rcases rests_mem h with z | z
        · exact .inl (List.mem_cons_of_mem _ z)
        · exact .inr z
/-! words -/
end Hz

namespace Hz
open PySem PySem.Spec PyProof.Rows L2
/-! ### passing on -/
def atD (sh : List D) (h : Nat) : D := sh.getD h .none
theorem atD_get {sh : List D} {h : Nat} (hh : h < sh.length) : sh[h]? = some (atD sh h) := by
  unfold atD
  rw [List.getD, List.getElem?_eq_getElem hh]
  rfl
theorem atD_dep {sh : List D} (hd : ∀ d ∈ sh, dep 0 d = true) {h : Nat} (hh : h < sh.length) : dep 9 (atD sh h) = true := dep_up (hd _ (List.mem_of_getElem? (atD_get hh))) 9
theorem idx_at {sh : List D} {h : Nat} (hh : h < sh.length) : idxD (.list sh) (nD h) = some (atD sh h) := idx_l rfl (atD_get hh)
def repB (t : List Nat) (sh : List D) (h : Nat) (un : List Nat) : Bool := (belowN t h).all fun o => !decide (o ∈ un) && PyData.eqv (atD sh o) (atD sh h)
theorem below_le {t : List Nat} {h o : Nat} (ho : o ∈ belowN t h) : 1 ≤ o ∧ o ≤ t.length ∧ up t o = h := by
  unfold belowN at ho
  rw [List.mem_filter, List.mem_range'_1] at ho
  simp at ho
  exact ⟨ho.1.1, by omega, ho.2⟩
theorem notInD_nl (k : Nat) (l : List Nat) : notInD (nD k) (nlD l) = some (.bool (!decide (k ∈ l))) := by
  unfold notInD
  have e : inD (nD k) (nlD l) = some (.bool (decide (k ∈ l))) := by
    show (if dep 9 (nD k) = true ∧ dep 9 (nlD l) = true then some (PyData.bool (inSeq (nD k) (l.map nD))) else none) = _
    rw [if_pos ⟨rfl, dep_nl 8 l⟩, inSeq_n]
  rw [e]
theorem inD_nl (k : Nat) (l : List Nat) : inD (nD k) (nlD l) = some (.bool (decide (k ∈ l))) := by
  show (if dep 9 (nD k) = true ∧ dep 9 (nlD l) = true then some (PyData.bool (inSeq (nD k) (l.map nD))) else none) = _
  rw [if_pos ⟨rfl, dep_nl 8 l⟩, inSeq_n]
theorem rep_ok {t : List Nat} {sh : List D} (hl : t.length ≤ 1000) (hs : sh.length = t.length + 1) (hd : ∀ d ∈ sh, dep 0 d = true) (h : Nat) (hh : h ≤ t.length) (un : List Nat) : d_is_repeated [ntD t, .list sh, nD h, nlD un] = .ok (.bool (repB t sh h un)) := by
  have key : Ok (d_is_repeated [ntD t, .list sh, nD h, nlD un]) fun d => d = .bool (repB t sh h un) := by
    unfold d_is_repeated b_is_repeated env0
    refine Ok_fin ?_
    simp
    refine Ok_compY nD (fun o => .bool (!decide (o ∈ un) && PyData.eqv (atD sh o) (atD sh h))) (belowN t h) (by simp [below_n hl, itemsOf, nlD]) (by
      unfold belowN
      have := List.length_filter_le (fun o => decide (up t o = h)) (List.range' 1 t.length)
      simp at this
      omega) (fun o ho => ⟨_, rfl, ?_, rfl⟩) rfl ?_
    · obtain ⟨h1, h2, h3⟩ := below_le ho
      have i1 := idx_at (sh := sh) (h := o) (by omega)
      have i2 := idx_at (sh := sh) (h := h) (by omega)
      have q := eqD_dep (atD_dep hd (h := o) (by omega)) (atD_dep hd (h := h) (by omega))
      by_cases hm : o ∈ un <;> simp [notInD_nl, hm, i1, i2, q]
    · simp only [allD_map]
      simp
      rfl
  obtain ⟨d, e, rfl⟩ := key
  exact e
def nextD (t : List Nat) (sh : List D) (h : Nat) (un : List Nat) : D := if (decide (h ∈ un) || (PyData.eqv (atD sh (up t h)) (atD sh h) || !repB t sh h un)) = true then atD sh h else atD sh (up t h)
theorem next_ok {t : List Nat} {sh : List D} (w : Whole t) (hl : t.length ≤ 1000) (hs : sh.length = t.length + 1) (hd : ∀ d ∈ sh, dep 0 d = true) (h : Nat) (h1 : 1 ≤ h) (hh : h ≤ t.length) (un : List Nat) : d_next_show [ntD t, .list sh, nD h, nlD un] = .ok (nextD t sh h un) := by
  have hx : idxD (ntD t) (.int ((h : Int) - 1)) = some (nD (up t h)) := idx_nt (k := h - 1) (by omega) (up_get (by omega) (by omega))
  have hu := up_le w h
  have i1 := idx_at (sh := sh) (h := up t h) (by omega)
  have i2 := idx_at (sh := sh) (h := h) (by omega)
  have q := eqD_dep (atD_dep hd (h := up t h) (by omega)) (atD_dep hd (h := h) (by omega))
  unfold d_next_show b_next_show env0 nextD
  by_cases hm : h ∈ un
  · simp [ev_seqS, hx, inD_nl, hm, i2]
  · cases he : PyData.eqv (atD sh (up t h)) (atD sh h) with
    | true => simp [ev_seqS, hx, inD_nl, hm, i1, i2, q, he]
    | false =>
      cases hr : repB t sh h un with
      | true => simp [ev_seqS, hx, inD_nl, hm, i1, i2, q, he, rep_ok hl hs hd h hh un, hr]
      | false => simp [ev_seqS, hx, inD_nl, hm, i1, i2, q, he, rep_ok hl hs hd h hh un, hr]
@[simp] theorem ev_putS (i : Nat) (k v : Env → R (D × Env)) (e : Env) : putS i k v e = (v e).bind fun x => (k x.2).bind fun y => (lift (ownL y.2 i)).bind fun ds => intK y.1 fun j => (lift (ixN ds.length j)).bind fun m => .ok (.nx, y.2.set i (some (.list (ds.set m x.1)))) := by unfold putS intK; exact nr rfl
theorem ixN_n {n k : Nat} (h : k < n) : ixN n (k : Int) = some k := by
  unfold ixN
  rw [if_pos (by omega), if_pos (by omega), Int.toNat_natCast]
/-! slips of a moment: hills and signs -/
def pwV (p : Nat × D) : D × D := (nD p.1, p.2)
def valW (wr : List (Nat × D)) (h : Nat) : Option D := (wr.find? fun p => decide (p.1 = h)).map (·.2)
theorem valD_w (h : Nat) : ∀ wr : List (Nat × D), valD (wr.map pwV) (nD h) = valW wr h
  | [] => rfl
  | p :: wr => by
    have ih := valD_w h wr
    unfold valW at ih ⊢
    rw [List.map_cons]
    show (if keqD (nD p.1) (nD h) = true then some p.2 else valD (wr.map pwV) (nD h)) = _
    rw [keq_n, ih, List.find?_cons]
    by_cases z : p.1 = h <;> simp [z]
theorem din_w (wr : List (Nat × D)) (h : Nat) : dinD (nD h) (.dict (wr.map pwV)) = some (.bool (valW wr h).isSome) := by
  have hn : numKeys (wr.map pwV) = true := by cases wr <;> rfl
  show (if numKeys (wr.map pwV) = true then some (PyData.bool (hasD (wr.map pwV) (nD h))) else none) = _
  rw [if_pos hn]
  unfold hasD
  rw [valD_w]
theorem dget_w (wr : List (Nat × D)) (h : Nat) : dgetD (.dict (wr.map pwV)) (nD h) = valW wr h := by
  show valD (wr.map pwV) (nD h) = _
  exact valD_w h wr
def stepV (t : List Nat) (sh : List D) (un : List Nat) (wr : List (Nat × D)) (h : Nat) : D :=
  if (!PyData.eqv (nextD t sh h un) (atD sh h) && !isR (nextD t sh h un)) = true then (valW wr h).getD (nextD t sh h un) else nextD t sh h un
def goB (t : List Nat) (sh items : List D) (un : List Nat) : Bool := !items.isEmpty && repB t sh 0 un
def stepL (t : List Nat) (sh items : List D) (un : List Nat) (wr : List (Nat × D)) : List D := (if goB t sh items un = true then atD items 0 else atD sh 0) :: (List.range' 1 t.length).map (stepV t sh un wr)
def stepI (t : List Nat) (sh items : List D) (un : List Nat) : List D := if goB t sh items un = true then items.drop 1 else items
theorem next_mem {t : List Nat} {sh : List D} (w : Whole t) (hs : sh.length = t.length + 1) {h : Nat} (hh : h ≤ t.length) (un : List Nat) : nextD t sh h un ∈ sh := by
  have hu := up_le w h
  unfold nextD
  split
  · exact List.mem_of_getElem? (atD_get (by omega))
  · exact List.mem_of_getElem? (atD_get (by omega))
def midL (t : List Nat) (sh : List D) (un : List Nat) (wr : List (Nat × D)) (m0 : D) (i : Nat) : List D := m0 :: ((List.range' 1 i).map (stepV t sh un wr) ++ sh.drop (i + 1))
theorem mid_len {t : List Nat} {sh : List D} {un : List Nat} {wr : List (Nat × D)} {m0 : D} {i : Nat} (hs : sh.length = t.length + 1) (hi : i ≤ t.length) : (midL t sh un wr m0 i).length = t.length + 1 := by
  unfold midL
  simp
  omega
theorem mid_set {t : List Nat} {sh : List D} {un : List Nat} {wr : List (Nat × D)} {m0 : D} {i : Nat} (hs : sh.length = t.length + 1) (hi : i < t.length) : (midL t sh un wr m0 i).set (i + 1) (stepV t sh un wr (i + 1)) = midL t sh un wr m0 (i + 1) := by
  unfold midL
  rw [List.set_cons_succ]
  congr 1
  rw [List.set_append_right _ _ (by simp)]
  simp only [List.length_map, List.length_range', Nat.sub_self]
  rw [List.range'_1_concat, List.map_append, List.append_assoc]
  congr 1
  have hd : sh.drop (i + 1) = atD sh (i + 1) :: sh.drop (i + 1 + 1) := by
    have := atD_get (sh := sh) (h := i + 1) (by omega)
    rw [List.drop_eq_getElem_cons (by omega)]
    congr 1
    rw [List.getElem?_eq_getElem (by omega)] at this
    exact Option.some.inj this
  rw [hd]
  simp [Nat.add_comm]
theorem stepped_ok {t : List Nat} {sh items : List D} (w : Whole t) (hl : t.length ≤ 1000) (hs : sh.length = t.length + 1) (hd : ∀ d ∈ sh, dep 0 d = true) (hi : ∀ d ∈ items, dep 0 d = true) (un : List Nat) (wr : List (Nat × D)) :
    d_stepped [ntD t, .list sh, .list items, nlD un, .dict (wr.map pwV)] = .ok (.tuple [.list (stepL t sh items un wr), .list (stepI t sh items un)]) := by
  have key : Ok (d_stepped [ntD t, .list sh, .list items, nlD un, .dict (wr.map pwV)]) fun d => d = .tuple [.list (stepL t sh items un wr), .list (stepI t sh items un)] := by
    unfold d_stepped b_stepped env0
    refine Ok_fin (Ok_seq ?_)
    simp [listD]
    refine Ok_seq (Ok.mono (P := fun r => r = (.nx, [some (ntD t), some (.list sh), some (.list (stepI t sh items un)), some (nlD un), some (.dict (wr.map pwV)), some (.list (midL t sh un wr (if goB t sh items un = true then atD items 0 else atD sh 0) 0)), none])) ?_ ?_)
    · have e0 : neD (.list items) (.list []) = some (.bool (!items.isEmpty)) := by
        rw [neD_dep (dep_list fun d h => dep_up (hi d h) 8) rfl]
        cases items <;> simp [PyData.eqv, PyData.eqvAll]
      have hm : midL t sh un wr (atD sh 0) 0 = sh := by
        unfold midL
        have := atD_get (sh := sh) (h := 0) (by omega)
        cases sh with
        | nil => simp at hs
        | cons a sh => simp [atD]
      have hr := rep_ok hl hs hd 0 (by omega) un
      rw [show nD 0 = .int 0 from rfl] at hr
      cases he : items.isEmpty with
      | true => simp [e0, he, goB, stepI, hm]
      | false =>
        cases hb : repB t sh 0 un with
        | false => simp [e0, he, hr, hb, goB, stepI, hm]
        | true =>
          have hp : 0 < items.length := by
            cases items with
            | nil => simp at he
            | cons a l => simp
          have i0 : idxD (.list items) (.int 0) = some (atD items 0) := idx_at (h := 0) hp
          have hx : ixN sh.length 0 = some 0 := ixN_n (k := 0) (by omega)
          have hc : cutL items (some 1) none = items.drop 1 := cut_from items 1
          have ho : ∀ z : Option D, ownL [some (ntD t), some (.list sh), some (.list items), some (nlD un), some (.dict (wr.map pwV)), some (.list sh), z] 5 = some sh := fun _ => rfl
          have hset : sh.set 0 (atD items 0) = midL t sh un wr (atD items 0) 0 := by
            unfold midL
            cases sh with
            | nil => simp at hs
            | cons a sh => simp
          simp [ev_seqS, e0, he, hr, hb, goB, stepI, i0, hx, hc, ho, hset]
    · rintro _ rfl
      simp only [thenP_nx]
      generalize hm0 : (if goB t sh items un = true then atD items 0 else atD sh 0) = m0
      refine Ok_seq ?_
      have hrg : rng2 [.int 1, nD sh.length] = some ((List.range' 1 t.length).map nD) := by
        rw [hs]
        exact rng2_lit (.int 1) 1 (t.length + 1) rfl (by omega) (by omega)
      simp [hrg]
      refine Ok_forL nD (List.range' 1 t.length) (fun i e => ∃ v, e = [some (ntD t), some (.list sh), some (.list (stepI t sh items un)), some (nlD un), some (.dict (wr.map pwV)), some (.list (midL t sh un wr m0 i)), v]) ⟨_, rfl⟩ (fun i h e hx hI => ?_) fun e hI => ?_
      · obtain ⟨v, rfl⟩ := hI
        obtain ⟨rfl, hil⟩ := getR' hx
        rw [show 1 + i = i + 1 by omega]
        refine ⟨_, rfl, Ok_seq ?_⟩
        have hn := next_ok w hl hs hd (i + 1) (by omega) (by omega) un
        have hml := mid_len (un := un) (wr := wr) (m0 := m0) hs (show i ≤ t.length by omega)
        have hix : ixN (midL t sh un wr m0 i).length ((i : Int) + 1) = some (i + 1) := ixN_n (k := i + 1) (by omega)
        have ho : ∀ (l : List D) (z : Option D), ownL [some (ntD t), some (.list sh), some (.list (stepI t sh items un)), some (nlD un), some (.dict (wr.map pwV)), some (.list l), z] 5 = some l := fun _ _ => rfl
        generalize hv : nextD t sh (i + 1) un = nv at hn
        have hnd : dep 0 nv = true := by rw [← hv]; exact hd _ (next_mem w hs (by omega) un)
        simp [hn, ho, hix]
        have hl2 : ((midL t sh un wr m0 i).set (i + 1) nv).length = t.length + 1 := by rw [List.length_set]; exact hml
        have g1 : idxD (.list ((midL t sh un wr m0 i).set (i + 1) nv)) (nD (i + 1)) = some nv := idx_l rfl (List.getElem?_set_self (by omega))
        have g2 := idx_at (sh := sh) (h := i + 1) (by omega)
        have q1 := neD_dep (dep_up hnd 9) (atD_dep hd (h := i + 1) (by omega))
        have q2 := ne_rest (dep_up hnd 9)
        have hix2 : ixN (midL t sh un wr m0 i).length ((i : Int) + 1) = some (i + 1) := hix
        have fin := mid_set (un := un) (wr := wr) (m0 := m0) hs hil
        have hsv : stepV t sh un wr (i + 1) = if (!PyData.eqv nv (atD sh (i + 1)) && !isR nv) = true then (valW wr (i + 1)).getD nv else nv := by
          unfold stepV
          rw [hv]
        cases c1 : PyData.eqv nv (atD sh (i + 1)) with
        | true =>
          rw [c1] at hsv
          simp at hsv
          rw [hsv] at fin
          simp [ho, g1, g2, q1, c1]
          exact fin
        | false =>
          cases c2 : isR nv with
          | true =>
            rw [c1, c2] at hsv
            simp at hsv
            rw [hsv] at fin
            simp [ho, g1, g2, q1, q2, c1, c2]
            exact fin
          | false =>
            rw [c1, c2] at hsv
            cases c3 : valW wr (i + 1) with
            | none =>
              rw [c3] at hsv
              simp at hsv
              rw [hsv] at fin
              simp [ho, g1, g2, q1, q2, c1, c2, din_w, c3]
              exact fin
            | some d =>
              rw [c3] at hsv
              simp at hsv
              rw [hsv] at fin
              have gg : dgetD (.dict (wr.map pwV)) (nD (i + 1)) = some d := by rw [dget_w, c3]
              simp [ho, g1, g2, q1, q2, c1, c2, din_w, c3, gg, hix2]
              exact fin
      · obtain ⟨v, rfl⟩ := hI
        simp only [List.length_range']
        have hend : midL t sh un wr m0 t.length = stepL t sh items un wr := by
          unfold midL stepL
          rw [hm0, List.drop_eq_nil_of_le (by omega), List.append_nil]
        simp [hend]
  obtain ⟨d, e, rfl⟩ := key
  exact e
end Hz

namespace Hz
open PySem PySem.Spec PyProof.Rows L2
/-! ### moment by moment -/
def fogE (p : Nat × Nat) : D := .tuple [nD p.1, nD p.2]
def slipE (p : Nat × Nat × D) : D := .tuple [nD p.1, nD p.2.1, p.2.2]
def unAt (fog : List (Nat × Nat)) (m : Nat) : List Nat := (fog.filter fun p => decide (p.1 = m)).map (·.2)
def wrAt (slips : List (Nat × Nat × D)) (m : Nat) : List (Nat × D) := (slips.filter fun p => decide (p.1 = m + 1)).map (·.2)
def stAt (t : List Nat) (row : List D) (fog : List (Nat × Nat)) (slips : List (Nat × Nat × D)) : Nat → List D × List D
  | 0 => (List.replicate (t.length + 1) restD, restsOf row)
  | m + 1 => (stepL t (stAt t row fog slips m).1 (stAt t row fog slips m).2 (unAt fog m) (wrAt slips m), stepI t (stAt t row fog slips m).1 (stAt t row fog slips m).2 (unAt fog m))
def doneB (t : List Nat) (s : List D × List D) : Bool := s.2.isEmpty && s.1.all isR
section
variable {t : List Nat} {row : List D} {fog : List (Nat × Nat)} {slips : List (Nat × Nat × D)}
theorem st_len (m : Nat) : (stAt t row fog slips m).1.length = t.length + 1 := by
  cases m with
  | zero => simp [stAt]
  | succ m => simp [stAt, stepL]
theorem find_w {wr : List (Nat × D)} {h : Nat} {d : D} (e : valW wr h = some d) : ∃ p ∈ wr, p.2 = d := by
  unfold valW at e
  rw [Option.map_eq_some_iff] at e
  obtain ⟨p, hp, rfl⟩ := e
  exact ⟨p, List.mem_of_find?_eq_some hp, rfl⟩
theorem st_mem (w : Whole t) (P : D → Prop) (h0 : P restD) (hr : ∀ d ∈ row, P d) (hs : ∀ p ∈ slips, P p.2.2) : ∀ m, (∀ d ∈ (stAt t row fog slips m).1, P d) ∧ ∀ d ∈ (stAt t row fog slips m).2, P d
  | 0 => ⟨fun d hd => by
      simp [stAt] at hd
      rw [hd]
      exact h0, fun d hd => by
      rcases rests_mem hd with z | rfl
      · exact hr d z
      · exact h0⟩
  | m + 1 => by
    obtain ⟨i1, i2⟩ := st_mem w P h0 hr hs m
    have hl := st_len (t := t) (row := row) (fog := fog) (slips := slips) m
    refine ⟨fun d hd => ?_, fun d hd => ?_⟩
    · simp only [stAt, stepL] at hd
      rcases List.mem_cons.mp hd with z | z
      · by_cases g : goB t (stAt t row fog slips m).1 (stAt t row fog slips m).2 (unAt fog m) = true
        · rw [if_pos g] at z
          rw [z]
          refine i2 _ (List.mem_of_getElem? (atD_get ?_))
          unfold goB at g
          rw [Bool.and_eq_true] at g
          cases e : (stAt t row fog slips m).2 with
          | nil => rw [e] at g; simp at g
          | cons a l => simp
        · rw [if_neg g] at z
          rw [z]
          exact i1 _ (List.mem_of_getElem? (atD_get (by omega)))
      · obtain ⟨h, hh, rfl⟩ := List.mem_map.mp z
        rw [List.mem_range'_1] at hh
        have hn := i1 _ (next_mem w hl (show h ≤ t.length by omega) (unAt fog m))
        unfold stepV
        split
        · cases e : valW (wrAt slips m) h with
          | none => exact hn
          | some d =>
            obtain ⟨p, hp, rfl⟩ := find_w e
            unfold wrAt at hp
            obtain ⟨q, hq, rfl⟩ := List.mem_map.mp hp
            exact hs q (List.mem_filter.mp hq).1
        · exact hn
    · simp only [stAt, stepI] at hd
      split at hd
      · exact i2 d (List.mem_of_mem_drop hd)
      · exact i2 d hd
theorem pairsOf_w : ∀ l : List (Nat × D), pairsOf (l.map fun p => .tuple [nD p.1, p.2]) = some (l.map pwV)
  | [] => rfl
  | p :: l => by
    rw [List.map_cons]
    show (match keyOf (nD p.1), pairsOf (l.map fun p => .tuple [nD p.1, p.2]) with
      | some _, some r => some ((nD p.1, p.2) :: r)
      | _, _ => none) = _
    rw [pairsOf_w l]
    rfl
theorem mergeD_w : ∀ (l acc : List (Nat × D)), ((acc ++ l).map (·.1)).Nodup → mergeD (acc.map pwV) (l.map pwV) = (acc ++ l).map pwV
  | [], acc, _ => by simp [mergeD]
  | p :: l, acc, h => by
    rw [List.map_cons]
    have hno : hasD (acc.map pwV) (nD p.1) = false := by
      unfold hasD
      rw [valD_w]
      unfold valW
      have : acc.find? (fun q => decide (q.1 = p.1)) = none := by
        rw [List.find?_eq_none]
        intro q hq
        simp only [decide_eq_true_eq]
        intro z
        rw [List.map_append, List.map_cons, List.nodup_append] at h
        exact h.2.2 q.1 (List.mem_map_of_mem hq) p.1 List.mem_cons_self z
      rw [this]
      rfl
    have e : putD (acc.map pwV) (nD p.1) p.2 = (acc ++ [p]).map pwV := by
      unfold putD
      rw [hno]
      simp [pwV]
    show mergeD (putD (acc.map pwV) (nD p.1) p.2) (l.map pwV) = _
    rw [e, mergeD_w l (acc ++ [p]) (by simpa using h)]
    simp
theorem dictD_w (l : List (Nat × D)) (h : (l.map (·.1)).Nodup) : dictD [.list (l.map fun p => .tuple [nD p.1, p.2])] = some (.dict (l.map pwV)) := by
  show (pairsOf (l.map fun p => .tuple [nD p.1, p.2])).map (fun l => PyData.dict (mergeD [] l)) = _
  rw [pairsOf_w l]
  simp only [Option.map_some]
  have := mergeD_w l [] (by simpa using h)
  rw [show ([] : List (D × D)) = ([] : List (Nat × D)).map pwV from rfl, this]
  simp
theorem eqv_rests : ∀ sh : List D, PyData.eqvAll sh (List.replicate sh.length restD) = sh.all isR
  | [] => by simp [PyData.eqvAll]
  | a :: sh => by
    rw [List.length_cons, List.replicate_succ, PyData.eqvAll, eqv_rests sh]
    rfl
theorem mul_rests (n : Nat) (h : n ≤ 1000000) : mulD (.list [.str "rest"]) (nD n) = some (.list (List.replicate n restD)) := by
  show (if (n : Int) ≤ 1000000 ∧ -1000000 ≤ (n : Int) ∧ [PyData.str "rest"].length * (n : Int).toNat ≤ 1000000 then some (PyData.list (List.replicate (n : Int).toNat [PyData.str "rest"]).flatten) else none) = _
  rw [if_pos ⟨by omega, by omega, by simp; omega⟩, Int.toNat_natCast]
  congr 2
  clear h
  induction n with
  | zero => rfl
  | succ n ih => simp [List.replicate_succ, ih, restD]
def histL (t : List Nat) (row : List D) (fog : List (Nat × Nat)) (slips : List (Nat × Nat × D)) (m : Nat) : List D := (List.range (m + 1)).map fun k => .list (stAt t row fog slips k).1
theorem hist_len (m : Nat) : (histL t row fog slips m).length = m + 1 := by simp [histL]
theorem hist_succ (m : Nat) : histL t row fog slips (m + 1) = histL t row fog slips m ++ [.list (stAt t row fog slips (m + 1)).1] := by
  unfold histL
  rw [List.range_succ, List.map_append]
  rfl
theorem hist_last (m : Nat) : idxD (.list (histL t row fog slips m)) (.int (-1)) = some (.list (stAt t row fog slips m).1) := by
  have h : (histL t row fog slips m)[m]? = some (.list (stAt t row fog slips m).1) := by simp [histL]
  show atI (histL t row fog slips m) (-1) = _
  unfold atI ixN
  rw [hist_len, if_neg (by omega), if_pos (by omega)]
  simp only [Option.bind_some]
  rw [show ((-1 : Int) + ((m + 1 : Nat) : Int)).toNat = m by omega]
  exact h
theorem all_shows_ok (w : Whole t) (hl : t.length ≤ 100) (hr : ∀ d ∈ row, dep 0 d = true) (hrl : row.length ≤ 1000) (hs : ∀ p ∈ slips, dep 0 p.2.2 = true) (hfl : fog.length ≤ 1000) (hsl : slips.length ≤ 1000) (hnd : ∀ m, ((wrAt slips m).map (·.1)).Nodup) (M : Nat) (hM : M < 100000) (hdn : doneB t (stAt t row fog slips M) = true) (hmin : ∀ m, m < M → doneB t (stAt t row fog slips m) = false) :
    d_all_shows [ntD t, .list row, .tuple (fog.map fogE), .tuple (slips.map slipE)] = .ok (.list (histL t row fog slips M)) := by
  have key : Ok (d_all_shows [ntD t, .list row, .tuple (fog.map fogE), .tuple (slips.map slipE)]) fun d => d = .list (histL t row fog slips M) := by
    unfold d_all_shows b_all_shows env0
    have hdep : ∀ m, (∀ d ∈ (stAt t row fog slips m).1, dep 0 d = true) ∧ ∀ d ∈ (stAt t row fog slips m).2, dep 0 d = true := st_mem w (fun d => dep 0 d = true) (by decide +kernel) hr hs
    refine Ok_fin (Ok_seq ?_)
    simp [mul_rests (t.length + 1) (by omega)]
    refine Ok_seq ?_
    simp [rests_ok (show row.length ≤ 1000 by omega)]
    refine Ok_seq ?_
    simp
    refine Ok_seq ?_
    refine Ok_while (fun k e => ∃ m a b c, k = M - m ∧ m ≤ M ∧ e = [some (ntD t), some (.list row), some (.tuple (fog.map fogE)), some (.tuple (slips.map slipE)), some (.list (stAt t row fog slips m).1), some (.list (stAt t row fog slips m).2), some (.list (histL t row fog slips m)), a, b, c, none, none, none]) M (by omega) ⟨0, none, none, none, by omega, by omega, rfl⟩ (fun k e hI => ?_)
    obtain ⟨m, a, b, c, rfl, hmM, rfl⟩ := hI
    have ho : ∀ (x1 x2 x3 x4 x5 x6 x7 x8 : Option D) (l : List D), ownL [some (ntD t), some (.list row), some (.tuple (fog.map fogE)), some (.tuple (slips.map slipE)), x1, x2, some (.list l), x3, x4, x5, x6, x7, x8] 6 = some l := fun _ _ _ _ _ _ _ _ _ => rfl
    have hlen := st_len (t := t) (row := row) (fog := fog) (slips := slips) m
    have e0 : neD (.list (stAt t row fog slips m).2) (.list []) = some (.bool (!(stAt t row fog slips m).2.isEmpty)) := by
      rw [neD_dep (dep_list fun d h => dep_up ((hdep m).2 d h) 8) rfl]
      cases (stAt t row fog slips m).2 <;> simp [PyData.eqv, PyData.eqvAll]
    have e1 : neD (.list (stAt t row fog slips m).1) (.list (List.replicate (stAt t row fog slips m).1.length restD)) = some (.bool (!(stAt t row fog slips m).1.all isR)) := by
      rw [neD_dep (dep_list fun d h => dep_up ((hdep m).1 d h) 8) (dep_list fun d h => by rw [(List.mem_replicate.mp h).2]; decide +kernel)]
      simp only [PyData.eqv, eqv_rests]
    have hmul := mul_rests (stAt t row fog slips m).1.length (by omega)
    have hlast := hist_last (t := t) (row := row) (fog := fog) (slips := slips) m
    by_cases hd : doneB t (stAt t row fog slips m) = true
    · have hmm : m = M := by
        by_cases z : m = M
        · exact z
        · rw [hmin m (by omega)] at hd
          cases hd
      subst hmm
      unfold doneB at hd
      rw [Bool.and_eq_true] at hd
      simp only [ev_orT, ev_tstD, ev_op2, ev_varD, ev_lstD, ev_nilA, ev_idxO, ev_op1, ev_cD, ev_opN, ev_consA]
      simp [e0, hd.1, ho, hlast, hmul]
      rw [e1, hd.2]
      simp
    · have hmM' : m < M := by
        rcases Nat.lt_or_ge m M with z | z
        · exact z
        · rw [show m = M by omega] at hd
          exact absurd hdn hd
      refine Ok.mono (P := fun r => r = (true, [some (ntD t), some (.list row), some (.tuple (fog.map fogE)), some (.tuple (slips.map slipE)), some (.list (stAt t row fog slips m).1), some (.list (stAt t row fog slips m).2), some (.list (histL t row fog slips m)), a, b, c, none, none, none])) ?_ ?_
      · simp only [ev_orT, ev_tstD, ev_op2, ev_varD, ev_lstD, ev_nilA, ev_idxO, ev_op1, ev_cD, ev_opN, ev_consA]
        cases hz : (stAt t row fog slips m).2.isEmpty with
        | false => simp [e0, hz]
        | true =>
          have hz2 : (stAt t row fog slips m).1.all isR = false := by
            cases z : (stAt t row fog slips m).1.all isR with
            | false => rfl
            | true =>
              unfold doneB at hd
              rw [hz, z] at hd
              exact absurd rfl hd
          simp [e0, hz, ho, hlast, hmul]
          rw [e1, hz2]
          simp
      · rintro _ rfl
        refine ⟨fun _ => ?_, fun z => by cases z⟩
        refine Ok_seq ?_
        have hm1 : subD (nD (histL t row fog slips m).length) (.int 1) = some (nD m) := by
          rw [hist_len]
          show some (PyData.int (((m + 1 : Nat) : Int) - 1)) = some (.int (m : Int))
          congr 2
          omega
        simp only [ev_setS, ev_op2, ev_opNO, ho, ev_cD]
        simp [hm1]
        refine Ok_seq ?_
        simp only [ev_setS, Ok_bind]
        refine Ok_compP fogE (fun p => decide (p.1 = m)) (fun p => nD p.2) fog (by simp [itemsOf]) (by omega) (fun p hp => ⟨_, rfl, ?_, fun _ => ?_, rfl⟩) rfl ?_
        · simp
        · simp
        have hun : PyData.list ((fog.filter fun p => decide (p.1 = m)).map fun p => nD p.2) = nlD (unAt fog m) := by
          unfold unAt nlD
          rw [List.map_map]
          rfl
        rw [hun]
        simp
        refine Ok_seq ?_
        simp only [ev_setS, ev_opN, ev_consA, ev_nilA, Ok_bind]
        refine Ok_compP slipE (fun p => decide (p.1 = m + 1)) (fun p => .tuple [nD p.2.1, p.2.2]) slips (by simp [itemsOf]) (by omega) (fun p hp => ⟨_, rfl, ?_, fun _ => ?_, rfl⟩) rfl ?_
        · simp
        · simp
        have hwr : dictD [PyData.list ((slips.filter fun p => decide (p.1 = m + 1)).map fun p => .tuple [nD p.2.1, p.2.2])] = some (.dict ((wrAt slips m).map pwV)) := by
          rw [← dictD_w _ (hnd m)]
          unfold wrAt
          rw [List.map_map]
          rfl
        simp [hwr]
        refine Ok_seq ?_
        have hst := stepped_ok w (by omega) hlen (hdep m).1 (hdep m).2 (unAt fog m) (wrAt slips m)
        simp [ho, hlast, hst]
        have hll : (histL t row fog slips m).length < 1000000 := by rw [hist_len]; omega
        refine Ok_eq rfl ?_
        simp [ho, hll]
        refine ⟨M - (m + 1), by omega, m + 1, rfl, by omega, rfl, rfl, ?_⟩
        rw [hist_succ]
        rfl
  obtain ⟨d, e, rfl⟩ := key
  exact e
end
end Hz

namespace Hz
open PySem PySem.Spec PyProof.Rows L2
/-! ### how many things each hill has begun -/
def goC (t : List Nat) (N : Nat) (un : List Nat) (c : Nat → Nat) (h : Nat) : Bool :=
  ((belowN t h).all fun o => !decide (o ∈ un) && decide (c o = c h)) && (if h = 0 then decide (c 0 < N) else !decide (h ∈ un) && !decide (c (up t h) = c h))
def stepC (t : List Nat) (N : Nat) (un : List Nat) (c : Nat → Nat) : Nat → Nat := fun h => c h + if goC t N un c h = true then 1 else 0
def cAt (t : List Nat) (N : Nat) (un : Nat → List Nat) : Nat → Nat → Nat
  | 0 => fun _ => 0
  | m + 1 => stepC t N (un m) (cAt t N un m)
theorem below_mem {t : List Nat} {h o : Nat} : o ∈ belowN t h ↔ 1 ≤ o ∧ o ≤ t.length ∧ up t o = h := by
  refine ⟨below_le, fun ⟨h1, h2, h3⟩ => ?_⟩
  unfold belowN
  rw [List.mem_filter, List.mem_range'_1]
  exact ⟨⟨h1, by omega⟩, by simpa using h3⟩
section
variable {t : List Nat} {N : Nat} {un : List Nat} {c : Nat → Nat} {h : Nat}
theorem goC_iff : goC t N un c h = true ↔ (∀ o, 1 ≤ o → o ≤ t.length → up t o = h → o ∉ un ∧ c o = c h) ∧ (h = 0 → c 0 < N) ∧ (h ≠ 0 → h ∉ un ∧ c (up t h) ≠ c h) := by
  unfold goC
  rw [Bool.and_eq_true, List.all_eq_true]
  refine and_congr ⟨fun z o h1 h2 h3 => ?_, fun z o ho => ?_⟩ ?_
  · have := z o (below_mem.mpr ⟨h1, h2, h3⟩)
    simpa using this
  · obtain ⟨h1, h2, h3⟩ := below_mem.mp ho
    simpa using z o h1 h2 h3
  · by_cases hz : h = 0 <;> simp [hz]
theorem stepC_le : c h ≤ stepC t N un c h ∧ stepC t N un c h ≤ c h + 1 := by
  unfold stepC
  split <;> omega
theorem stepC_go (g : goC t N un c h = true) : stepC t N un c h = c h + 1 := by
  unfold stepC
  rw [if_pos g]
theorem stepC_st (g : ¬ goC t N un c h = true) : stepC t N un c h = c h := by
  unfold stepC
  rw [if_neg g]
  rfl
end
structure InvC (t : List Nat) (N : Nat) (c : Nat → Nat) : Prop where
  le0 : c 0 ≤ N
  kid : ∀ h, 1 ≤ h → h ≤ t.length → c h ≤ c (up t h) ∧ c (up t h) ≤ c h + 1
theorem InvC.step {t : List Nat} {N : Nat} {c : Nat → Nat} (I : InvC t N c) (un : List Nat) : InvC t N (stepC t N un c) := by
  refine ⟨?_, fun h h1 h2 => ?_⟩
  · by_cases g : goC t N un c 0 = true
    · have := (goC_iff.mp g).2.1 rfl
      rw [stepC_go g]
      omega
    · rw [stepC_st g]
      exact I.le0
  · have hk := I.kid h h1 h2
    by_cases g : goC t N un c (up t h) = true
    · have hh := (goC_iff.mp g).1 h h1 h2 rfl
      have g2 : ¬ goC t N un c h = true := fun z => ((goC_iff.mp z).2.2 (by omega)).2 hh.2.symm
      rw [stepC_go g, stepC_st g2]
      omega
    · rw [stepC_st g]
      by_cases g2 : goC t N un c h = true
      · have := ((goC_iff.mp g2).2.2 (by omega)).2
        rw [stepC_go g2]
        omega
      · rw [stepC_st g2]
        exact hk
theorem cAt_inv (t : List Nat) (N : Nat) (un : Nat → List Nat) : ∀ m, InvC t N (cAt t N un m)
  | 0 => ⟨Nat.zero_le _, fun _ _ _ => ⟨Nat.le_refl _, Nat.zero_le _⟩⟩
  | m + 1 => (cAt_inv t N un m).step (un m)
section
variable {t : List Nat} (T : IsTree t)
include T
theorem IsTree.kid {o f : Nat} (h1 : 1 ≤ o) (h2 : o ≤ t.length) (e : farN t (t.length + 1) (up t o) = some f) : farN t (t.length + 1) o = some (f + 1) := by
  obtain ⟨k, _, hk, _⟩ := T.far h2
  obtain ⟨k', rfl, e'⟩ := farN_pos hk (by omega)
  rw [e] at e'
  cases e'
  exact hk
theorem IsTree.par {o f : Nat} (h1 : 1 ≤ o) (e : farN t (t.length + 1) o = some f) : ∃ f', f = f' + 1 ∧ farN t (t.length + 1) (up t o) = some f' := farN_pos e (by omega)
theorem IsTree.kid0 : ∃ o, 1 ≤ o ∧ o ≤ t.length ∧ up t o = 0 := by
  have key : ∀ (f h : Nat), 1 ≤ h → h ≤ t.length → farN t (t.length + 1) h = some f → ∃ o, 1 ≤ o ∧ o ≤ t.length ∧ up t o = 0 := by
    intro f
    induction f with
    | zero =>
      intro h h1 h2 e
      obtain ⟨_, e', _⟩ := T.par h1 e
      omega
    | succ f ih =>
      intro h h1 h2 e
      obtain ⟨f', e', e2⟩ := T.par h1 e
      have : f' = f := by omega
      subst this
      by_cases z : up t h = 0
      · exact ⟨h, h1, h2, z⟩
      · exact ih _ (by omega) (up_le T.le h) e2
  obtain ⟨k, _, hk, _⟩ := T.far T.pos
  exact key k 1 (Nat.le_refl _) T.pos hk
theorem cAt_le0 (N : Nat) (un : Nat → List Nat) (m : Nat) {h : Nat} (hh : h ≤ t.length) : cAt t N un m h ≤ cAt t N un m 0 := by
  obtain ⟨f, hf⟩ : ∃ f, farN t (t.length + 1) h = some f := by
    obtain ⟨f, _, hf, _⟩ := T.far hh
    exact ⟨f, hf⟩
  induction f generalizing h with
  | zero =>
    by_cases z : h = 0
    · rw [z]; exact Nat.le_refl _
    · obtain ⟨_, e, _⟩ := T.par (show 1 ≤ h by omega) hf
      omega
  | succ f ih =>
    by_cases z : h = 0
    · rw [z]; exact Nat.le_refl _
    · obtain ⟨f', e, e2⟩ := T.par (show 1 ≤ h by omega) hf
      have : f' = f := by omega
      subst this
      exact Nat.le_trans ((cAt_inv t N un m).kid h (by omega) hh).1 (ih (up_le T.le h) e2)
theorem cAt_le (N : Nat) (un : Nat → List Nat) (m : Nat) {h : Nat} (hh : h ≤ t.length) : cAt t N un m h ≤ N := Nat.le_trans (cAt_le0 T N un m hh) (cAt_inv t N un m).le0
theorem cAt_up (N : Nat) (un : Nat → List Nat) : ∀ (m : Nat) {h f : Nat}, h ≤ t.length → farN t (t.length + 1) h = some f → cAt t N un m h ≤ min N ((m + 1 - f) / 2)
  | 0, h, f, _, _ => by simp [cAt]
  | m + 1, h, f, hh, hf => by
    have ih := cAt_up N un m hh hf
    show stepC t N (un m) (cAt t N un m) h ≤ _
    by_cases g : goC t N (un m) (cAt t N un m) h = true
    · rw [stepC_go g]
      obtain ⟨g1, g2, g3⟩ := goC_iff.mp g
      by_cases z : h = 0
      · subst z
        rw [farN_zero] at hf
        cases hf
        obtain ⟨o, o1, o2, o3⟩ := T.kid0
        have e := (g1 o o1 o2 o3).2
        have i := cAt_up N un m o2 (T.kid (f := 0) o1 o2 (by rw [o3, farN_zero]))
        have l := g2 rfl
        omega
      · obtain ⟨f', rfl, e2⟩ := T.par (show 1 ≤ h by omega) hf
        have i := cAt_up N un m (up_le T.le h) e2
        have k := (cAt_inv t N un m).kid h (by omega) hh
        have l := (g3 z).2
        omega
    · rw [stepC_st g]
      omega
def clearS (un : Nat → List Nat) : Nat → Nat
  | 0 => 0
  | m + 1 => clearS un m + if (un m).isEmpty = true then 1 else 0
theorem cAt_low (N : Nat) (un : Nat → List Nat) : ∀ (m : Nat) {h f : Nat}, h ≤ t.length → farN t (t.length + 1) h = some f → min N ((clearS un m + 1 - f) / 2) ≤ cAt t N un m h
  | 0, h, f, _, _ => by
    simp [cAt, clearS]
    omega
  | m + 1, h, f, hh, hf => by
    have ih := cAt_low N un m hh hf
    show _ ≤ stepC t N (un m) (cAt t N un m) h
    by_cases c : (un m).isEmpty = true
    · rw [clearS, if_pos c]
      have hu : un m = [] := List.isEmpty_iff.mp c
      by_cases g : goC t N (un m) (cAt t N un m) h = true
      · rw [stepC_go g]
        omega
      · rw [stepC_st g]
        refine Classical.byContradiction fun hn => g (goC_iff.mpr ⟨fun o o1 o2 o3 => ⟨by rw [hu]; simp, ?_⟩, fun z => ?_, fun z => ⟨by rw [hu]; simp, ?_⟩⟩)
        · have i := cAt_low N un m o2 (T.kid (f := f) o1 o2 (by rw [o3]; exact hf))
          have k := (cAt_inv t N un m).kid o o1 o2
          rw [o3] at k
          omega
        · subst z
          omega
        · obtain ⟨f', rfl, e2⟩ := T.par (show 1 ≤ h by omega) hf
          have i := cAt_low N un m (up_le T.le h) e2
          omega
    · rw [clearS, if_neg c]
      have := (stepC_le (t := t) (N := N) (un := un m) (c := cAt t N un m) (h := h)).1
      omega
omit T in
theorem clear_all (un : Nat → List Nat) (hu : ∀ m, un m = []) : ∀ m, clearS un m = m
  | 0 => rfl
  | m + 1 => by rw [clearS, clear_all un hu m, hu m]; rfl
theorem cAt_clear (N : Nat) (un : Nat → List Nat) (hu : ∀ m, un m = []) (m : Nat) {h f : Nat} (hh : h ≤ t.length) (hf : farN t (t.length + 1) h = some f) : cAt t N un m h = min N ((m + 1 - f) / 2) := by
  have h1 := cAt_up T N un m hh hf
  have h2 := cAt_low T N un m hh hf
  rw [clear_all un hu] at h2
  omega
end
/-! when each thing was begun -/
theorem least {P : Nat → Bool} : ∀ B, P B = true → ∃ M, M ≤ B ∧ P M = true ∧ ∀ m, m < M → P m = false
  | 0, h => ⟨0, Nat.le_refl _, h, fun m hm => by omega⟩
  | B + 1, h => by
    by_cases z : ∃ m, m ≤ B ∧ P m = true
    · obtain ⟨m, hm, hp⟩ := z
      have key : ∀ n m, m ≤ n → P m = true → ∃ M, M ≤ n ∧ P M = true ∧ ∀ k, k < M → P k = false := by
        intro n
        induction n with
        | zero => intro m hm hp; exact ⟨m, hm, hp, fun k hk => by omega⟩
        | succ n ih =>
          intro m hm hp
          by_cases y : ∃ k, k ≤ n ∧ P k = true
          · obtain ⟨k, hk, hpk⟩ := y
            obtain ⟨M, h1, h2, h3⟩ := ih k hk hpk
            exact ⟨M, by omega, h2, h3⟩
          · refine ⟨m, hm, hp, fun k hk => ?_⟩
            cases q : P k with
            | false => rfl
            | true => exact absurd ⟨k, by omega, q⟩ y
      obtain ⟨M, h1, h2, h3⟩ := key B m hm hp
      exact ⟨M, by omega, h2, h3⟩
    · refine ⟨B + 1, Nat.le_refl _, h, fun m hm => ?_⟩
      cases q : P m with
      | false => rfl
      | true => exact absurd ⟨m, by omega, q⟩ z
structure Rises (c : Nat → Nat) : Prop where
  z : c 0 = 0
  s : ∀ m, c m ≤ c (m + 1) ∧ c (m + 1) ≤ c m + 1
theorem Rises.mono {c : Nat → Nat} (r : Rises c) {m n : Nat} (h : m ≤ n) : c m ≤ c n := by
  induction n with
  | zero => rw [show m = 0 by omega]; exact Nat.le_refl _
  | succ n ih =>
    by_cases z : m = n + 1
    · rw [z]; exact Nat.le_refl _
    · exact Nat.le_trans (ih (by omega)) (r.s n).1
/-! what hills show, by these numbers -/
def itemAt (row : List D) (k : Nat) : D := if k = 0 then restD else atD (restsOf row) (k - 1)
theorem rests_get : ∀ (row : List D) (k : Nat), k < row.length → (restsOf row)[2 * k]? = some (atD row k) ∧ (restsOf row)[2 * k + 1]? = some restD
  | [], k, h => by simp at h
  | d :: row, 0, _ => ⟨rfl, rfl⟩
  | d :: row, k + 1, h => by
    obtain ⟨h1, h2⟩ := rests_get row k (by simpa using h)
    have e1 : 2 * (k + 1) = 2 * k + 1 + 1 := by omega
    have e2 : 2 * (k + 1) + 1 = 2 * k + 1 + 1 + 1 := by omega
    rw [e2, e1]
    simp only [restsOf, List.getElem?_cons_succ]
    exact ⟨h1, h2⟩
theorem atD_of {sh : List D} {k : Nat} {d : D} (h : sh[k]? = some d) : atD sh k = d := by
  unfold atD
  rw [List.getD, h]
  rfl
theorem item_even (row : List D) (k : Nat) (h : k ≤ row.length) : itemAt row (2 * k) = restD := by
  unfold itemAt
  by_cases z : k = 0
  · rw [z]; rfl
  · rw [if_neg (by omega), show 2 * k - 1 = 2 * (k - 1) + 1 by omega]
    exact atD_of (rests_get row (k - 1) (by omega)).2
theorem item_odd (row : List D) (k : Nat) (h : k < row.length) : itemAt row (2 * k + 1) = atD row k := by
  unfold itemAt
  rw [if_neg (by omega)]
  exact atD_of (rests_get row k h).1
section
variable {row : List D} (hr : ∀ d ∈ row, signB d = true ∧ dep 0 d = true)
include hr
theorem row_at {k : Nat} (h : k < row.length) : signB (atD row k) = true ∧ dep 0 (atD row k) = true := hr _ (List.mem_of_getElem? (atD_get h))
theorem isR_item {k : Nat} (h : k ≤ 2 * row.length) : isR (itemAt row k) = decide (k % 2 = 0) := by
  rcases Nat.mod_two_eq_zero_or_one k with e | e
  · rw [show k = 2 * (k / 2) by omega, item_even row _ (by omega), isR_rest]
    simp
  · rw [show k = 2 * (k / 2) + 1 by omega, item_odd row _ (by omega), sign_not_rest (row_at hr (by omega)).1]
    simp
theorem item_dep {k : Nat} (h : k ≤ 2 * row.length) : dep 0 (itemAt row k) = true := by
  rcases Nat.mod_two_eq_zero_or_one k with e | e
  · rw [show k = 2 * (k / 2) by omega, item_even row _ (by omega)]
    decide +kernel
  · rw [show k = 2 * (k / 2) + 1 by omega, item_odd row _ (by omega)]
    exact (row_at hr (by omega)).2
omit hr in
theorem eqv_rest_l {d : D} (h : isR d = false) : PyData.eqv restD d = false := by
  cases d with
  | str x =>
    unfold isR restD at h
    unfold restD
    simp only [PyData.eqv] at h ⊢
    rw [Bool.eq_false_iff] at h ⊢
    intro z
    exact h (by rw [beq_iff_eq] at z ⊢; exact z.symm)
  | _ => rfl
theorem eqv_item {a b : Nat} (ha : a ≤ 2 * row.length) (hb : b ≤ 2 * row.length) (h1 : b ≤ a + 1) (h2 : a ≤ b + 1) : PyData.eqv (itemAt row a) (itemAt row b) = decide (a = b) := by
  by_cases z : a = b
  · subst z
    rw [eqv_self 0 _ (item_dep hr ha)]
    simp
  · have ea := isR_item hr ha
    have eb := isR_item hr hb
    rw [show decide (a = b) = false by simp [z]]
    rcases Nat.mod_two_eq_zero_or_one a with e | e
    · have : itemAt row a = restD := by rw [show a = 2 * (a / 2) by omega, item_even row _ (by omega)]
      rw [this]
      exact eqv_rest_l (by rw [eb]; simp; omega)
    · have : itemAt row b = restD := by rw [show b = 2 * (b / 2) by omega, item_even row _ (by omega)]
      rw [this]
      show isR _ = false
      rw [ea]
      simp
      omega
end
def shC (t : List Nat) (row : List D) (c : Nat → Nat) : List D := (List.range (t.length + 1)).map fun h => itemAt row (c h)
theorem shC_at {t : List Nat} {row : List D} {c : Nat → Nat} {h : Nat} (hh : h ≤ t.length) : atD (shC t row c) h = itemAt row (c h) := by
  refine atD_of ?_
  unfold shC
  rw [List.getElem?_map, List.getElem?_eq_getElem (by simp; omega)]
  simp
theorem range_cons (n : Nat) : List.range (n + 1) = 0 :: List.range' 1 n := by
  rw [List.range_eq_range', List.range'_succ]
theorem shC_cons (t : List Nat) (row : List D) (c : Nat → Nat) : shC t row c = itemAt row (c 0) :: (List.range' 1 t.length).map fun h => itemAt row (c h) := by
  unfold shC
  rw [range_cons, List.map_cons]
section
variable {t : List Nat} {row : List D} (T : IsTree t) (hr : ∀ d ∈ row, signB d = true ∧ dep 0 d = true)
include T hr
theorem rep_c {c : Nat → Nat} (I : InvC t (2 * row.length) c) (hle : ∀ h, h ≤ t.length → c h ≤ 2 * row.length) {h : Nat} (hh : h ≤ t.length) (un : List Nat) : repB t (shC t row c) h un = (belowN t h).all fun o => !decide (o ∈ un) && decide (c o = c h) := by
  unfold repB
  rw [Bool.eq_iff_iff, List.all_eq_true, List.all_eq_true]
  refine forall_congr' fun o => forall_congr' fun ho => ?_
  obtain ⟨h1, h2, h3⟩ := below_le ho
  have k := I.kid o h1 h2
  rw [h3] at k
  rw [shC_at h2, shC_at hh, eqv_item hr (hle o h2) (hle h hh) (by omega) (by omega)]
theorem next_c {c : Nat → Nat} (I : InvC t (2 * row.length) c) (hle : ∀ h, h ≤ t.length → c h ≤ 2 * row.length) {h : Nat} (h1 : 1 ≤ h) (hh : h ≤ t.length) (un : List Nat) : nextD t (shC t row c) h un = itemAt row (stepC t (2 * row.length) un c h) := by
  have hu := up_le T.le h
  have k := I.kid h h1 hh
  unfold nextD
  rw [rep_c T hr I hle hh un, shC_at hh, shC_at hu, eqv_item hr (hle _ hu) (hle h hh) (by omega) (by omega)]
  by_cases g : goC t (2 * row.length) un c h = true
  · rw [stepC_go g]
    unfold goC at g
    rw [if_neg (by omega)] at g
    simp only [Bool.and_eq_true, Bool.not_eq_true', decide_eq_false_iff_not] at g
    obtain ⟨g1, g2, g3⟩ := g
    rw [if_neg (by rw [g1]; simp [g2, g3])]
    congr 1
    omega
  · rw [stepC_st g]
    unfold goC at g
    rw [if_neg (by omega)] at g
    by_cases z : c (up t h) = c h
    · rw [z]
      simp
    · rw [if_pos]
      by_cases y : h ∈ un
      · simp [y]
      · simp [y, z] at g ⊢
        exact g
theorem st_cnt (fog : List (Nat × Nat)) : ∀ m, stAt t row fog [] m = (shC t row (cAt t (2 * row.length) (unAt fog) m), (restsOf row).drop (cAt t (2 * row.length) (unAt fog) m 0))
  | 0 => by
    refine Prod.ext ?_ rfl
    show List.replicate (t.length + 1) restD = _
    unfold shC
    refine List.ext_getElem? fun i => ?_
    by_cases hi : i < t.length + 1
    · rw [List.getElem?_replicate, if_pos hi, List.getElem?_map, List.getElem?_eq_getElem (by simp; omega)]
      rfl
    · rw [List.getElem?_eq_none (by simp; omega), List.getElem?_eq_none (by simp; omega)]
  | m + 1 => by
    have ih := st_cnt fog m
    have I := cAt_inv t (2 * row.length) (unAt fog) m
    have hle : ∀ h, h ≤ t.length → cAt t (2 * row.length) (unAt fog) m h ≤ 2 * row.length := fun h hh => cAt_le T _ _ m hh
    have hs : cAt t (2 * row.length) (unAt fog) (m + 1) = stepC t (2 * row.length) (unAt fog m) (cAt t (2 * row.length) (unAt fog) m) := rfl
    rw [hs]
    rw [stAt, ih]
    generalize cAt t (2 * row.length) (unAt fog) m = c at *
    have hg : goB t (shC t row c) ((restsOf row).drop (c 0)) (unAt fog m) = goC t (2 * row.length) (unAt fog m) c 0 := by
      unfold goB goC
      rw [rep_c T hr I hle (Nat.zero_le _), if_pos rfl, Bool.and_comm]
      congr 1
      rw [Bool.eq_iff_iff]
      simp [rests_len]
    refine Prod.ext ?_ ?_
    · show stepL t (shC t row c) ((restsOf row).drop (c 0)) (unAt fog m) (wrAt [] m) = _
      rw [shC_cons t row (stepC t (2 * row.length) (unAt fog m) c)]
      unfold stepL
      rw [hg]
      congr 1
      · show _ = itemAt row (stepC t (2 * row.length) (unAt fog m) c 0)
        by_cases g : goC t (2 * row.length) (unAt fog m) c 0 = true
        · rw [if_pos g, stepC_go g]
          have hlt := (goC_iff.mp g).2.1 rfl
          unfold itemAt
          rw [if_neg (by omega)]
          refine atD_of ?_
          rw [List.getElem?_drop, Nat.add_zero, Nat.add_sub_cancel]
          exact atD_get (by rw [rests_len]; omega)
        · rw [if_neg g, stepC_st g]
          exact shC_at (Nat.zero_le _)
      · refine List.map_congr_left fun h hh => ?_
        rw [List.mem_range'_1] at hh
        have hn := next_c T hr I hle (h := h) (by omega) (by omega) (unAt fog m)
        rw [← hn]
        unfold stepV
        split
        · rfl
        · rfl
    · show stepI t (shC t row c) ((restsOf row).drop (c 0)) (unAt fog m) = _
      unfold stepI
      rw [hg]
      by_cases g : goC t (2 * row.length) (unAt fog m) c 0 = true
      · rw [if_pos g, stepC_go g, List.drop_drop]
      · rw [if_neg g, stepC_st g]
theorem done_c (fog : List (Nat × Nat)) (m : Nat) : doneB t (stAt t row fog [] m) = true ↔ ∀ h, h ≤ t.length → cAt t (2 * row.length) (unAt fog) m h = 2 * row.length := by
  rw [st_cnt T hr fog m]
  have I := cAt_inv t (2 * row.length) (unAt fog) m
  have hle : ∀ h, h ≤ t.length → cAt t (2 * row.length) (unAt fog) m h ≤ 2 * row.length := fun h hh => cAt_le T _ _ m hh
  generalize cAt t (2 * row.length) (unAt fog) m = c at *
  unfold doneB
  rw [Bool.and_eq_true]
  have hc0 := hle 0 (Nat.zero_le _)
  constructor
  · rintro ⟨h1, h2⟩ h hh
    have e0 : c 0 = 2 * row.length := by
      rw [List.isEmpty_iff] at h1
      simp [rests_len] at h1
      omega
    have hev : ∀ h, h ≤ t.length → c h % 2 = 0 := fun h hh => by
      rw [List.all_eq_true] at h2
      have := h2 (itemAt row (c h)) (by
        unfold shC
        exact List.mem_map_of_mem (f := fun h => itemAt row (c h)) (by simp; omega))
      rw [isR_item hr (hle h hh)] at this
      simpa using this
    obtain ⟨f, hf⟩ : ∃ f, farN t (t.length + 1) h = some f := by
      obtain ⟨f, _, hf, _⟩ := T.far hh
      exact ⟨f, hf⟩
    induction f generalizing h with
    | zero =>
      by_cases z : h = 0
      · rw [z]; exact e0
      · obtain ⟨_, e, _⟩ := T.par (show 1 ≤ h by omega) hf
        omega
    | succ f ih =>
      by_cases z : h = 0
      · rw [z]; exact e0
      · obtain ⟨f', e, e2⟩ := T.par (show 1 ≤ h by omega) hf
        have : f' = f := by omega
        subst this
        have k := I.kid h (by omega) hh
        have i := ih (up t h) (up_le T.le h) e2
        have v := hev h hh
        omega
  · intro H
    refine ⟨?_, ?_⟩
    · rw [List.isEmpty_iff, H 0 (Nat.zero_le _)]
      exact List.drop_eq_nil_of_le (by rw [rests_len]; omega)
    · rw [List.all_eq_true]
      intro d hd
      unfold shC at hd
      obtain ⟨h, hh, rfl⟩ := List.mem_map.mp hd
      simp at hh
      rw [isR_item hr (hle h (by omega)), H h (by omega)]
      simp
/-! it comes to an end -/
omit T hr in
theorem clear_count (fog : List (Nat × Nat)) : ∀ m, m ≤ clearS (unAt fog) m + (fog.filter fun p => decide (p.1 < m)).length
  | 0 => Nat.zero_le _
  | m + 1 => by
    have ih := clear_count fog m
    have key : ∀ fog : List (Nat × Nat), (fog.filter fun p => decide (p.1 < m)).length + (unAt fog m).length = (fog.filter fun p => decide (p.1 < m + 1)).length := by
      intro fog
      unfold unAt
      induction fog with
      | nil => rfl
      | cons p fog ih =>
        simp only [List.filter_cons, List.length_map] at ih ⊢
        by_cases h1 : p.1 < m
        · simp [h1, show p.1 ≠ m by omega, show p.1 < m + 1 by omega] at ih ⊢
          omega
        · by_cases h2 : p.1 = m
          · simp [h1, h2] at ih ⊢
            omega
          · simp [h1, h2, show ¬ p.1 < m + 1 by omega] at ih ⊢
            omega
    have k := key fog
    rw [clearS]
    by_cases e : (unAt fog m).isEmpty = true
    · rw [if_pos e]
      have : (unAt fog m).length = 0 := by rw [List.isEmpty_iff.mp e]; rfl
      omega
    · rw [if_neg e]
      have : (unAt fog m).length ≠ 0 := fun z => e (by rw [List.length_eq_zero_iff.mp z]; rfl)
      omega
theorem cAt_end (fog : List (Nat × Nat)) {deep : Nat} (hdp : ∀ h f, h ≤ t.length → farN t (t.length + 1) h = some f → f ≤ deep) {m : Nat} (hm : 4 * row.length + deep + fog.length ≤ m + 1) {h : Nat} (hh : h ≤ t.length) : cAt t (2 * row.length) (unAt fog) m h = 2 * row.length := by
  obtain ⟨f, _, hf, _⟩ := T.far hh
  have h1 := cAt_low T (2 * row.length) (unAt fog) m hh hf
  have h2 := cAt_le T (2 * row.length) (unAt fog) m hh
  have h3 := clear_count fog m
  have h4 := List.length_filter_le (fun p : Nat × Nat => decide (p.1 < m)) fog
  have h5 := hdp h f hh hf
  omega
end
end Hz

namespace Hz
open PySem PySem.Spec PyProof.Rows L2
/-! ### registers -/
def histOf (f : Nat → List D) (M : Nat) : D := .list ((List.range (M + 1)).map fun m => .list (f m))
theorem hist_lenD (f : Nat → List D) (M : Nat) : lenD [histOf f M] = some (nD (M + 1)) := by
  unfold histOf
  simp
/-! what is needed -/
theorem need_row_T {row : List D} (h : ∀ d ∈ row, signB d = true ∧ dep 0 d = true) (hl : row.length ≤ 160) : d_need_row [.list row] = .ok .none := by
  have e := row_list (ds := row) (fun d hd => dep_up (h d hd).2 9) (by omega)
  rw [show decide (row.length ≤ 160) = true by simpa using hl, show row.all signB = true from List.all_eq_true.mpr fun d hd => (h d hd).1] at e
  unfold d_need_row b_need_row env0
  simp [e]
structure FogOk (t : List Nat) (fog : List (Nat × Nat)) : Prop where
  len : fog.length ≤ 12
  at' : ∀ p ∈ fog, p.1 ≤ 999 ∧ 1 ≤ p.2 ∧ p.2 ≤ t.length
  srt : fog.Pairwise fun p q => p.1 < q.1 ∨ p.1 = q.1 ∧ p.2 < q.2
theorem pair_n (t : List Nat) (p : Nat × Nat) : d_is_pair [ntD t, fogE p] = .ok (.bool (decide (p.1 ≤ 999) && (decide (1 ≤ p.2) && decide (p.2 ≤ t.length)))) := by
  have e1 : d_is_whole [nD p.1, .int 0, .int 999] = .ok (.bool (decide (p.1 ≤ 999))) := by
    rw [show (PyData.int 999) = nD 999 from rfl, whole_n]
  have e2 : d_is_whole [nD p.2, .int 1, nD t.length] = .ok (.bool (decide (1 ≤ p.2) && decide (p.2 ≤ t.length))) := by
    rw [show nD p.2 = .int (p.2 : Int) from rfl, show nD t.length = .int (t.length : Int) from rfl, whole_int]
    congr 2
    by_cases h1 : 1 ≤ p.2 <;> by_cases h2 : p.2 ≤ t.length <;> simp [h1, h2] <;> omega
  have i0 : idxD (.tuple [nD p.1, nD p.2]) (.int 0) = some (nD p.1) := rfl
  have i1 : idxD (.tuple [nD p.1, nD p.2]) (.int 1) = some (nD p.2) := rfl
  unfold d_is_pair b_is_pair env0 fogE
  cases c : decide (p.1 ≤ 999) with
  | true =>
    rw [c] at e1
    simp [ev_seqS, i0, i1, e1, e2]
  | false =>
    rw [c] at e1
    simp [ev_seqS, i0, i1, e1]
theorem lt_fogE (p q : Nat × Nat) : ltD (fogE p) (fogE q) = some (.bool (decide (p.1 < q.1 ∨ p.1 = q.1 ∧ p.2 < q.2))) := by
  show some (PyData.bool (HT.lexLt [(p.1 : Int), (p.2 : Int)] [(q.1 : Int), (q.2 : Int)])) = _
  congr 2
  rw [HT.lexLt_cons, HT.lexLt_cons, HT.lexLt_nil_nil, Bool.eq_iff_iff]
  by_cases h2 : p.1 = q.1
  · rw [if_pos (by omega)]
    by_cases h3 : p.2 = q.2
    · rw [if_pos (by omega)]
      simp [h2, h3]
    · rw [if_neg (by omega)]
      simp [h2]
  · rw [if_neg (by omega)]
    simp [h2]
theorem pairwise_zip {α : Type} {r : α → α → Prop} : ∀ {l : List α}, l.Pairwise r → ∀ p ∈ l.zip (l.drop 1), r p.1 p.2
  | [], _, p, hp => by simp at hp
  | [a], _, p, hp => by simp at hp
  | a :: b :: l, h, p, hp => by
    rw [List.drop_succ_cons, List.drop_zero, List.zip_cons_cons] at hp
    rcases List.mem_cons.mp hp with z | z
    · subst z
      exact (List.pairwise_cons.mp h).1 b List.mem_cons_self
    · exact pairwise_zip (List.pairwise_cons.mp h).2 p (by simpa using z)
theorem fog_ok {t : List Nat} {fog : List (Nat × Nat)} (F : FogOk t fog) : d_is_fog [ntD t, .tuple (fog.map fogE)] = .ok (.bool true) := by
  have key : Ok (d_is_fog [ntD t, .tuple (fog.map fogE)]) fun d => d = .bool true := by
    unfold d_is_fog b_is_fog env0
    have hln := F.len
    refine Ok_fin (Ok_seq ?_)
    have c1 : compD (seqI (varD 1)) [4] (bName 4) yesT (callP d_is_pair (consA (varD 0) (consA (varD 4) nilA))) [some (ntD t), some (.tuple (fog.map fogE)), none, none, none] = .ok (.list (fog.map fun p => .bool (decide (p.1 ≤ 999) && (decide (1 ≤ p.2) && decide (p.2 ≤ t.length)))), [some (ntD t), some (.tuple (fog.map fogE)), none, none, none]) := by
      have k := Ok_compY (fi := seqI (varD 1)) (vs := [4]) (b := bName 4) (el := callP d_is_pair (consA (varD 0) (consA (varD 4) nilA))) (env := [some (ntD t), some (.tuple (fog.map fogE)), none, none, none]) (Q := fun r => r = (.list (fog.map fun p => .bool (decide (p.1 ≤ 999) && (decide (1 ≤ p.2) && decide (p.2 ≤ t.length)))), [some (ntD t), some (.tuple (fog.map fogE)), none, none, none])) fogE (fun p => .bool (decide (p.1 ≤ 999) && (decide (1 ≤ p.2) && decide (p.2 ≤ t.length)))) fog (by simp [itemsOf]) (by omega) (fun p hp => ⟨_, rfl, by simp [pair_n], rfl⟩) rfl rfl
      obtain ⟨_, e, rfl⟩ := k
      exact e
    have ha : (fog.all fun p => decide (p.1 ≤ 999) && (decide (1 ≤ p.2) && decide (p.2 ≤ t.length))) = true := by
      rw [List.all_eq_true]
      intro p hp
      simpa using F.at' p hp
    have hall := allD_map (fun p : Nat × Nat => decide (p.1 ≤ 999) && (decide (1 ≤ p.2) && decide (p.2 ≤ t.length))) fog
    rw [ha] at hall
    simp [c1, hall, show ¬ (12 : Int) < (fog.length : Int) by omega]
    have hc : cutL (fog.map fogE) (some 1) none = (fog.map fogE).drop 1 := cut_from _ 1
    have hz : zip2 [.tuple (fog.map fogE), .tuple ((fog.map fogE).drop 1)] = some ((fog.zip (fog.drop 1)).map fun p => .tuple [fogE p.1, fogE p.2]) := by
      rw [← List.map_drop]
      exact zip2_map fogE (fun _ _ => rfl) _ _
    refine Ok_compY (fun p : (Nat × Nat) × (Nat × Nat) => .tuple [fogE p.1, fogE p.2]) (fun p => .bool (decide (p.1.1 < p.2.1 ∨ p.1.1 = p.2.1 ∧ p.1.2 < p.2.2))) (fog.zip (fog.drop 1)) (by
      simp only [ev_argI, ev_consA, ev_varD, ev_sliceD, ev_someO, ev_cD, ev_noO, ev_nilA]
      simp [hc]
      simp at hz
      simp [hz]) (by simp; omega) (fun p hp => ⟨_, rfl, by simp [lt_fogE], rfl⟩) rfl ?_
    simp only [allD_map]
    simp
    exact fun a b c d hm => pairwise_zip F.srt ((a, b), (c, d)) (by simpa using hm)
  obtain ⟨d, e, rfl⟩ := key
  exact e
theorem fog_nil (t : List Nat) : FogOk t [] := ⟨by simp, by simp, List.Pairwise.nil⟩
theorem slips_nil (t : List Nat) : d_are_slips [ntD t, .tuple []] = .ok (.bool true) := by
  have key : Ok (d_are_slips [ntD t, .tuple []]) fun d => d = .bool true := by
    unfold d_are_slips b_are_slips env0
    refine Ok_fin (Ok_seq ?_)
    have c1 : compD (seqI (varD 1)) [4] (bName 4) yesT (callP d_is_slip (consA (varD 0) (consA (varD 4) nilA))) [some (ntD t), some (.tuple []), none, none, none] = .ok (.list [], [some (ntD t), some (.tuple []), none, none, none]) := rfl
    have hall : allD [.list []] = some (.bool true) := rfl
    simp [c1, hall]
    refine Ok_compY (fun p : D × D => .tuple [p.1, p.2]) (fun p => .none) [] (by simp [cutL, zip2]) (by simp) (fun p hp => by cases hp) rfl ?_
    simp [hall]
  obtain ⟨d, e, rfl⟩ := key
  exact e
theorem need_all_T {t : List Nat} {row : List D} {fog : List (Nat × Nat)} (T : IsTree t) (hl : t.length < 8) (h : ∀ d ∈ row, signB d = true ∧ dep 0 d = true) (hrl : row.length ≤ 160) (F : FogOk t fog) : d_need_all [ntD t, .list row, .tuple (fog.map fogE), .tuple []] = .ok .none := by
  unfold d_need_all b_need_all env0
  simp [ev_seqS, need_tree_T T hl, need_row_T h hrl, fog_ok F, slips_nil]
/-! without slips -/
theorem all_shows_c {t : List Nat} {row : List D} {fog : List (Nat × Nat)} (T : IsTree t) (hl : t.length < 8) (h : ∀ d ∈ row, signB d = true ∧ dep 0 d = true) (hrl : row.length ≤ 160) (hfl : fog.length ≤ 100) : ∃ M, M ≤ 4 * row.length + t.length + fog.length ∧ d_all_shows [ntD t, .list row, .tuple (fog.map fogE), .tuple []] = .ok (histOf (fun m => shC t row (cAt t (2 * row.length) (unAt fog) m)) M) ∧
    (∀ h, h ≤ t.length → cAt t (2 * row.length) (unAt fog) M h = 2 * row.length) ∧ ∀ m, m < M → ∃ h, h ≤ t.length ∧ cAt t (2 * row.length) (unAt fog) m h ≠ 2 * row.length := by
  have hB : doneB t (stAt t row fog [] (4 * row.length + t.length + fog.length)) = true := (done_c T h fog _).mpr fun g hg => cAt_end T h fog (deep := t.length) (fun g f hg hf => by
    obtain ⟨k, h1, h2, _⟩ := T.far hg
    rw [hf] at h2
    cases h2
    exact h1) (by omega) hg
  obtain ⟨M, h1, h2, h3⟩ := least (P := fun m => doneB t (stAt t row fog [] m)) _ hB
  refine ⟨M, h1, ?_, (done_c T h fog M).mp h2, fun m hm => ?_⟩
  · have e := all_shows_ok (t := t) (row := row) (fog := fog) (slips := []) T.le (by omega) (fun d hd => (h d hd).2) (by omega) (by simp) (by omega) (by simp) (fun m => by simp [wrAt]) M (by omega) h2 h3
    simp only [List.map_nil] at e
    have e' : histL t row fog [] M = (List.range (M + 1)).map fun m => .list (shC t row (cAt t (2 * row.length) (unAt fog) m)) := List.map_congr_left fun m _ => by rw [st_cnt T h fog m]
    rw [e, e']
    rfl
  · have := h3 m hm
    refine Classical.byContradiction fun hn => ?_
    rw [(done_c T h fog m).mpr fun g hg => Classical.byContradiction fun z => hn ⟨g, hg, z⟩] at this
    cases this
section
variable {t : List Nat} {row : List D} {fog : List (Nat × Nat)} (T : IsTree t) (hl : t.length < 8) (h : ∀ d ∈ row, signB d = true ∧ dep 0 d = true) (hrl : row.length ≤ 160) (F : FogOk t fog)
include T hl h hrl F
theorem over_c {M : Nat} (he : d_all_shows [ntD t, .list row, .tuple (fog.map fogE), .tuple []] = .ok (histOf (fun m => shC t row (cAt t (2 * row.length) (unAt fog) m)) M)) : d_over [ntD t, .list row, .tuple (fog.map fogE), .tuple []] = .ok (nD M) := by
  unfold d_over b_over env0
  simp [ev_seqS, need_all_T T hl h hrl F, he, hist_lenD]
  rfl
end
end Hz

namespace Hz
open PySem PySem.Spec PyProof.Rows L2
/-! ### several at once -/
@[simp] theorem ev_putE0 (e : Env) : putE [] [] e = some e := nr rfl
@[simp] theorem ev_putE1 (i : Nat) (is : List Nat) (d : D) (ds : List D) (e : Env) : putE (i :: is) (d :: ds) e = if i < e.length then putE is ds (e.set i (some d)) else none := nr rfl
@[simp] theorem ev_bNil (e : Env) : bNil [] e = some e := nr rfl
@[simp] theorem ev_bCons (b : D → Env → Option Env) (c : List D → Env → Option Env) (d : D) (ds : List D) (e : Env) : bCons b c (d :: ds) e = (b d e).bind (c ds) := nr rfl
@[simp] theorem ev_bTup (n : Nat) (c : List D → Env → Option Env) (ds : List D) (e : Env) : bTup n c (.tuple ds) e = if ds.length = n then c ds e else none := nr rfl
/-! ### refusals -/
@[simp] theorem bind_e {α β : Type} (c : Nat) (k : α → R β) : (R.err c : R α).bind k = .err c := nr rfl
/-! ### how far the farthest hill is -/
theorem intsOf_n : ∀ l : List Nat, intsOf (l.map nD) = some (l.map fun k : Nat => (k : Int))
  | [] => rfl
  | a :: l => by
    rw [List.map_cons]
    show (intsOf (l.map nD)).map ((a : Int) :: ·) = _
    rw [intsOf_n l]
    rfl
theorem foldl_max_n : ∀ (l : List Nat) (a : Nat), (l.map fun k : Nat => (k : Int)).foldl max (a : Int) = ((l.foldl max a : Nat) : Int)
  | [], a => rfl
  | b :: l, a => by
    rw [List.map_cons, List.foldl_cons, List.foldl_cons, show max (a : Int) (b : Int) = ((max a b : Nat) : Int) by omega]
    exact foldl_max_n l (max a b)
theorem maxD_n (a : Nat) (l : List Nat) : maxD [.list ((a :: l).map nD)] = some (nD (l.foldl max a)) := by
  show (match intsOf ((a :: l).map nD) with | some (n :: ns) => some (PyData.int (ns.foldl max n)) | _ => none) = _
  rw [intsOf_n]
  show some (PyData.int ((l.map fun k : Nat => (k : Int)).foldl max (a : Int))) = _
  rw [foldl_max_n]
  rfl
theorem fmaxN_le : ∀ (l : List Nat) (a : Nat), a ≤ l.foldl max a ∧ ∀ x ∈ l, x ≤ l.foldl max a
  | [], a => ⟨Nat.le_refl _, fun x hx => by cases hx⟩
  | b :: l, a => by
    obtain ⟨h1, h2⟩ := fmaxN_le l (max a b)
    rw [List.foldl_cons]
    refine ⟨by omega, fun x hx => ?_⟩
    rcases List.mem_cons.mp hx with z | z
    · omega
    · exact h2 x z
theorem fmaxN_mem : ∀ (l : List Nat) (a : Nat), l.foldl max a = a ∨ l.foldl max a ∈ l
  | [], a => .inl rfl
  | b :: l, a => by
    rw [List.foldl_cons]
    rcases fmaxN_mem l (max a b) with z | z
    · rw [z]
      rcases Nat.le_total a b with y | y
      · rw [Nat.max_eq_right y]; exact .inr List.mem_cons_self
      · rw [Nat.max_eq_left y]; exact .inl rfl
    · exact .inr (List.mem_cons_of_mem _ z)
def deepN (t : List Nat) : Nat := ((List.range' 1 t.length).map fun h => (farN t (t.length + 1) h).getD 0).foldl max 0
theorem deep_le {t : List Nat} {h f : Nat} (hh : h ≤ t.length) (hf : farN t (t.length + 1) h = some f) : f ≤ deepN t := by
  by_cases z : h = 0
  · subst z
    rw [farN_zero] at hf
    cases hf
    exact Nat.zero_le _
  · refine (fmaxN_le _ 0).2 f ?_
    refine List.mem_map.mpr ⟨h, by rw [List.mem_range'_1]; omega, ?_⟩
    rw [hf]
    rfl
theorem deep_at {t : List Nat} (T : IsTree t) : ∃ h, h ≤ t.length ∧ farN t (t.length + 1) h = some (deepN t) := by
  rcases fmaxN_mem ((List.range' 1 t.length).map fun h => (farN t (t.length + 1) h).getD 0) 0 with z | z
  · refine ⟨0, Nat.zero_le _, ?_⟩
    rw [farN_zero]
    unfold deepN
    rw [z]
  · obtain ⟨h, hh, e⟩ := List.mem_map.mp z
    rw [List.mem_range'_1] at hh
    obtain ⟨k, _, hk, _⟩ := T.far (show h ≤ t.length by omega)
    refine ⟨h, by omega, ?_⟩
    rw [hk]
    unfold deepN
    rw [← e, hk]
    rfl
theorem range_far {t : List Nat} : (List.range (t.length + 1)).map (fun h => nD ((farN t (t.length + 1) h).getD 0)) = (0 :: (List.range' 1 t.length).map fun h => (farN t (t.length + 1) h).getD 0).map nD := by
  rw [List.range_eq_range', List.range'_succ, List.map_cons, List.map_cons, List.map_map]
  congr 1
theorem maxD_far (t : List Nat) : maxD [.list ((List.range (t.length + 1)).map fun h => nD ((farN t (t.length + 1) h).getD 0))] = some (nD (deepN t)) := by
  rw [range_far, maxD_n]
  rfl
theorem greatest_T {t : List Nat} (T : IsTree t) (hl : t.length < 8) : d_greatest_far [ntD t] = .ok (nD (deepN t)) := by
  have key : Ok (d_greatest_far [ntD t]) fun d => d = nD (deepN t) := by
    unfold d_greatest_far b_greatest_far env0
    refine Ok_fin ?_
    simp
    refine Ok_compY nD (fun h => nD ((farN t (t.length + 1) h).getD 0)) (List.range (t.length + 1)) (by simp [rng1_n (t.length + 1) (by omega)]) (by simp; omega) (fun h hh => ⟨_, rfl, ?_, rfl⟩) rfl ?_
    · simp at hh
      obtain ⟨k, _, hk, _⟩ := T.far (show h ≤ t.length by omega)
      simp [far_of_n T.le (by omega) (show h ≤ t.length by omega), hk]
    · simp only [maxD_far]
      simp
  obtain ⟨d, e, rfl⟩ := key
  exact e
theorem clear_time_T {t : List Nat} (T : IsTree t) (hl : t.length < 8) {many : Nat} (hm : many ≤ 160) : d_clear_time [ntD t, nD many] = .ok (.int (if many = 0 then 0 else 4 * (many : Int) + (deepN t : Int) - 1)) := by
  have e1 : d_is_whole [nD many, .int 0, .int 160] = .ok (.bool true) := by
    rw [show (PyData.int 160) = nD 160 from rfl, whole_n]
    simp [hm]
  have e2 : mulD (.int 4) (nD many) = some (.int (4 * (many : Int))) := mulD_l _ _ (by decide)
  unfold d_clear_time b_clear_time env0
  by_cases z : many = 0
  · subst z
    simp [ev_seqS, need_tree_T T hl, e1]
  · simp [ev_seqS, need_tree_T T hl, e1, z, e2, greatest_T T hl]
theorem enum_l (xs : List D) : enumL xs = (List.range xs.length).map fun k => .tuple [nD k, xs.getD k .none] := by
  unfold enumL
  refine List.ext_getElem? fun i => ?_
  by_cases hi : i < xs.length
  · rw [List.getElem?_map, List.getElem?_map, List.getElem?_zipIdx, List.getElem?_eq_getElem hi, List.getElem?_eq_getElem (by simpa using hi)]
    simp [List.getD, List.getElem?_eq_getElem hi]
    rfl
  · rw [List.getElem?_eq_none (by simp; omega), List.getElem?_eq_none (by simp; omega)]
end Hz

namespace Hz
open PySem PySem.Spec PyProof.Rows L2
/-! ### what is asked of fog and slips, in general -/
def okP (n : Nat) (p : Nat × Nat) : Bool := decide (p.1 ≤ 999) && (decide (1 ≤ p.2) && decide (p.2 ≤ n))
/-! slips -/
def okS (n : Nat) (p : Nat × Nat × D) : Bool := okP n (p.1, p.2.1) && signB p.2.2
/-! refusals by need_all -/
section
variable {tr row fog sl : D}
end
/-! rows that are none -/
/-! the law's own takers -/
end Hz

namespace Hz
open PySem PySem.Spec PyProof.Rows L2
/-! ### drawn fog -/
/-! what is shown at a moment -/
section
variable {t : List Nat} {row : List D} {fog : List (Nat × Nat)} (T : IsTree t) (hl : t.length < 8) (h : ∀ d ∈ row, signB d = true ∧ dep 0 d = true) (hrl : row.length ≤ 160) (F : FogOk t fog)
include T hl h hrl F
end
/-! one behind the other -/
section
variable {t : List Nat} {N : Nat} {un : Nat → List Nat}
end
end Hz

namespace Hz
open PySem PySem.Spec PyProof.Rows L2
/-! ### the same fog -/
section
variable {t : List Nat} {row : List D} {fog : List (Nat × Nat)} (T : IsTree t) (hl : t.length < 8) (h : ∀ d ∈ row, signB d = true ∧ dep 0 d = true) (hrl : row.length ≤ 160)
include T hl h hrl
end
end Hz

namespace Hz
open PySem PySem.Spec PyProof.Rows L2
/-! ### a hill more -/
section
variable {t : List Nat} {f : Nat}
end
section
variable {t : List Nat} {row : List D} {fog : List (Nat × Nat)} (T : IsTree t) (hl : t.length < 8) (h : ∀ d ∈ row, signB d = true ∧ dep 0 d = true) (hrl : row.length ≤ 160) (F : FogOk t fog)
include T hl h hrl F
end
theorem clear_Mn {t : List Nat} {row : List D} {M : Nat} (T : IsTree t) (h1 : ∀ h, h ≤ t.length → cAt t (2 * row.length) (unAt []) M h = 2 * row.length) (h2 : ∀ m, m < M → ∃ h, h ≤ t.length ∧ cAt t (2 * row.length) (unAt []) m h ≠ 2 * row.length) : M = if row.length = 0 then 0 else 4 * row.length + deepN t - 1 := by
  by_cases z : row.length = 0
  · rw [if_pos z]
    refine Classical.byContradiction fun hn => ?_
    obtain ⟨h, hh, hc⟩ := h2 0 (by omega)
    have := cAt_le T (2 * row.length) (unAt []) 0 hh
    omega
  · rw [if_neg z]
    obtain ⟨h0, hh0, hf0⟩ := deep_at T
    have e := h1 h0 hh0
    rw [cAt_clear T (2 * row.length) (unAt []) (fun _ => rfl) M hh0 hf0] at e
    by_cases y : M = 4 * row.length + deepN t - 1
    · exact y
    · obtain ⟨h, hh, hc⟩ := h2 (4 * row.length + deepN t - 1) (by omega)
      obtain ⟨f, _, hf, _⟩ := T.far hh
      have hd := deep_le hh hf
      rw [cAt_clear T (2 * row.length) (unAt []) (fun _ => rfl) _ hh hf] at hc
      omega
end Hz

namespace Hz
open PySem PySem.Spec PyProof.Rows L2
def nbr (ps : List (Nat × Nat)) (h : Nat) : List Nat := (List.range 8).filter fun o => decide ((min h o, max h o) ∈ ps) && !decide (o = h)
structure Sg (many : Nat) (ps : List (Nat × Nat)) : Prop where
  so : ps.Pairwise fun p q => p.1 < q.1 ∨ p.1 = q.1 ∧ p.2 < q.2
  ok : ∀ p ∈ ps, p.1 < p.2 ∧ p.2 < many
  le : many ≤ 8
  ge : 2 ≤ many
theorem Sg.sub {many : Nat} {ps qs : List (Nat × Nat)} (s : Sg many ps) (h : qs.Sublist ps) : Sg many qs := ⟨s.so.sublist h, fun p hp => s.ok p (h.subset hp), s.le, s.ge⟩
def sgE (p : Nat × Nat) : D := .tuple [nD p.1, nD p.2]
theorem mem_nbr {ps : List (Nat × Nat)} {h o : Nat} : o ∈ nbr ps h ↔ o < 8 ∧ (min h o, max h o) ∈ ps ∧ o ≠ h := by
  unfold nbr
  simp
theorem Sg.lt {many : Nat} {ps : List (Nat × Nat)} (s : Sg many ps) {h o : Nat} (ho : o ∈ nbr ps h) : o < many ∧ h < many := by
  obtain ⟨_, h2, _⟩ := mem_nbr.mp ho
  have := (s.ok _ h2).2
  simp at this
  omega
theorem nbr_sym {many : Nat} {ps : List (Nat × Nat)} (s : Sg many ps) {h o : Nat} (ho : o ∈ nbr ps h) : h ∈ nbr ps o := by
  obtain ⟨a, b⟩ := s.lt ho
  obtain ⟨_, h2, h3⟩ := mem_nbr.mp ho
  have := s.le
  rw [mem_nbr, Nat.min_comm, Nat.max_comm]
  exact ⟨by omega, h2, fun e => h3 e.symm⟩
theorem Sg.len {many : Nat} {ps : List (Nat × Nat)} (s : Sg many ps) : ps.length ≤ 64 := by
  have nd : (ps.map fun p => p.1 * 8 + p.2).Nodup := by
    rw [List.Nodup, List.pairwise_map]
    refine List.Pairwise.imp_of_mem (fun {p q} hp hq h => ?_) s.so
    have h1 := s.ok p hp
    have h2 := s.ok q hq
    have := s.le
    omega
  have := nodup_le 64 _ nd (fun x hx => by
    obtain ⟨p, hp, rfl⟩ := List.mem_map.mp hx
    have h1 := s.ok p hp
    have := s.le
    omega)
  simpa using this
theorem pw_ints {l : List Nat} (h : l.Pairwise (· < ·)) : (l.map fun k : Nat => (k : Int)).Pairwise (· < ·) := by
  rw [List.pairwise_map]
  exact h.imp fun h => by omega
theorem range_pw (n : Nat) : (List.range n).Pairwise (· < ·) := List.pairwise_lt_range
theorem nbr_pw (ps : List (Nat × Nat)) (h : Nat) : (nbr ps h).Pairwise (· < ·) := (range_pw 8).filter _
theorem sortL_nbr {many : Nat} {ps : List (Nat × Nat)} (s : Sg many ps) {h : Nat} (hh : h < 8) : sortL ((ps.filter fun p => decide (h ∈ [p.1, p.2])).map fun p => (p.1 : Int) + p.2 - h) = (nbr ps h).map fun k : Nat => (k : Int) := by
  have hp := sortL_perm ((ps.filter fun p => decide (h ∈ [p.1, p.2])).map fun p => (p.1 : Int) + p.2 - h)
  have nd : ((ps.filter fun p => decide (h ∈ [p.1, p.2])).map fun p => (p.1 : Int) + p.2 - h).Nodup := by
    rw [List.Nodup, List.pairwise_map]
    refine List.Pairwise.imp_of_mem (fun {p q} hp hq h => ?_) (s.so.filter _)
    simp at hp hq
    have h1 := s.ok p hp.1
    have h2 := s.ok q hq.1
    have a1 := hp.2
    have a2 := hq.2
    omega
  have nd2 := hp.nodup_iff.mpr nd
  have so : (sortL ((ps.filter fun p => decide (h ∈ [p.1, p.2])).map fun p => (p.1 : Int) + p.2 - h)).Pairwise (· < ·) := by
    refine ((sortL_sorted _).and nd2).imp fun h => ?_
    have h1 := h.1
    have h2 := h.2
    omega
  refine sorted_one so (pw_ints (nbr_pw ps h)) fun x => ?_
  rw [hp.mem_iff]
  simp only [List.mem_map, List.mem_filter, mem_nbr, decide_eq_true_eq, List.mem_cons, List.not_mem_nil, or_false]
  constructor
  · rintro ⟨p, ⟨hp, hm⟩, rfl⟩
    have h1 := s.ok p hp
    have := s.le
    obtain ⟨a, b⟩ := p
    simp only at hm h1 ⊢
    rcases hm with rfl | rfl
    · refine ⟨b, ⟨by omega, ?_, by omega⟩, by omega⟩
      rw [Nat.min_eq_left (by omega), Nat.max_eq_right (by omega)]
      exact hp
    · refine ⟨a, ⟨by omega, ?_, by omega⟩, by omega⟩
      rw [Nat.min_eq_right (by omega), Nat.max_eq_left (by omega)]
      exact hp
  · rintro ⟨o, ⟨h1, h2, h3⟩, rfl⟩
    refine ⟨_, ⟨h2, ?_⟩, ?_⟩
    · simp only
      omega
    · simp only
      omega
theorem numKeys_n (f : List (Nat × Nat)) : numKeys (f.map pD) = true := by
  cases f with
  | nil => rfl
  | cons p f => rfl
theorem hasD_n (k : Nat) (f : List (Nat × Nat)) : hasD (f.map pD) (nD k) = decide (k ∈ f.map (·.1)) := by
  unfold hasD
  rw [valD_n]
  induction f with
  | nil => rfl
  | cons p f ih =>
    rw [List.find?_cons]
    by_cases h : p.1 = k
    · simp [h]
    · have : ¬ k = p.1 := fun z => h z.symm
      simp only [h, decide_false, ih]
      simp [this]
theorem valD_mem {f : List (Nat × Nat)} (h : (f.map (·.1)).Nodup) {k v : Nat} (hm : (k, v) ∈ f) : valD (f.map pD) (nD k) = some (nD v) := dgetD_n h hm
theorem putD_n {f : List (Nat × Nat)} {k v : Nat} (h : k ∉ f.map (·.1)) : putD (f.map pD) (nD k) (nD v) = (f ++ [(k, v)]).map pD := by
  unfold putD
  rw [hasD_n]
  simp only [h, decide_false, Bool.false_eq_true, if_false, List.map_append]
  rfl
theorem notInD_nlS (k : Nat) (t : List Nat) : notInD (nD k) (nlD t) = some (.bool (!decide (k ∈ t))) := by
  have h1 : dep 9 (nD k) = true := rfl
  have h2 : dep 9 (nlD t) = true := dep_nl 8 t
  unfold notInD inD nlD
  unfold nlD at h2
  simp only [h1, h2, and_self, if_true, inSeq_n]
theorem inD_nlS (k : Nat) (t : List Nat) : inD (nD k) (nlD t) = some (.bool (decide (k ∈ t))) := by
  have h1 : dep 9 (nD k) = true := rfl
  have h2 : dep 9 (nlD t) = true := dep_nl 8 t
  unfold inD nlD
  unfold nlD at h2
  simp only [h1, h2, and_self, if_true, inSeq_n]
theorem eqv_sg (p q : Nat × Nat) : PyData.eqv (sgE p) (sgE q) = decide (p = q) := by
  have := eqvAll_n [p.1, p.2] [q.1, q.2]
  show PyData.eqvAll [nD p.1, nD p.2] [nD q.1, nD q.2] = _
  refine Eq.trans this ?_
  obtain ⟨a, b⟩ := p
  obtain ⟨c, d⟩ := q
  simp
theorem dep_sg (n : Nat) (p : Nat × Nat) : dep (n + 1) (sgE p) = true := dep_nt n [p.1, p.2]
theorem inSeq_sg (p : Nat × Nat) (ps : List (Nat × Nat)) : inSeq (sgE p) (ps.map sgE) = decide (p ∈ ps) := by
  unfold inSeq
  rw [List.any_map]
  induction ps with
  | nil => rfl
  | cons q ps ih =>
    rw [List.any_cons, ih]
    simp only [Function.comp, eqv_sg]
    by_cases h : q = p
    · subst h; simp
    · have : ¬ p = q := fun z => h z.symm
      simp [h, this]
def IsC (c : D) (ps : List (Nat × Nat)) : Prop := c = .tuple (ps.map sgE) ∨ c = .list (ps.map sgE)
theorem IsC.items {c : D} {ps : List (Nat × Nat)} (h : IsC c ps) : itemsOf c = some (ps.map sgE) := by
  rcases h with rfl | rfl <;> rfl
theorem dep_sgs (n : Nat) (ps : List (Nat × Nat)) : dep (n + 2) (.tuple (ps.map sgE)) = true := dep_tuple fun d hd => by
  obtain ⟨p, _, rfl⟩ := List.mem_map.mp hd
  exact dep_sg n p
theorem dep_sgl (n : Nat) (ps : List (Nat × Nat)) : dep (n + 2) (.list (ps.map sgE)) = true := dep_list fun d hd => by
  obtain ⟨p, _, rfl⟩ := List.mem_map.mp hd
  exact dep_sg n p
theorem IsC.inD {c : D} {ps : List (Nat × Nat)} (h : IsC c ps) (p : Nat × Nat) : inD (sgE p) c = some (.bool (decide (p ∈ ps))) := by
  have h1 : dep 9 (sgE p) = true := dep_sg 8 p
  rcases h with rfl | rfl
  · have h2 := dep_sgs 7 ps
    simp only [Hz.inD, h1, h2, and_self, if_true, inSeq_sg]
  · have h2 := dep_sgl 7 ps
    simp only [Hz.inD, h1, h2, and_self, if_true, inSeq_sg]
theorem seen_n {many : Nat} {ps : List (Nat × Nat)} (s : Sg many ps) {c : D} (hc : IsC c ps) {h : Nat} (hh : h < 8) : d_seen_from [c, nD h] = .ok (nlD (nbr ps h)) := by
  have key : Ok (d_seen_from [c, nD h]) fun d => d = nlD (nbr ps h) := by
    unfold d_seen_from b_seen_from env0
    refine Ok_fin ?_
    simp only [ev_retS, ev_opN, ev_consA, Ok_bind]
    have hlen := s.len
    refine Ok_compP sgE (fun p => decide (h ∈ [p.1, p.2])) (fun p => .int ((p.1 : Int) + p.2 - h)) ps (by simp [hc.items]) (by omega) (fun p hp => ?_) rfl ?_
    · refine ⟨_, rfl, ?_, fun _ => ?_, rfl⟩
      · have h1 : Hz.inD (nD h) (sgE p) = some (.bool (decide (h ∈ [p.1, p.2]))) := by
          have h2 : dep 9 (nD h) = true := rfl
          have h3 : dep 9 (PyData.tuple [nD p.1, nD p.2]) = true := dep_sg 8 p
          have h4 := inSeq_n h [p.1, p.2]
          simp only [List.map_cons, List.map_nil] at h4
          unfold Hz.inD sgE
          simp only [h2, h3, and_self, if_true, h4]
        simp [h1]
      · have h1 : sumT [sgE p] = some (.int ((p.1 : Int) + p.2)) := by
          show (intsOf [nD p.1, nD p.2]).map (fun ns => PyData.int ns.sum) = _
          have := intsOf_n [p.1, p.2]
          simp only [List.map_cons, List.map_nil] at this
          rw [this]
          simp
        have h2 : subD (.int ((p.1 : Int) + p.2)) (nD h) = some (.int ((p.1 : Int) + p.2 - h)) := rfl
        simp [h1, h2]
    · have h1 : sortedD [.list ((ps.filter fun p => decide (h ∈ [p.1, p.2])).map fun p => PyData.int ((p.1 : Int) + p.2 - h))] = some (nlD (nbr ps h)) := by
        have hf : (ps.filter fun p => decide (h ∈ [p.1, p.2])).length ≤ 8 := by
          have q := congrArg List.length (sortL_nbr s hh)
          rw [(sortL_perm _).length_eq, List.length_map, List.length_map] at q
          rw [q]
          refine Nat.le_trans (List.length_filter_le _ _) ?_
          simp
        have h2 := intsOf_map ((ps.filter fun p => decide (h ∈ [p.1, p.2])).map fun p => (p.1 : Int) + p.2 - h)
        rw [List.map_map] at h2
        simp only [Function.comp_def] at h2
        simp only [sortedD]
        rw [h2]
        simp only [List.length_map]
        rw [if_pos (by omega), sortL_nbr s hh, List.map_map]
        rfl
      simp only [ev_nilA, bind_ok, Ok_ok, h1, lift_some]
      exact ⟨_, rfl, rfl⟩
  obtain ⟨d, e, rfl⟩ := key
  exact e
theorem minD_n (a b : Nat) : minD [nD a, nD b] = some (nD (min a b)) := by
  show some (PyData.int _) = some (PyData.int _)
  congr 2
  show (if (b : Int) < (a : Int) then (b : Int) else (a : Int)) = ((min a b : Nat) : Int)
  split <;> omega
theorem maxD_2 (a b : Nat) : maxD [nD a, nD b] = some (nD (max a b)) := by
  show some (PyData.int _) = some (PyData.int _)
  congr 2
  show (if (b : Int) > (a : Int) then (b : Int) else (a : Int)) = ((max a b : Nat) : Int)
  split <;> omega
theorem near_n {ps : List (Nat × Nat)} {c : D} (hc : IsC c ps) (h : Nat) : d_law_near [c, nD h] = .ok (nlD (nbr ps h)) := by
  have key : Ok (d_law_near [c, nD h]) fun d => d = nlD (nbr ps h) := by
    unfold d_law_near b_law_near env0
    refine Ok_fin ?_
    simp only [ev_retS, Ok_bind]
    refine Ok_compP nD (fun o => decide ((min h o, max h o) ∈ ps) && !decide (o = h)) nD (List.range 8) (by simp [rng1_lit (.int 8) 8 rfl (by omega)]) (by simp) (fun o ho => ?_) rfl ?_
    · refine ⟨_, rfl, ?_, fun _ => by simp, rfl⟩
      have h1 := hc.inD (min h o, max h o)
      unfold sgE at h1
      simp only at h1
      by_cases hm : (min h o, max h o) ∈ ps
      · simp [minD_n, maxD_2, h1, hm]
      · simp [minD_n, maxD_2, h1, hm]
    · simp only [Ok_ok]
      exact ⟨_, rfl, rfl⟩
  obtain ⟨d, e, rfl⟩ := key
  exact e

/-! ### how far hills are -/
structure Dist (adj : Nat → Nat → Prop) (bar : Nat → Prop) (f : List (Nat × Nat)) : Prop where
  nd : (f.map (·.1)).Nodup
  z : (0, 0) ∈ f
  par : ∀ h n, (h, n) ∈ f → (h = 0 ∧ n = 0) ∨ ∃ g m, (g, m) ∈ f ∧ n = m + 1 ∧ adj g h ∧ ¬ bar h
  kid : ∀ h n g, (h, n) ∈ f → adj h g → ¬ bar g → ∃ m, (g, m) ∈ f ∧ m ≤ n + 1
section
variable {adj : Nat → Nat → Prop} {bar : Nat → Prop} {f f' : List (Nat × Nat)}
theorem Dist.le (a : Dist adj bar f) (b : Dist adj bar f') : ∀ n h, (h, n) ∈ f → ∃ m, m ≤ n ∧ (h, m) ∈ f' := by
  intro n
  induction n using Nat.strongRecOn with
  | ind n ih =>
    intro h hm
    rcases a.par h n hm with ⟨rfl, rfl⟩ | ⟨g, m, hg, rfl, ha, hb⟩
    · exact ⟨0, Nat.le_refl _, b.z⟩
    · obtain ⟨m', h1, h2⟩ := ih m (Nat.lt_succ_self _) g hg
      obtain ⟨m2, h3, h4⟩ := b.kid g m' h h2 ha hb
      exact ⟨m2, by omega, h3⟩
theorem nd_val (nd : (f.map (·.1)).Nodup) {h m n : Nat} (a : (h, m) ∈ f) (b : (h, n) ∈ f) : m = n := by
  induction f with
  | nil => cases a
  | cons p f ih =>
    rw [List.map_cons, List.nodup_cons] at nd
    rcases List.mem_cons.mp a with e | a' <;> rcases List.mem_cons.mp b with e' | b'
    · rw [← e] at e'
      cases e'
      rfl
    · exact absurd (by rw [← e]; exact List.mem_map_of_mem (f := (·.1)) b') nd.1
    · exact absurd (by rw [← e']; exact List.mem_map_of_mem (f := (·.1)) a') nd.1
    · exact ih nd.2 a' b'
theorem Dist.same (a : Dist adj bar f) (b : Dist adj bar f') (p : Nat × Nat) : p ∈ f ↔ p ∈ f' := by
  obtain ⟨h, n⟩ := p
  have go : ∀ {f f' : List (Nat × Nat)}, Dist adj bar f → Dist adj bar f' → (h, n) ∈ f → (h, n) ∈ f' := fun a b hm => by
    obtain ⟨m, h1, h2⟩ := a.le b n h hm
    obtain ⟨n', h3, h4⟩ := b.le a m h h2
    have := nd_val a.nd hm h4
    have e : m = n := by omega
    rw [← e]
    exact h2
  exact ⟨go a b, go b a⟩
theorem nd_of {f : List (Nat × Nat)} (h : (f.map (·.1)).Nodup) : f.Nodup := by
  rw [List.Nodup, List.pairwise_map] at h
  exact h.imp fun h e => h (by rw [e])
theorem len_sub {α : Type} [BEq α] [LawfulBEq α] : ∀ {l m : List α}, l.Nodup → (∀ x ∈ l, x ∈ m) → l.length ≤ m.length
  | [], m, _, _ => Nat.zero_le _
  | x :: l, m, nd, h => by
    rw [List.nodup_cons] at nd
    have hx := h x List.mem_cons_self
    have := len_sub (l := l) (m := m.erase x) nd.2 fun y hy => (List.mem_erase_of_ne (fun e => nd.1 (by rw [← e]; exact hy))).mpr (h y (List.mem_cons_of_mem _ hy))
    rw [List.length_erase_of_mem hx] at this
    have := List.length_pos_of_mem hx
    rw [List.length_cons]
    omega
theorem Dist.len (a : Dist adj bar f) (b : Dist adj bar f') : f.length = f'.length := by
  have h1 := len_sub (nd_of a.nd) fun p hp => (a.same b p).mp hp
  have h2 := len_sub (nd_of b.nd) fun p hp => (a.same b p).mpr hp
  omega
theorem mem_keys {f : List (Nat × Nat)} {h : Nat} : h ∈ f.map (·.1) ↔ ∃ n, (h, n) ∈ f := by
  simp
theorem Dist.keys (a : Dist adj bar f) (b : Dist adj bar f') (h : Nat) : h ∈ f.map (·.1) ↔ h ∈ f'.map (·.1) := by
  rw [mem_keys, mem_keys]
  exact ⟨fun ⟨n, hn⟩ => ⟨n, (a.same b _).mp hn⟩, fun ⟨n, hn⟩ => ⟨n, (a.same b _).mpr hn⟩⟩
theorem Dist.ind (a : Dist adj bar f) (P : Nat → Prop) (h0 : P 0) (st : ∀ g h, P g → adj g h → ¬ bar h → P h) : ∀ n h, (h, n) ∈ f → P h := by
  intro n
  induction n with
  | zero =>
    intro h hm
    rcases a.par h 0 hm with ⟨rfl, _⟩ | ⟨g, m, _, e, _⟩
    · exact h0
    · omega
  | succ n ih =>
    intro h hm
    rcases a.par h _ hm with ⟨rfl, _⟩ | ⟨g, m, hg, e, ha, hb⟩
    · exact h0
    · cases e
      exact st g h (ih g hg) ha hb
end
def adjS (ps : List (Nat × Nat)) (g h : Nat) : Prop := h ∈ nbr ps g
structure Bfs (ps : List (Nat × Nat)) (bar : List Nat) (f : List (Nat × Nat)) (row : List Nat) : Prop where
  nd : (f.map (·.1)).Nodup
  z : (0, 0) ∈ f
  lt : ∀ h n, (h, n) ∈ f → h < 8
  par : ∀ h n, (h, n) ∈ f → (h = 0 ∧ n = 0) ∨ ∃ g m, (g, m) ∈ f ∧ n = m + 1 ∧ adjS ps g h ∧ ¬ h ∈ bar
  fin : ∀ h n g, (h, n) ∈ f → h ∉ row → adjS ps h g → ¬ g ∈ bar → ∃ m, (g, m) ∈ f ∧ m ≤ n + 1
  lev : ∃ d A B, row = A ++ B ∧ (∀ a ∈ A, (a, d) ∈ f) ∧ (∀ b ∈ B, (b, d + 1) ∈ f) ∧ ∀ g n, (g, n) ∈ f → n ≤ d + 1
theorem Bfs.few {ps : List (Nat × Nat)} {bar : List Nat} {f : List (Nat × Nat)} {row : List Nat} (b : Bfs ps bar f row) : f.length ≤ 8 := by
  have := nodup_le 8 _ b.nd (fun x hx => by
    obtain ⟨n, hn⟩ := mem_keys.mp hx
    exact b.lt x n hn)
  simpa using this
structure Bin (ps : List (Nat × Nat)) (bar : List Nat) (a d : Nat) (A : List Nat) (i : Nat) (f : List (Nat × Nat)) (B : List Nat) : Prop where
  nd : (f.map (·.1)).Nodup
  z : (0, 0) ∈ f
  lt : ∀ h n, (h, n) ∈ f → h < 8
  par : ∀ h n, (h, n) ∈ f → (h = 0 ∧ n = 0) ∨ ∃ g m, (g, m) ∈ f ∧ n = m + 1 ∧ adjS ps g h ∧ ¬ h ∈ bar
  fin : ∀ h n g, (h, n) ∈ f → h ≠ a → h ∉ A ++ B → adjS ps h g → ¬ g ∈ bar → ∃ m, (g, m) ∈ f ∧ m ≤ n + 1
  here : (a, d) ∈ f
  la : ∀ x ∈ A, (x, d) ∈ f
  lb : ∀ x ∈ B, (x, d + 1) ∈ f
  top : ∀ g n, (g, n) ∈ f → n ≤ d + 1
  seen : ∀ j g, j < i → (nbr ps a)[j]? = some g → ¬ g ∈ bar → ∃ m, (g, m) ∈ f ∧ m ≤ d + 1
theorem Bin.few {ps : List (Nat × Nat)} {bar : List Nat} {f : List (Nat × Nat)} {a d i : Nat} {A B : List Nat} (b : Bin ps bar a d A i f B) : f.length ≤ 8 := by
  have := nodup_le 8 _ b.nd (fun x hx => by
    obtain ⟨n, hn⟩ := mem_keys.mp hx
    exact b.lt x n hn)
  simpa using this
theorem Bin.skip {ps : List (Nat × Nat)} {bar : List Nat} {f : List (Nat × Nat)} {a d i g : Nat} {A B : List Nat} (b : Bin ps bar a d A i f B) (hg : (nbr ps a)[i]? = some g) (h : g ∈ f.map (·.1) ∨ g ∈ bar) : Bin ps bar a d A (i + 1) f B :=
  ⟨b.nd, b.z, b.lt, b.par, b.fin, b.here, b.la, b.lb, b.top, fun j g' hj hg' hb => by
    by_cases e : j < i
    · exact b.seen j g' e hg' hb
    · have : j = i := by omega
      subst this
      rw [hg] at hg'
      cases hg'
      rcases h with h | h
      · obtain ⟨n, hn⟩ := mem_keys.mp h
        exact ⟨n, hn, b.top g n hn⟩
      · exact absurd h hb⟩
theorem Bin.add {ps : List (Nat × Nat)} {bar : List Nat} {f : List (Nat × Nat)} {a d i g : Nat} {A B : List Nat} (b : Bin ps bar a d A i f B) (hg : (nbr ps a)[i]? = some g) (h1 : g ∉ f.map (·.1)) (h2 : g ∉ bar) : Bin ps bar a d A (i + 1) (f ++ [(g, d + 1)]) (B ++ [g]) := by
  have hgn : g ∈ nbr ps a := List.mem_of_getElem? hg
  have mono : ∀ p, p ∈ f → p ∈ f ++ [(g, d + 1)] := fun p hp => List.mem_append_left _ hp
  refine ⟨?_, mono _ b.z, fun h n hm => ?_, fun h n hm => ?_, fun h n g' hm hne hrow ha hb => ?_, mono _ b.here, fun x hx => mono _ (b.la x hx), fun x hx => ?_, fun g' n hm => ?_, fun j g' hj hg' hb => ?_⟩
  · rw [List.map_append, List.nodup_append]
    refine ⟨b.nd, by simp, fun x hx y hy => ?_⟩
    simp at hy
    subst hy
    exact fun e => h1 (by rw [← e]; exact hx)
  · rcases List.mem_append.mp hm with hm | hm
    · exact b.lt h n hm
    · simp at hm
      rw [hm.1]
      exact (mem_nbr.mp hgn).1
  · rcases List.mem_append.mp hm with hm | hm
    · rcases b.par h n hm with e | ⟨g2, m, e1, e2⟩
      · exact .inl e
      · exact .inr ⟨g2, m, mono _ e1, e2⟩
    · simp at hm
      obtain ⟨rfl, rfl⟩ := hm
      exact .inr ⟨a, d, mono _ b.here, rfl, hgn, h2⟩
  · rcases List.mem_append.mp hm with hm | hm
    · obtain ⟨m, e1, e2⟩ := b.fin h n g' hm hne (fun hr => hrow (by
        rcases List.mem_append.mp hr with hr | hr
        · exact List.mem_append_left _ hr
        · exact List.mem_append_right _ (List.mem_append_left _ hr))) ha hb
      exact ⟨m, mono _ e1, e2⟩
    · simp at hm
      exact absurd (List.mem_append_right _ (List.mem_append_right _ (by simp [hm.1]))) hrow
  · rcases List.mem_append.mp hx with hx | hx
    · exact mono _ (b.lb x hx)
    · simp at hx
      subst hx
      exact List.mem_append_right _ (by simp)
  · rcases List.mem_append.mp hm with hm | hm
    · exact b.top g' n hm
    · simp at hm
      omega
  · by_cases e : j < i
    · obtain ⟨m, e1, e2⟩ := b.seen j g' e hg' hb
      exact ⟨m, mono _ e1, e2⟩
    · have : j = i := by omega
      subst this
      rw [hg] at hg'
      cases hg'
      exact ⟨d + 1, List.mem_append_right _ (by simp), Nat.le_refl _⟩
theorem Bfs.start {ps : List (Nat × Nat)} {bar : List Nat} {f : List (Nat × Nat)} {a : Nat} {row : List Nat} (b : Bfs ps bar f (a :: row)) : ∃ d A B, row = A ++ B ∧ Bin ps bar a d A 0 f B := by
  obtain ⟨d, A, B, e, hA, hB, top⟩ := b.lev
  cases A with
  | nil =>
    cases B with
    | nil => cases e
    | cons x B =>
      simp at e
      obtain ⟨rfl, rfl⟩ := e
      refine ⟨d + 1, row, [], by simp, b.nd, b.z, b.lt, b.par, fun h n g hm hne hr => b.fin h n g hm (by simp at hr; simp [hne, hr]), hB a List.mem_cons_self, fun x hx => hB x (List.mem_cons_of_mem _ hx), (fun x hx => by cases hx), fun g n hm => ?_, fun j g hj => absurd hj (Nat.not_lt_zero _)⟩
      have := top g n hm
      omega
  | cons x A =>
    simp at e
    obtain ⟨rfl, rfl⟩ := e
    exact ⟨d, A, B, rfl, b.nd, b.z, b.lt, b.par, fun h n g hm hne hr => b.fin h n g hm (by simp at hr; simp [hne, hr]), hA a List.mem_cons_self, fun x hx => hA x (List.mem_cons_of_mem _ hx), hB, top, fun j g hj => absurd hj (Nat.not_lt_zero _)⟩
theorem Bin.stop {ps : List (Nat × Nat)} {bar : List Nat} {f : List (Nat × Nat)} {a d : Nat} {A B : List Nat} (b : Bin ps bar a d A (nbr ps a).length f B) : Bfs ps bar f (A ++ B) :=
  ⟨b.nd, b.z, b.lt, b.par, fun h n g hm hr ha hb => by
    by_cases e : h = a
    · subst e
      have := nd_val b.nd hm b.here
      subst this
      obtain ⟨j, hj⟩ := List.mem_iff_getElem?.mp ha
      exact b.seen j g (lt_of_get hj) hj hb
    · exact b.fin h n g hm e hr ha hb, d, A, B, rfl, b.la, b.lb, b.top⟩
theorem Bfs.done {ps : List (Nat × Nat)} {bar : List Nat} {f : List (Nat × Nat)} (b : Bfs ps bar f []) : Dist (adjS ps) (· ∈ bar) f := ⟨b.nd, b.z, b.par, fun h n g hm => b.fin h n g hm (by simp)⟩
theorem distances_n {many : Nat} {ps : List (Nat × Nat)} (s : Sg many ps) {c : D} (hc : IsC c ps) (bar : List Nat) : ∃ f, d_distances [c, .int 0, nlD bar] = .ok (.dict (f.map pD)) ∧ Dist (adjS ps) (· ∈ bar) f ∧ f.length ≤ 8 := by
  have key : Ok (d_distances [c, .int 0, nlD bar]) fun d => ∃ f, d = .dict (f.map pD) ∧ Dist (adjS ps) (· ∈ bar) f ∧ f.length ≤ 8 := by
    unfold d_distances b_distances env0
    refine Ok_fin (Ok_seq ?_)
    have h0 : disp1 0 (.int 0) = some (.dict ([(0, 0)].map pD)) := rfl
    simp only [List.length_cons, List.length_nil, List.map_cons, List.map_nil] at h0 ⊢
    simp [h0]
    refine Ok_seq ?_
    simp
    refine Ok_seq ?_
    refine Ok_while (fun m e => ∃ (f : List (Nat × Nat)) (row : List Nat) (v w : Option D), e = [some c, some (.int 0), some (nlD bar), some (.dict (f.map pD)), some (nlD row), v, w] ∧ Bfs ps bar f row ∧ m = 8 - f.length + row.length ∧ row.length ≤ f.length) (8 - 1 + 1) (by omega) ⟨[(0, 0)], [0], none, none, rfl, ⟨by simp, by simp, fun h n hm => ?_, fun h n hm => ?_, fun h n g hm hr => ?_, 0, [0], [], rfl, by simp, by simp, fun g n hm => ?_⟩, rfl, by simp⟩ (fun m e hI => ?_)
    · simp at hm; omega
    · simp at hm; exact .inl hm
    · simp at hm hr; exact absurd hm.1 hr
    · simp at hm; omega
    · obtain ⟨f, row, v, w, rfl, hb, rfl, hrl⟩ := hI
      have ho : ∀ (v w : Option D) (row : List Nat) (X : Option D), ownL [some c, some (.int 0), some (nlD bar), X, some (nlD row), v, w] 4 = some (row.map nD) := fun _ _ _ _ => rfl
      cases row with
      | nil =>
        have h1 : neD (nlD []) (nlD []) = some (.bool false) := by rw [neD_nl]; rfl
        have h2 : neD (.list []) (.list []) = some (.bool false) := h1
        simp [ho, h2]
        refine ⟨f, rfl, hb.done, hb.few⟩
      | cons a row =>
        have h1 : neD (nlD (a :: row)) (nlD []) = some (.bool true) := by rw [neD_nl]; rfl
        have h2 : neD (.list (nD a :: row.map nD)) (.list []) = some (.bool true) := h1
        simp [ho, h2]
        refine Ok_seq ?_
        simp [ho]
        obtain ⟨d, A, B, rfl, hB⟩ := hb.start
        have hlt : a < 8 := hb.lt a d hB.here
        simp [seen_n s hc hlt]
        have hitems : itemsOf (nlD (nbr ps a)) = some ((nbr ps a).map nD) := rfl
        simp only [hitems, lift_some, Ok_ok]
        refine Ok_forL nD (nbr ps a) (fun i e => ∃ (f' : List (Nat × Nat)) (B' : List Nat) (w : Option D), e = [some c, some (.int 0), some (nlD bar), some (.dict (f'.map pD)), some (nlD (A ++ B')), some (nD a), w] ∧ Bin ps bar a d A i f' B' ∧ f'.length + B.length = f.length + B'.length) ⟨f, B, w, by simp [nlD], hB, rfl⟩ (fun i g e hg hI => ?_) fun e hI => ?_
        · obtain ⟨f', B', w', rfl, hB', hl'⟩ := hI
          refine ⟨_, rfl, ?_⟩
          have hd : ∀ (w : Option D) (row : List Nat), ownD [some c, some (.int 0), some (nlD bar), some (.dict (f'.map pD)), some (nlD row), some (nD a), w] 3 = some (f'.map pD) := fun w row => by
            show (if numKeys (f'.map pD) = true then some (f'.map pD) else none) = _
            rw [numKeys_n, if_pos rfl]
          have hk : ∀ k : Nat, keyOf (nD k) = some (.inl (k : Int)) := fun _ => rfl
          have hkk : ∀ k : Nat, kD (.inl (k : Int)) = nD k := fun _ => rfl
          have hfew := hB'.few
          by_cases hf : g ∈ f'.map (·.1)
          · have hf2 := hf
            simp at hf2
            simp [dinNotO, hd, hk, hkk, hasD_n, hf2]
            exact ⟨f', B', ⟨rfl, rfl⟩, hB'.skip hg (.inl hf), hl'⟩
          · by_cases hbar : g ∈ bar
            · have hf2 := hf
              simp at hf2
              simp [dinNotO, hd, hk, hkk, hasD_n, hf2, notInD_nlS, hbar]
              exact ⟨f', B', ⟨rfl, rfl⟩, hB'.skip hg (.inr hbar), hl'⟩
            · have hf2 := hf
              simp at hf2
              have hv : valD (f'.map pD) (nD a) = some (nD d) := valD_mem hB'.nd hB'.here
              have hadd : (PyData.int ((d : Int) + 1)) = nD (d + 1) := rfl
              have hput : putD (f'.map pD) (nD g) (nD (d + 1)) = (f' ++ [(g, d + 1)]).map pD := putD_n hf
              have hlen : f'.length < 1000 := by omega
              simp [dinNotO, hd, hk, hkk, hasD_n, hf2, notInD_nlS, hbar]
              refine Ok_seq ?_
              simp [dputS, dgetO, hd, hk, hkk, hv]
              rw [hput]
              have hlen2 : (A ++ B').length < 1000000 := by
                simp at hrl ⊢
                omega
              simp [hlen, ho]
              simp at hlen2
              rw [if_pos hlen2]
              simp
              exact ⟨f' ++ [(g, d + 1)], B' ++ [g], ⟨by simp, by simp [nlD]⟩, hB'.add hg hf hbar, by simp; omega⟩
        · obtain ⟨f', B', w', rfl, hB', hl'⟩ := hI
          have hfew := hB'.few
          have := hb.few
          simp at hrl
          exact ⟨rfl, 8 - f'.length + (A ++ B').length, by simp; omega, f', A ++ B', ⟨_, _, rfl⟩, hB'.stop, rfl, by simp; omega⟩
  obtain ⟨d, e, f, rfl, q⟩ := key
  exact ⟨f, e, q⟩

structure Lev (ps : List (Nat × Nat)) (bar : List Nat) (f : List (Nat × Nat)) (L : List Nat) (k : Nat) : Prop where
  nd : (f.map (·.1)).Nodup
  ndl : L.Nodup
  dis : ∀ h ∈ L, h ∉ f.map (·.1)
  lt : ∀ h n, (h, n) ∈ f → h < 8
  ltL : ∀ h ∈ L, h < 8
  val : ∀ h n, (h, n) ∈ f → n < k
  z : (k = 0 ∧ f = [] ∧ L = [0]) ∨ (0, 0) ∈ f
  par : ∀ h n, (h, n) ∈ f → (h = 0 ∧ n = 0) ∨ ∃ g m, (g, m) ∈ f ∧ n = m + 1 ∧ adjS ps g h ∧ ¬ h ∈ bar
  parL : k = 0 ∨ ∀ h ∈ L, ∃ g m, (g, m) ∈ f ∧ k = m + 1 ∧ adjS ps g h ∧ ¬ h ∈ bar
  kid : ∀ h n g, (h, n) ∈ f → adjS ps h g → ¬ g ∈ bar → (∃ m, (g, m) ∈ f ∧ m ≤ n + 1) ∨ (g ∈ L ∧ n + 1 = k)
theorem Lev.few {ps : List (Nat × Nat)} {bar L : List Nat} {f : List (Nat × Nat)} {k : Nat} (b : Lev ps bar f L k) : f.length + L.length ≤ 8 := by
  have := nodup_le 8 (f.map (·.1) ++ L) (List.nodup_append.mpr ⟨b.nd, b.ndl, fun x hx y hy e => b.dis y hy (e ▸ hx)⟩) (fun x hx => by
    rcases List.mem_append.mp hx with hx | hx
    · obtain ⟨n, hn⟩ := mem_keys.mp hx
      exact b.lt x n hn
    · exact b.ltL x hx)
  simpa using this
theorem Lev.done {ps : List (Nat × Nat)} {bar : List Nat} {f : List (Nat × Nat)} {k : Nat} (b : Lev ps bar f [] k) : Dist (adjS ps) (· ∈ bar) f :=
  ⟨b.nd, by
    rcases b.z with ⟨_, _, e⟩ | e
    · cases e
    · exact e, b.par, fun h n g hm ha hb => by
    rcases b.kid h n g hm ha hb with e | ⟨e, _⟩
    · exact e
    · cases e⟩
def nxtL (ps : List (Nat × Nat)) (bar : List Nat) (f : List (Nat × Nat)) (L : List Nat) : List Nat := L.flatMap fun h => (nbr ps h).filter fun o => !decide (o ∈ f.map (·.1)) && !decide (o ∈ bar)
def nxtS (ps : List (Nat × Nat)) (bar : List Nat) (f : List (Nat × Nat)) (L : List Nat) : List Nat := (List.range 8).filter fun o => decide (o ∈ nxtL ps bar f L)
theorem mem_nxt {ps : List (Nat × Nat)} {bar L : List Nat} {f : List (Nat × Nat)} {o : Nat} : o ∈ nxtS ps bar f L ↔ ∃ h ∈ L, adjS ps h o ∧ o ∉ f.map (·.1) ∧ o ∉ bar := by
  unfold nxtS nxtL
  rw [List.mem_filter, decide_eq_true_eq, List.mem_flatMap]
  constructor
  · rintro ⟨_, h, h1, h2⟩
    rw [List.mem_filter] at h2
    have h3 := h2.2
    rw [Bool.and_eq_true, Bool.not_eq_true', decide_eq_false_iff_not, Bool.not_eq_true', decide_eq_false_iff_not] at h3
    exact ⟨h, h1, h2.1, h3⟩
  · rintro ⟨h, h1, h2, h3, h4⟩
    refine ⟨List.mem_range.mpr (mem_nbr.mp h2).1, h, h1, ?_⟩
    rw [List.mem_filter]
    refine ⟨h2, ?_⟩
    rw [Bool.and_eq_true, Bool.not_eq_true', decide_eq_false_iff_not, Bool.not_eq_true', decide_eq_false_iff_not]
    exact ⟨h3, h4⟩
theorem Lev.step {ps : List (Nat × Nat)} {bar L : List Nat} {f : List (Nat × Nat)} {k : Nat} (b : Lev ps bar f L k) : Lev ps bar (f ++ L.map fun h => (h, k)) (nxtS ps bar (f ++ L.map fun h => (h, k)) L) (k + 1) := by
  have mono : ∀ p, p ∈ f → p ∈ f ++ L.map fun h => (h, k) := fun p hp => List.mem_append_left _ hp
  have mem : ∀ h n, (h, n) ∈ f ++ L.map (fun h => (h, k)) ↔ (h, n) ∈ f ∨ (h ∈ L ∧ n = k) := fun h n => by
    rw [List.mem_append, List.mem_map]
    constructor
    · rintro (h1 | ⟨x, h1, e⟩)
      · exact .inl h1
      · cases e
        exact .inr ⟨h1, rfl⟩
    · rintro (h1 | ⟨h1, rfl⟩)
      · exact .inl h1
      · exact .inr ⟨h, h1, rfl⟩
  have hmap : (f ++ L.map fun h => (h, k)).map (·.1) = f.map (·.1) ++ L := by
    rw [List.map_append, List.map_map]
    congr 1
    exact List.map_id' L
  refine ⟨?_, (range_pw 8).imp (fun h => by omega) |>.filter _, fun h hh => (mem_nxt.mp hh).choose_spec.2.2.1, fun h n hm => ?_, fun h hh => ?_, fun h n hm => ?_, .inr ?_, fun h n hm => ?_, .inr fun h hh => ?_, fun h n g hm ha hb => ?_⟩
  · rw [hmap]
    exact List.nodup_append.mpr ⟨b.nd, b.ndl, fun x hx y hy e => b.dis y hy (e ▸ hx)⟩
  · rcases (mem h n).mp hm with hm | ⟨hm, _⟩
    · exact b.lt h n hm
    · exact b.ltL h hm
  · obtain ⟨g, _, ha, _⟩ := mem_nxt.mp hh
    exact (mem_nbr.mp ha).1
  · rcases (mem h n).mp hm with hm | ⟨hmL, rfl⟩
    · have := b.val h n hm
      omega
    · omega
  · rcases b.z with ⟨rfl, rfl, rfl⟩ | h0
    · simp
    · exact mono _ h0
  · rcases (mem h n).mp hm with hm | ⟨hmL, rfl⟩
    · rcases b.par h n hm with e | ⟨g, m, e1, e2⟩
      · exact .inl e
      · exact .inr ⟨g, m, mono _ e1, e2⟩
    · rcases b.z with ⟨rfl, rfl, rfl⟩ | h0
      · simp at hmL
        exact .inl ⟨hmL, rfl⟩
      · rcases b.parL with e | e
        · have := b.val 0 0 h0
          omega
        · obtain ⟨g, m, e1, e2⟩ := e h hmL
          exact .inr ⟨g, m, mono _ e1, e2⟩
  · obtain ⟨g, hg, ha, _, hb⟩ := mem_nxt.mp hh
    exact ⟨g, k, (mem g k).mpr (.inr ⟨hg, rfl⟩), rfl, ha, hb⟩
  · by_cases hin : g ∈ (f ++ L.map fun h => (h, k)).map (·.1)
    · obtain ⟨m, hm'⟩ := mem_keys.mp hin
      rcases (mem h n).mp hm with hm | ⟨hmL, rfl⟩
      · rcases b.kid h n g hm ha hb with ⟨m2, e1, e2⟩ | ⟨e1, e2⟩
        · exact .inl ⟨m2, mono _ e1, e2⟩
        · exact .inl ⟨k, (mem g k).mpr (.inr ⟨e1, rfl⟩), by omega⟩
      · refine .inl ⟨m, hm', ?_⟩
        rcases (mem g m).mp hm' with hm' | ⟨_, rfl⟩
        · have := b.val g m hm'
          omega
        · omega
    · rcases (mem h n).mp hm with hm | ⟨hmL, rfl⟩
      · rcases b.kid h n g hm ha hb with ⟨m2, e1, e2⟩ | ⟨e1, e2⟩
        · exact .inl ⟨m2, mono _ e1, e2⟩
        · exact .inl ⟨k, (mem g k).mpr (.inr ⟨e1, rfl⟩), by omega⟩
      · exact .inr ⟨mem_nxt.mpr ⟨h, hmL, ha, hin, hb⟩, rfl⟩
theorem nbr_len (ps : List (Nat × Nat)) (h : Nat) : (nbr ps h).length ≤ 8 := by
  refine Nat.le_trans (List.length_filter_le _ _) ?_
  simp
theorem of_Ok {α : Type} {r : R α} {a : α} (h : Ok r fun x => x = a) : r = .ok a := by
  obtain ⟨x, e, rfl⟩ := h
  exact e
end Hz

namespace Hz
open PySem PySem.Spec PyProof.Rows L2
theorem compL_sub {α : Type} {vs : List Nat} {b : D → Env → Option Env} {c : Env → R (Bool × Env)} {el : Env → R (D × Env)} (enc : α → D) (g : α → D) (I : Nat → Env → Prop)
    (st : ∀ x n e, I (n + 1) e → ∃ e1, b (enc x) e = some e1 ∧ Ok (c e1) fun r => (r.1 = true → Ok (el r.2) fun q => q.1 = g x ∧ I n (wipeE q.2 vs)) ∧ (r.1 = false → I n (wipeE r.2 vs))) : ∀ (xs : List α) (e : Env), I xs.length e → ∃ zs e', List.Sublist zs xs ∧ compL vs b c el (xs.map enc) e = .ok (zs.map g, e') ∧ I 0 e'
  | [], e, h => ⟨[], e, List.Sublist.refl _, rfl, h⟩
  | x :: xs, e, h => by
    obtain ⟨e1, h1, ⟨⟨t, e2⟩, h2, h3, h4⟩⟩ := st x xs.length e h
    rw [List.map_cons, compL, h1]
    simp only [lift_some, bind_ok, h2, ne_ok]
    cases t with
    | true =>
      obtain ⟨⟨d, e3⟩, h5, rfl, h6⟩ := h3 rfl
      obtain ⟨zs, e', h7, h8, h9⟩ := compL_sub enc g I st xs _ h6
      refine ⟨x :: zs, e', h7.cons₂ x, ?_, h9⟩
      simp only [if_true, h5, ne_ok, bind_ok]
      rw [h8]
      rfl
    | false =>
      obtain ⟨zs, e', h7, h8, h9⟩ := compL_sub enc g I st xs _ (h4 rfl)
      refine ⟨zs, e', h7.cons x, ?_, h9⟩
      simp only [Bool.false_eq_true, if_false]
      exact h8
theorem sights_sg (ns : List Int) (k : Nat) (hk : k ≤ 1000) : Ok (d_law_sights [scrV ns, twn k]) fun r => ∃ (many : Nat) (ps : List (Nat × Nat)) (k' : Nat), r = (.tuple [nD many, .tuple (ps.map sgE)], twn k') ∧ Sg many ps ∧ k' ≤ k + 1000 := by
  unfold d_law_sights b_law_sights env0
  refine Ok_finT (Ok_seq ?_)
  obtain ⟨a, ha, e1⟩ := draw_lit ns k 7 (.int 7) rfl (by omega) (by omega)
  have hadd : addD (.int 2) (nD a) = some (nD (a + 2)) := by
    show some (PyData.int (2 + (a : Int))) = some (.int ((a + 2 : Nat) : Int))
    exact congrArg (fun z => some (PyData.int z)) (by omega)
  simp [e1, hadd]
  refine Ok_seq ?_
  obtain ⟨c, hc, e2⟩ := draw_lit ns (k + 1) 3 (.int 3) rfl (by omega) (by omega)
  simp [e2]
  refine Ok_seq ?_
  simp
  refine Ok_seq ?_
  simp [rng1_n (a + 2) (by omega)]
  refine Ok_forL nD (List.range (a + 2)) (fun i e => ∃ (ps : List (Nat × Nat)) (j : Nat) (v : Option D), e = [some (scrV ns), some (twn j), some (nD (a + 2)), some (nD (c + 1)), some (.list (ps.map sgE)), v, none] ∧ (ps.Pairwise fun p q => p.1 < q.1 ∨ p.1 = q.1 ∧ p.2 < q.2) ∧ (∀ p ∈ ps, p.1 < i ∧ p.1 < p.2 ∧ p.2 < a + 2) ∧ ps.length ≤ 10 * i ∧ j ≤ k + 2 + 10 * i) ⟨[], k + 1 + 1, none, rfl, by simp, by simp, by simp, by omega⟩ (fun i x e hx hI => ?_) fun e hI => ?_
  · obtain ⟨ps, j, v, rfl, hpw, hok, hdl, hj⟩ := hI
    obtain ⟨rfl, hi⟩ := getR hx
    refine ⟨[some (scrV ns), some (twn j), some (nD (a + 2)), some (nD (c + 1)), some (.list (ps.map sgE)), some (nD x), none], rfl, ?_⟩
    have hrg : rng2 [nD (x + 1), nD (a + 2)] = some ((List.range' (x + 1) (a + 2 - (x + 1))).map nD) := rng2_n (x + 1) (a + 2) (by omega) (by omega)
    obtain ⟨zs, e', hsub, hq, ⟨j', rfl, hj'⟩⟩ := compL_sub (vs := [6]) (b := bName 6) (c := tstD (op2 ltD (callT d_law_draw 1 (varD 0) (consA (cD (.int 4)) nilA)) (varD 3))) (el := tupD (consA (varD 5) (consA (varD 6) nilA))) nD (fun o => sgE (x, o)) (fun n e => ∃ j', e = [some (scrV ns), some (twn j'), some (nD (a + 2)), some (nD (c + 1)), some (.list (ps.map sgE)), some (nD x), none] ∧ j' + n ≤ j + 10) (fun y n e hI => by
      obtain ⟨j', rfl, hj'⟩ := hI
      refine ⟨_, rfl, ?_⟩
      obtain ⟨m, hm, e4⟩ := draw_lit ns j' 4 (.int 4) rfl (by omega) (by omega)
      simp [e4]
      exact ⟨fun _ => ⟨rfl, j' + 1, rfl, by omega⟩, fun _ => ⟨j' + 1, rfl, by omega⟩⟩) (List.range' (x + 1) (a + 2 - (x + 1))) [some (scrV ns), some (twn j), some (nD (a + 2)), some (nD (c + 1)), some (.list (ps.map sgE)), some (nD x), none] ⟨j, rfl, by simp; omega⟩
    have hcomp : compD (argI rng2 (consA (op2 addD (varD 5) (cD (.int 1))) (consA (varD 2) nilA))) [6] (bName 6) (tstD (op2 ltD (callT d_law_draw 1 (varD 0) (consA (cD (.int 4)) nilA)) (varD 3))) (tupD (consA (varD 5) (consA (varD 6) nilA))) [some (scrV ns), some (twn j), some (nD (a + 2)), some (nD (c + 1)), some (.list (ps.map sgE)), some (nD x), none] = .ok (.list (zs.map fun o => sgE (x, o)), [some (scrV ns), some (twn j'), some (nD (a + 2)), some (nD (c + 1)), some (.list (ps.map sgE)), some (nD x), none]) := by
      unfold compD
      have hfi : argI rng2 (consA (op2 addD (varD 5) (cD (.int 1))) (consA (varD 2) nilA)) [some (scrV ns), some (twn j), some (nD (a + 2)), some (nD (c + 1)), some (.list (ps.map sgE)), some (nD x), none] = .ok ((List.range' (x + 1) (a + 2 - (x + 1))).map nD, [some (scrV ns), some (twn j), some (nD (a + 2)), some (nD (c + 1)), some (.list (ps.map sgE)), some (nD x), none]) := by
        simp [hrg]
      rw [hfi]
      simp only [bind_ok]
      rw [if_pos (by simp; omega)]
      have hw : wipeE [some (scrV ns), some (twn j), some (nD (a + 2)), some (nD (c + 1)), some (.list (ps.map sgE)), some (nD x), none] [6] = [some (scrV ns), some (twn j), some (nD (a + 2)), some (nD (c + 1)), some (.list (ps.map sgE)), some (nD x), none] := rfl
      rw [hw, hq]
      rfl
    have ho : ∀ z y : Option D, ownL [some (scrV ns), y, some (nD (a + 2)), some (nD (c + 1)), some (.list (ps.map sgE)), z, none] 4 = some (ps.map sgE) := fun _ _ => rfl
    have hzl : zs.length ≤ 10 := by
      have := hsub.length_le
      simp at this
      omega
    have hzm : ∀ o ∈ zs, x < o ∧ o < a + 2 := fun o ho => by
      have := hsub.subset ho
      simp at this
      omega
    have hzp : zs.Pairwise (· < ·) := List.Pairwise.sublist hsub List.pairwise_lt_range'
    unfold extS
    rw [ho]
    simp only [lift_some, bind_ok]
    rw [hcomp]
    simp only [bind_ok]
    rw [ho]
    simp only [lift_some, bind_ok]
    rw [if_pos (by simp; omega)]
    refine ⟨_, rfl, rfl, ps ++ zs.map fun o => (x, o), j', some (nD x), by simp [Function.comp_def], ?_, fun p hp => ?_, by simp; omega, by omega⟩
    · rw [List.pairwise_append]
      refine ⟨hpw, ?_, fun p hp q hq => ?_⟩
      · rw [List.pairwise_map]
        exact hzp.imp fun h => .inr ⟨rfl, h⟩
      · obtain ⟨o, _, rfl⟩ := List.mem_map.mp hq
        exact .inl (hok p hp).1
    · rcases List.mem_append.mp hp with hp | hp
      · have := hok p hp
        omega
      · obtain ⟨o, ho, rfl⟩ := List.mem_map.mp hp
        have := hzm o ho
        simp only
        omega
  · obtain ⟨ps, j, v, rfl, hpw, hok, hdl, hj⟩ := hI
    simp at hj
    have ho : ∀ z : Option D, ownL [some (scrV ns), some (twn j), some (nD (a + 2)), some (nD (c + 1)), some (.list (ps.map sgE)), z, none] 4 = some (ps.map sgE) := fun _ => rfl
    simp [tupleD]
    exact ⟨a + 2, ps, j, ⟨⟨rfl, rfl⟩, rfl⟩, ⟨hpw, fun p hp => (hok p hp).2, by omega, by omega⟩, by omega⟩
theorem lt_sgE (p q : Nat × Nat) : ltD (sgE p) (sgE q) = some (.bool (decide (p.1 < q.1 ∨ p.1 = q.1 ∧ p.2 < q.2))) := by
  show some (PyData.bool (HT.lexLt [(p.1 : Int), (p.2 : Int)] [(q.1 : Int), (q.2 : Int)])) = _
  congr 2
  rw [HT.lexLt_cons, HT.lexLt_cons, HT.lexLt_nil_nil, Bool.eq_iff_iff]
  by_cases h2 : p.1 = q.1
  · rw [if_pos (by omega)]
    by_cases h3 : p.2 = q.2
    · rw [if_pos (by omega)]
      simp [h2, h3]
    · rw [if_neg (by omega)]
      simp [h2]
  · rw [if_neg (by omega)]
    simp [h2]
theorem pw_zip {α : Type} {r : α → α → Prop} : ∀ {l : List α}, l.Pairwise r → ∀ p ∈ l.zip (l.drop 1), r p.1 p.2
  | [], _, p, hp => by simp at hp
  | [x], _, p, hp => by simp at hp
  | x :: y :: l, h, p, hp => by
    rw [List.pairwise_cons] at h
    simp only [List.drop_succ_cons, List.drop_zero, List.zip_cons_cons, List.mem_cons] at hp
    rcases hp with rfl | hp
    · exact h.1 y List.mem_cons_self
    · exact pw_zip h.2 p (by simpa using hp)
theorem Ok_finN {r : R (Fl × Env)} {P : D → Prop} (h : Ok r fun a => (a.1 = .nx ∧ P .none) ∨ ∃ d, a.1 = .rt d ∧ P d) : Ok (fin r) P := by
  obtain ⟨⟨fl, e⟩, rfl, h⟩ := h
  rcases h with ⟨h1, h2⟩ | ⟨d, h1, h2⟩
  · cases h1
    exact ⟨_, rfl, h2⟩
  · cases h1
    exact ⟨_, rfl, h2⟩
theorem sight_n {many : Nat} {p : Nat × Nat} (h1 : p.1 < p.2) (h2 : p.2 < many) : d_is_sight [nD many, sgE p] = .ok (.bool true) := by
  have i0 : idxD (.tuple [nD p.1, nD p.2]) (.int 0) = some (nD p.1) := rfl
  have i1 : idxD (.tuple [nD p.1, nD p.2]) (.int 1) = some (nD p.2) := rfl
  have w1 : d_is_whole [nD p.1, .int 0, .int ((many : Int) - 1)] = .ok (.bool true) := by
    rw [show nD p.1 = .int (p.1 : Int) from rfl, whole_int]
    simp
    omega
  have w2 : d_is_whole [nD p.2, .int ((p.1 : Int) + 1), .int ((many : Int) - 1)] = .ok (.bool true) := by
    rw [show nD p.2 = .int (p.2 : Int) from rfl, whole_int]
    simp
    omega
  have w3 : d_is_whole [nD p.2, nD (p.1 + 1), .int ((many : Int) - 1)] = .ok (.bool true) := w2
  unfold d_is_sight b_is_sight env0 sgE
  simp [ev_seqS, i0, i1, w1, w2, w3]
theorem need_sg {many : Nat} {ps : List (Nat × Nat)} (s : Sg many ps) : d_need_sights [nD many, .tuple (ps.map sgE)] = .ok .none := by
  have hw : d_is_whole [nD many, .int 2, .int 8] = .ok (.bool true) := by
    have := s.le
    have := s.ge
    rw [show nD many = .int (many : Int) from rfl, whole_int]
    simp
    omega
  have hlen := s.len
  have c1 : compD (seqI (varD 1)) [2] (bName 2) yesT (callP d_is_sight (consA (varD 0) (consA (varD 2) nilA))) [some (nD many), some (.tuple (ps.map sgE)), none, none, none] = .ok (.list (ps.map fun _ => .bool true), [some (nD many), some (.tuple (ps.map sgE)), none, none, none]) :=
    of_Ok (Ok_compY sgE (fun _ => .bool true) ps (by simp [itemsOf]) (by omega) (fun p hp => ⟨_, rfl, by
      have := s.ok p hp
      simp [sight_n this.1 this.2], rfl⟩) rfl rfl)
  have hall := allD_map (fun _ : Nat × Nat => true) ps
  rw [show ps.all (fun _ => true) = true by simp] at hall
  have hc : cutL (ps.map sgE) (some 1) none = (ps.map sgE).drop 1 := cut_from _ 1
  have hz : zip2 [.tuple (ps.map sgE), .tuple ((ps.map sgE).drop 1)] = some ((ps.zip (ps.drop 1)).map fun p => .tuple [sgE p.1, sgE p.2]) := by
    rw [← List.map_drop]
    exact zip2_map sgE (fun _ _ => rfl) _ _
  have c2 : compD (argI zip2 (consA (varD 1) (consA (sliceD (varD 1) (someO (cD (.int 1))) noO) nilA))) [3, 4] (bTup 2 (bCons (bName 3) (bCons (bName 4) bNil))) yesT (op2 ltD (varD 3) (varD 4)) [some (nD many), some (.tuple (ps.map sgE)), none, none, none] = .ok (.list ((ps.zip (ps.drop 1)).map fun _ => .bool true), [some (nD many), some (.tuple (ps.map sgE)), none, none, none]) := by
    refine of_Ok (Ok_compY (fun p : (Nat × Nat) × (Nat × Nat) => .tuple [sgE p.1, sgE p.2]) (fun _ => .bool true) (ps.zip (ps.drop 1)) ?_ (by simp; omega) (fun p hp => ?_) rfl rfl)
    · simp only [ev_argI, ev_consA, ev_varD, ev_sliceD, ev_someO, ev_cD, ev_noO, ev_nilA]
      simp [hc]
      simp at hz
      simp [hz]
    · refine ⟨_, rfl, ?_, rfl⟩
      have := pw_zip s.so p hp
      simp [lt_sgE, this]
  have hall2 := allD_map (fun _ : (Nat × Nat) × (Nat × Nat) => true) (ps.zip (ps.drop 1))
  rw [show (ps.zip (ps.drop 1)).all (fun _ => true) = true by simp] at hall2
  have key : Ok (d_need_sights [nD many, .tuple (ps.map sgE)]) fun d => d = .none := by
    unfold d_need_sights b_need_sights env0
    refine Ok_finN (Ok_seq ?_)
    simp [hw]
    refine Ok_seq ?_
    simp [c1, hall]
    rw [List.drop_one] at c2 hall2
    simp [c2, hall2]
  obtain ⟨d, e, rfl⟩ := key
  exact e
end Hz

namespace Hz
open PySem PySem.Spec PyProof.Rows L2
def valN (f : List (Nat × Nat)) (h : Nat) : Nat := ((f.find? fun p => decide (p.1 = h)).map (·.2)).getD 0
theorem find_mem {f : List (Nat × Nat)} (h : (f.map (·.1)).Nodup) {k v : Nat} (hm : (k, v) ∈ f) : f.find? (fun p => decide (p.1 = k)) = some (k, v) := by
  induction f with
  | nil => cases hm
  | cons p l ih =>
    rw [List.find?_cons]
    rw [List.map_cons, List.nodup_cons] at h
    rcases List.mem_cons.mp hm with e | e
    · subst e
      simp
    · have : p.1 ≠ k := fun z => h.1 (by rw [z]; exact List.mem_map_of_mem (f := fun q : Nat × Nat => q.1) e)
      simp [this]
      simpa using ih h.2 e
theorem valN_mem {f : List (Nat × Nat)} (h : (f.map (·.1)).Nodup) {k v : Nat} (hm : (k, v) ∈ f) : valN f k = v := by
  unfold valN
  rw [find_mem h hm]
  rfl
theorem mem_valN {f : List (Nat × Nat)} (h : (f.map (·.1)).Nodup) {k : Nat} (hm : k ∈ f.map (·.1)) : (k, valN f k) ∈ f := by
  obtain ⟨v, hv⟩ := mem_keys.mp hm
  rw [valN_mem h hv]
  exact hv
theorem dget_valN {f : List (Nat × Nat)} (h : (f.map (·.1)).Nodup) {k : Nat} (hm : k ∈ f.map (·.1)) : dgetD (.dict (f.map pD)) (nD k) = some (nD (valN f k)) := dgetD_n h (mem_valN h hm)
theorem dnotIn_n (k : Nat) (f : List (Nat × Nat)) : dnotInD (nD k) (.dict (f.map pD)) = some (.bool (!decide (k ∈ f.map (·.1)))) := by
  have h1 : dinD (nD k) (.dict (f.map pD)) = some (.bool (decide (k ∈ f.map (·.1)))) := by
    show (if numKeys (f.map pD) = true then some (PyData.bool (hasD (f.map pD) (nD k))) else none) = _
    rw [numKeys_n, if_pos rfl, hasD_n]
  unfold dnotInD
  rw [h1]
theorem din_n (k : Nat) (f : List (Nat × Nat)) : dinD (nD k) (.dict (f.map pD)) = some (.bool (decide (k ∈ f.map (·.1)))) := by
  show (if numKeys (f.map pD) = true then some (PyData.bool (hasD (f.map pD) (nD k))) else none) = _
  rw [numKeys_n, if_pos rfl, hasD_n]
theorem lenK_n (f : List (Nat × Nat)) : lenK [.dict (f.map pD)] = some (nD f.length) := by
  show (if numKeys (f.map pD) = true then some (PyData.int ((f.map pD).length : Nat)) else none) = _
  rw [numKeys_n, if_pos rfl, List.length_map]
  rfl
abbrev noB : Nat → Prop := (· ∈ ([] : List Nat))
section
variable {many : Nat} {ps : List (Nat × Nat)} {f f' : List (Nat × Nat)}
theorem Dist.lt (s : Sg many ps) {bar : Nat → Prop} (a : Dist (adjS ps) bar f) {h n : Nat} (hm : (h, n) ∈ f) : h < many := by
  refine a.ind (fun h => h < many) ?_ (fun g h _ ha _ => (s.lt ha).1) n h hm
  have := s.ge
  omega
theorem Dist.ltk (s : Sg many ps) {bar : Nat → Prop} (a : Dist (adjS ps) bar f) {h : Nat} (hm : h ∈ f.map (·.1)) : h < many := by
  obtain ⟨n, hn⟩ := mem_keys.mp hm
  exact a.lt s hn
theorem Dist.lenle (s : Sg many ps) {bar : Nat → Prop} (a : Dist (adjS ps) bar f) : f.length ≤ many := by
  have := nodup_le many _ a.nd (fun x hx => a.ltk s hx)
  simpa using this
theorem Dist.all (s : Sg many ps) {bar : Nat → Prop} (a : Dist (adjS ps) bar f) (hl : ¬ f.length < many) {h : Nat} (hh : h < many) : h ∈ f.map (·.1) := by
  by_cases z : h ∈ f.map (·.1)
  · exact z
  · have := nodup_le many (h :: f.map (·.1)) (List.nodup_cons.mpr ⟨z, a.nd⟩) (fun x hx => by
      rcases List.mem_cons.mp hx with rfl | hx
      · exact hh
      · exact a.ltk s hx)
    simp at this
    omega
theorem Dist.vals {adj : Nat → Nat → Prop} {bar : Nat → Prop} (a : Dist adj bar f) : ∀ n h, (h, n) ∈ f → ∀ m, m ≤ n → ∃ g, (g, m) ∈ f := by
  intro n
  induction n with
  | zero =>
    intro h hm m hle
    have : m = 0 := by omega
    subst this
    exact ⟨h, hm⟩
  | succ n ih =>
    intro h hm m hle
    by_cases e : m = n + 1
    · subst e
      exact ⟨h, hm⟩
    · rcases a.par h _ hm with ⟨_, z⟩ | ⟨g, m', hg, e', _⟩
      · omega
      · cases e'
        exact ih g hg m (by omega)
theorem Dist.valt {adj : Nat → Nat → Prop} {bar : Nat → Prop} (a : Dist adj bar f) {h n : Nat} (hm : (h, n) ∈ f) : n < f.length := by
  have := len_sub (l := List.range (n + 1)) (m := f.map (·.2)) List.nodup_range (fun x hx => by
    simp at hx
    obtain ⟨g, hg⟩ := a.vals n h hm x (by omega)
    exact List.mem_map.mpr ⟨_, hg, rfl⟩)
  simp at this
  omega
theorem Dist.valsame {adj : Nat → Nat → Prop} {bar : Nat → Prop} (a : Dist adj bar f) (b : Dist adj bar f') {h : Nat} (hm : h ∈ f.map (·.1)) : valN f h = valN f' h := by
  have h1 := mem_valN a.nd hm
  exact (valN_mem b.nd ((a.same b _).mp h1)).symm
theorem unreached_n (s : Sg many ps) (a : Dist (adjS ps) noB f) : d_unreached [nD many, .tuple (ps.map sgE)] = .ok (nlD ((List.range many).filter fun h => !decide (h ∈ f.map (·.1)))) := by
  obtain ⟨g, e1, b, _⟩ := distances_n s (.inl rfl : IsC (.tuple (ps.map sgE)) ps) []
  have hle := s.le
  have key : Ok (d_unreached [nD many, .tuple (ps.map sgE)]) fun d => d = nlD ((List.range many).filter fun h => !decide (h ∈ f.map (·.1))) := by
    unfold d_unreached b_unreached env0
    refine Ok_fin (Ok_seq ?_)
    simp [need_sg s]
    refine Ok_seq ?_
    have e2 : d_distances [.tuple (ps.map sgE), .int 0, .list []] = .ok (.dict (g.map pD)) := e1
    simp [e2]
    refine Ok_compP nD (fun h => !decide (h ∈ f.map (·.1))) nD (List.range many) (by simp [rng1_n many (by omega)]) (by simp; omega) (fun h hh => ⟨_, rfl, ?_, fun _ => by simp, rfl⟩) rfl rfl
    have : decide (h ∈ g.map (·.1)) = decide (h ∈ f.map (·.1)) := decide_eq_decide.mpr (b.keys a h)
    simp only [ev_tstD, ev_op2, ev_varD]
    simp only [List.length_cons, List.getElem?_cons_succ, List.getElem?_cons_zero, getD2_s, bind_ok, ev_wipe1, ev_wipe0, List.set_cons_succ, List.set_cons_zero, dnotIn_n, this, lift_some]
  obtain ⟨d, e, rfl⟩ := key
  exact e
def upsL (ps f : List (Nat × Nat)) (h : Nat) : List Nat := (nbr ps h).filter fun o => decide ((valN f o : Int) = (valN f h : Int) - 1)
def upOf (ps f : List (Nat × Nat)) (h : Nat) : Nat := (upsL ps f h).headD 0
def nearT (many : Nat) (ps f : List (Nat × Nat)) : List Nat := (List.range' 1 (many - 1)).map (upOf ps f)
theorem ups_ne (s : Sg many ps) (a : Dist (adjS ps) noB f) (hl : ¬ f.length < many) {h : Nat} (h1 : 1 ≤ h) (h2 : h < many) : ∃ l, upsL ps f h = upOf ps f h :: l := by
  have hm := mem_valN a.nd (a.all s hl h2)
  rcases a.par _ _ hm with ⟨z, _⟩ | ⟨g, m, hg, e, ha, _⟩
  · omega
  · have hin : g ∈ upsL ps f h := by
      unfold upsL
      rw [List.mem_filter, decide_eq_true_eq]
      refine ⟨nbr_sym s (show h ∈ nbr ps g from ha), ?_⟩
      rw [valN_mem a.nd hg, e]
      omega
    unfold upOf
    cases hu : upsL ps f h with
    | nil => rw [hu] at hin; cases hin
    | cons x l => exact ⟨l, rfl⟩
theorem upOf_in (s : Sg many ps) (a : Dist (adjS ps) noB f) (hl : ¬ f.length < many) {h : Nat} (h1 : 1 ≤ h) (h2 : h < many) : upOf ps f h ∈ nbr ps h ∧ valN f (upOf ps f h) + 1 = valN f h := by
  obtain ⟨l, e⟩ := ups_ne s a hl h1 h2
  have : upOf ps f h ∈ upsL ps f h := by rw [e]; exact List.mem_cons_self
  unfold upsL at this
  rw [List.mem_filter, decide_eq_true_eq] at this
  exact ⟨this.1, by omega⟩
theorem nearT_len : (nearT many ps f).length = many - 1 := by simp [nearT]
theorem nearT_up (s : Sg many ps) {h : Nat} (h1 : 1 ≤ h) (h2 : h < many) : up (nearT many ps f) h = upOf ps f h := by
  have : (nearT many ps f)[h - 1]? = some (upOf ps f h) := by
    unfold nearT
    rw [List.getElem?_map, List.getElem?_range' (by omega)]
    simp [show 1 + (h - 1) = h by omega]
  have := up_at this
  rwa [show h - 1 + 1 = h by omega] at this
theorem nearT_tree (s : Sg many ps) (a : Dist (adjS ps) noB f) (hl : ¬ f.length < many) : IsTree (nearT many ps f) := by
  have hg := s.ge
  refine ⟨by rw [nearT_len]; omega, fun x hx => ?_, valN f, fun h hh => ?_, fun k x hk => ?_⟩
  · rw [nearT_len]
    unfold nearT at hx
    obtain ⟨h, hh, rfl⟩ := List.mem_map.mp hx
    simp at hh
    have := (s.lt (upOf_in s a hl hh.1 (by omega)).1).1
    omega
  · rw [nearT_len] at hh ⊢
    have := a.valt (mem_valN a.nd (a.all s hl (show h < many by omega)))
    have := a.lenle s
    omega
  · have hkl := lt_of_get hk
    rw [nearT_len] at hkl
    have e1 := up_at hk
    rw [nearT_up s (by omega) (by omega)] at e1
    have := (upOf_in s a hl (show 1 ≤ k + 1 by omega) (by omega)).2
    rw [← e1]
    omega
theorem nearT_far (s : Sg many ps) (a : Dist (adjS ps) noB f) (hl : ¬ f.length < many) : ∀ n h, h < many → valN f h = n → farN (nearT many ps f) ((nearT many ps f).length + 1) h = some n := by
  have T := nearT_tree s a hl
  intro n
  induction n with
  | zero =>
    intro h hh hv
    by_cases z : h = 0
    · subst z
      exact farN_zero _
    · have := (upOf_in s a hl (show 1 ≤ h by omega) hh).2
      omega
  | succ n ih =>
    intro h hh hv
    have h0 : valN f 0 = 0 := valN_mem a.nd a.z
    have z : 1 ≤ h := by
      by_cases z : h = 0
      · subst z
        omega
      · omega
    obtain ⟨u1, u2⟩ := upOf_in s a hl z hh
    have hk := ih (upOf ps f h) (s.lt u1).1 (by omega)
    obtain ⟨k, _, e, _⟩ := T.far (show h ≤ (nearT many ps f).length by rw [nearT_len]; omega)
    obtain ⟨k', rfl, e'⟩ := farN_pos e (by omega)
    rw [nearT_up s z hh, hk] at e'
    cases e'
    exact e
theorem nearest_n (s : Sg many ps) (a : Dist (adjS ps) noB f) : d_nearest_tree [nD many, .tuple (ps.map sgE)] = .ok (if f.length < many then .none else ntD (nearT many ps f)) := by
  obtain ⟨g, e1, b, _⟩ := distances_n s (.inl rfl : IsC (.tuple (ps.map sgE)) ps) []
  have hle := s.le
  have hge := s.ge
  have hlen := b.len a
  have key : Ok (d_nearest_tree [nD many, .tuple (ps.map sgE)]) fun d => d = if f.length < many then .none else ntD (nearT many ps f) := by
    unfold d_nearest_tree b_nearest_tree env0
    refine Ok_fin (Ok_seq ?_)
    simp [need_sg s]
    refine Ok_seq ?_
    have e2 : d_distances [.tuple (ps.map sgE), .int 0, .list []] = .ok (.dict (g.map pD)) := e1
    simp [e2]
    refine Ok_seq ?_
    by_cases hl : f.length < many
    · simp [lenK_n, hlen, hl]
    · have hl' : ¬ g.length < many := by omega
      simp [lenK_n, hl']
      rw [if_neg hl]
      refine Ok_seq ?_
      simp
      refine Ok_seq ?_
      have hr : rng2 [.int 1, nD many] = some ((List.range' 1 (many - 1)).map nD) := rng2_lit (.int 1) 1 many rfl (by omega) (by omega)
      simp [hr]
      have ho : ∀ (l : List Nat) (v w : Option D), ownL [some (nD many), some (.tuple (ps.map sgE)), some (.dict (g.map pD)), some (nlD l), v, w] 3 = some (l.map nD) := fun _ _ _ => rfl
      refine Ok_forL nD (List.range' 1 (many - 1)) (fun i e => ∃ v, e = [some (nD many), some (.tuple (ps.map sgE)), some (.dict (g.map pD)), some (nlD ((List.range' 1 i).map (upOf ps f))), v, none]) ⟨none, rfl⟩ (fun i h e hh hI => ?_) fun e hI => ?_
      · obtain ⟨v, rfl⟩ := hI
        obtain ⟨rfl, hi⟩ := getR' hh
        refine ⟨_, rfl, ?_⟩
        obtain ⟨l, hu⟩ := ups_ne s a hl (show 1 ≤ 1 + i by omega) (by omega)
        have hcomp : compD (seqI (callP d_seen_from (consA (varD 1) (consA (varD 4) nilA)))) [5] (bName 5) (tstD (op2 eqD (op2 dgetD (varD 2) (varD 5)) (op2 subD (op2 dgetD (varD 2) (varD 4)) (cD (.int 1))))) (varD 5) [some (nD many), some (.tuple (ps.map sgE)), some (.dict (g.map pD)), some (nlD ((List.range' 1 i).map (upOf ps f))), some (nD (1 + i)), none] = .ok (.list ((upsL ps f (1 + i)).map nD), [some (nD many), some (.tuple (ps.map sgE)), some (.dict (g.map pD)), some (nlD ((List.range' 1 i).map (upOf ps f))), some (nD (1 + i)), none]) := by
          have hi2 : itemsOf (nlD (nbr ps (1 + i))) = some ((nbr ps (1 + i)).map nD) := rfl
          have := nbr_len ps (1 + i)
          refine of_Ok (Ok_compP nD (fun o => decide ((valN f o : Int) = (valN f (1 + i) : Int) - 1)) nD (nbr ps (1 + i)) ?_ (by omega) (fun o ho => ?_) rfl rfl)
          · simp [seen_n s (.inl rfl : IsC (.tuple (ps.map sgE)) ps) (show 1 + i < 8 by omega), hi2]
          · refine ⟨_, rfl, ?_, fun _ => by simp, rfl⟩
            have k1 : o ∈ g.map (·.1) := b.all s hl' (s.lt ho).1
            have k2 : 1 + i ∈ g.map (·.1) := b.all s hl' (by omega)
            have v1 := dget_valN b.nd k1
            have v2 := dget_valN b.nd k2
            rw [b.valsame a k1] at v1
            rw [b.valsame a k2] at v2
            simp [v1, v2]
        have hi0 : idxD (.list ((upsL ps f (1 + i)).map nD)) (.int 0) = some (nD (upOf ps f (1 + i))) := by
          rw [hu]
          exact idx_l (k := 0) rfl rfl
        have hset : ∀ v : Option D, [some (nD many), some (.tuple (ps.map sgE)), some (.dict (g.map pD)), some (nlD ((List.range' 1 i).map (upOf ps f))), v, none].set 4 (some (nD (1 + i))) = [some (nD many), some (.tuple (ps.map sgE)), some (.dict (g.map pD)), some (nlD ((List.range' 1 i).map (upOf ps f))), some (nD (1 + i)), none] := fun _ => rfl
        rw [hset]
        simp only [ev_appS, ev_op2, ho, lift_some, bind_ok, hcomp, ev_cD, hi0]
        rw [if_pos (by simp; omega)]
        refine ⟨_, rfl, rfl, some (nD (1 + i)), ?_⟩
        have e3 : List.range' 1 (i + 1) = List.range' 1 i ++ [1 + i] := by rw [List.range'_1_concat]
        rw [e3]
        simp [nlD]
      · obtain ⟨v, rfl⟩ := hI
        simp [tupleD, nlD]
        simp [ntD, nearT]
  obtain ⟨d, e, rfl⟩ := key
  exact e
theorem isof_T (s : Sg many ps) {t : List Nat} (hl : t.length = many - 1) (h : d_is_tree [ntD t] = .ok (.bool true)) : d_is_of [nD many, .tuple (ps.map sgE), ntD t] = .ok (.bool ((List.range t.length).all fun k => decide ((min (k + 1) (t.getD k 0), max (k + 1) (t.getD k 0)) ∈ ps))) := by
  have hge := s.ge
  have hle := s.le
  have key : Ok (d_is_of [nD many, .tuple (ps.map sgE), ntD t]) fun d => d = .bool ((List.range t.length).all fun k => decide ((min (k + 1) (t.getD k 0), max (k + 1) (t.getD k 0)) ∈ ps)) := by
    unfold d_is_of b_is_of env0
    refine Ok_fin (Ok_seq ?_)
    simp [need_sg s]
    refine Ok_seq ?_
    have hne : (t.length : Int) = (many : Int) - 1 := by omega
    simp [h, hne]
    have hen : enumT [ntD t] = some ((List.range t.length).map fun k => .tuple [nD k, nD (t.getD k 0)]) := by
      show some (enumL (t.map nD)) = _
      rw [enum_l, List.length_map]
      congr 1
      refine List.map_congr_left fun k hk => ?_
      simp at hk
      simp [hk]
    refine Ok_compY (fun k => .tuple [nD k, nD (t.getD k 0)]) (fun k => .bool (decide ((min (k + 1) (t.getD k 0), max (k + 1) (t.getD k 0)) ∈ ps))) (List.range t.length) (by simp [hen]) (by simp; omega) (fun k hk => ⟨_, rfl, ?_, rfl⟩) rfl ?_
    · have h1 : inD (.tuple [nD (min (k + 1) (t.getD k 0)), nD (max (k + 1) (t.getD k 0))]) (.tuple (ps.map sgE)) = some (.bool (decide ((min (k + 1) (t.getD k 0), max (k + 1) (t.getD k 0)) ∈ ps))) := IsC.inD (.inl rfl : IsC (.tuple (ps.map sgE)) ps) (min (k + 1) (t.getD k 0), max (k + 1) (t.getD k 0))
      generalize t.getD k 0 = x at *
      have ha : addD (nD k) (.int 1) = some (nD (k + 1)) := rfl
      simp only [ev_op2, ev_tupD, ev_consA, ev_opN, ev_varD, ev_cD, ev_nilA]
      simp [ha, minD_n, maxD_2, h1]
    · rw [allD_map]
      simp
  obtain ⟨d, e, rfl⟩ := key
  exact e
end
end Hz

namespace Hz
open PySem PySem.Spec PyProof.Rows L2
section
variable {many : Nat} {ps : List (Nat × Nat)} {f f' fr : List (Nat × Nat)}
def noP (p : Nat × Nat) (ps : List (Nat × Nat)) : List (Nat × Nat) := ps.filter fun q => !decide (q = p)
theorem noP_sub (p : Nat × Nat) (ps : List (Nat × Nat)) : List.Sublist (noP p ps) ps := List.filter_sublist
theorem adj_noP {p : Nat × Nat} {g h : Nat} : adjS (noP p ps) g h ↔ adjS ps g h ∧ (min g h, max g h) ≠ p := by
  unfold adjS
  rw [mem_nbr, mem_nbr]
  unfold noP
  rw [List.mem_filter]
  simp only [Bool.not_eq_true', decide_eq_false_iff_not]
  constructor
  · rintro ⟨a, ⟨b, c⟩, d⟩
    exact ⟨⟨a, b, d⟩, c⟩
  · rintro ⟨⟨a, b, d⟩, c⟩
    exact ⟨a, ⟨b, c⟩, d⟩
theorem kid_key {adj : Nat → Nat → Prop} (a : Dist adj noB f) {g h : Nat} (hg : g ∈ f.map (·.1)) (ha : adj g h) : h ∈ f.map (·.1) := by
  obtain ⟨m, hm⟩ := mem_keys.mp hg
  obtain ⟨m', hm', _⟩ := a.kid g m h hm ha (by simp)
  exact mem_keys.mpr ⟨m', hm'⟩
noncomputable def cutH (s : Sg many ps) (h : Nat) : List (Nat × Nat) := Classical.choose (distances_n s (.inl rfl : IsC (.tuple (ps.map sgE)) ps) [h])
theorem cutH_ok (s : Sg many ps) (h : Nat) : d_distances [.tuple (ps.map sgE), .int 0, nlD [h]] = .ok (.dict ((cutH s h).map pD)) ∧ Dist (adjS ps) (· ∈ [h]) (cutH s h) := by
  have := Classical.choose_spec (distances_n s (.inl rfl : IsC (.tuple (ps.map sgE)) ps) [h])
  exact ⟨this.1, this.2.1⟩
noncomputable def cutP (s : Sg many ps) (p : Nat × Nat) : List (Nat × Nat) := Classical.choose (distances_n (s.sub (noP_sub p ps)) (.inr rfl : IsC (.list ((noP p ps).map sgE)) (noP p ps)) [])
theorem cutP_ok (s : Sg many ps) (p : Nat × Nat) : d_distances [.list ((noP p ps).map sgE), .int 0, .list []] = .ok (.dict ((cutP s p).map pD)) ∧ Dist (adjS (noP p ps)) noB (cutP s p) := by
  have := Classical.choose_spec (distances_n (s.sub (noP_sub p ps)) (.inr rfl : IsC (.list ((noP p ps).map sgE)) (noP p ps)) [])
  exact ⟨this.1, this.2.1⟩
noncomputable def ndH (s : Sg many ps) (f : List (Nat × Nat)) (h : Nat) : Bool := decide (h ∈ f.map (·.1)) && decide ((cutH s h).length < f.length - 1)
noncomputable def ndP (s : Sg many ps) (f : List (Nat × Nat)) (p : Nat × Nat) : Bool := decide ((cutP s p).length < f.length)
theorem needed_hills_n (s : Sg many ps) (a : Dist (adjS ps) noB f) : d_needed_hills [nD many, .tuple (ps.map sgE)] = .ok (nlD ((List.range' 1 (many - 1)).filter (ndH s f))) := by
  obtain ⟨g, e1, b, _⟩ := distances_n s (.inl rfl : IsC (.tuple (ps.map sgE)) ps) []
  have hle := s.le
  have hge := s.ge
  have hlen := b.len a
  have key : Ok (d_needed_hills [nD many, .tuple (ps.map sgE)]) fun d => d = nlD ((List.range' 1 (many - 1)).filter (ndH s f)) := by
    unfold d_needed_hills b_needed_hills env0
    refine Ok_fin (Ok_seq ?_)
    simp [need_sg s]
    refine Ok_seq ?_
    have e2 : d_distances [.tuple (ps.map sgE), .int 0, .list []] = .ok (.dict (g.map pD)) := e1
    simp [e2]
    refine Ok_seq ?_
    simp
    refine Ok_seq ?_
    have hr : rng2 [.int 1, nD many] = some ((List.range' 1 (many - 1)).map nD) := rng2_lit (.int 1) 1 many rfl (by omega) (by omega)
    simp [hr]
    have ho : ∀ (l : List Nat) (v : Option D), ownL [some (nD many), some (.tuple (ps.map sgE)), some (.dict (g.map pD)), some (nlD l), v] 3 = some (l.map nD) := fun _ _ => rfl
    refine Ok_forL nD (List.range' 1 (many - 1)) (fun i e => ∃ v, e = [some (nD many), some (.tuple (ps.map sgE)), some (.dict (g.map pD)), some (nlD ((List.range' 1 i).filter (ndH s f))), v]) ⟨none, rfl⟩ (fun i h e hh hI => ?_) fun e hI => ?_
    · obtain ⟨v, rfl⟩ := hI
      obtain ⟨rfl, hi⟩ := getR' hh
      refine ⟨_, rfl, ?_⟩
      have hd : d_distances [.tuple (ps.map sgE), .int 0, .list [nD (1 + i)]] = .ok (.dict ((cutH s (1 + i)).map pD)) := (cutH_ok s (1 + i)).1
      have hk : dinD (nD (1 + i)) (.dict (g.map pD)) = some (.bool (decide (1 + i ∈ f.map (·.1)))) := by
        rw [din_n]
        congr 2
        exact decide_eq_decide.mpr (b.keys a (1 + i))
      have l1 := lenK_n (cutH s (1 + i))
      have l2 := lenK_n g
      rw [hlen] at l2
      have hfl : ((List.range' 1 i).filter (ndH s f)).length ≤ i := by
        refine Nat.le_trans (List.length_filter_le _ _) ?_
        simp
      have hpos : 1 ≤ f.length := List.length_pos_of_mem a.z
      have e3 : List.range' 1 (i + 1) = List.range' 1 i ++ [1 + i] := by rw [List.range'_1_concat]
      rw [e3, List.filter_append]
      generalize hZ : (List.range' 1 i).filter (ndH s f) = Z at *
      by_cases h1 : 1 + i ∈ f.map (·.1)
      · rw [decide_eq_true h1] at hk
        by_cases h2 : (cutH s (1 + i)).length < f.length - 1
        · have hn : ndH s f (1 + i) = true := by
            unfold ndH
            rw [decide_eq_true h1, decide_eq_true h2]
            rfl
          have h3 : ((cutH s (1 + i)).length : Int) < (f.length : Int) - 1 := by omega
          have hfs : [1 + i].filter (ndH s f) = [1 + i] := by simp [hn]
          rw [hfs]
          generalize hPT : PyData.tuple (ps.map sgE) = PT at *
          simp [hk, hd, l1, l2, h3, ho]
          rw [if_pos (by omega)]
          simp [nlD]
        · have hn : ndH s f (1 + i) = false := by
            unfold ndH
            rw [decide_eq_false h2, Bool.and_false]
          have h3 : ¬ ((cutH s (1 + i)).length : Int) < (f.length : Int) - 1 := by omega
          have hfs : [1 + i].filter (ndH s f) = [] := by simp [hn]
          rw [hfs, List.append_nil]
          generalize hPT : PyData.tuple (ps.map sgE) = PT at *
          simp [hk, hd, l1, l2, h3]
      · rw [decide_eq_false h1] at hk
        have hn : ndH s f (1 + i) = false := by
          unfold ndH
          rw [decide_eq_false h1, Bool.false_and]
        have hfs : [1 + i].filter (ndH s f) = [] := by simp [hn]
        rw [hfs, List.append_nil]
        simp [hk]
    · obtain ⟨v, rfl⟩ := hI
      rw [List.length_range']
      simp
  obtain ⟨d, e, rfl⟩ := key
  exact e
theorem ne_sg (p q : Nat × Nat) : neD (sgE p) (sgE q) = some (.bool (!decide (p = q))) := by
  rw [neD_dep (dep_sg 8 p) (dep_sg 8 q), eqv_sg]
theorem needed_sights_n (s : Sg many ps) (a : Dist (adjS ps) noB f) : d_needed_sights [nD many, .tuple (ps.map sgE)] = .ok (.list ((ps.filter (ndP s f)).map sgE)) := by
  obtain ⟨g, e1, b, _⟩ := distances_n s (.inl rfl : IsC (.tuple (ps.map sgE)) ps) []
  have hlen := b.len a
  have hpl := s.len
  have key : Ok (d_needed_sights [nD many, .tuple (ps.map sgE)]) fun d => d = .list ((ps.filter (ndP s f)).map sgE) := by
    unfold d_needed_sights b_needed_sights env0
    refine Ok_fin (Ok_seq ?_)
    simp [need_sg s]
    refine Ok_seq ?_
    have e2 : d_distances [.tuple (ps.map sgE), .int 0, .list []] = .ok (.dict (g.map pD)) := e1
    have l2 := lenK_n g
    rw [hlen] at l2
    simp [e2, l2]
    refine Ok_compP sgE (ndP s f) sgE ps (by simp [itemsOf]) (by omega) (fun p hp => ⟨_, rfl, ?_, fun _ => by simp, rfl⟩) rfl rfl
    have hcomp : compD (seqI (varD 1)) [4] (bName 4) (tstD (op2 neD (varD 4) (varD 3))) (varD 4) [some (nD many), some (.tuple (ps.map sgE)), some (nD f.length), some (sgE p), none] = .ok (.list ((noP p ps).map sgE), [some (nD many), some (.tuple (ps.map sgE)), some (nD f.length), some (sgE p), none]) := by
      refine of_Ok (Ok_compP sgE (fun q => !decide (q = p)) sgE ps (by simp [itemsOf]) (by omega) (fun q hq => ⟨_, rfl, by simp [ne_sg], fun _ => by simp, rfl⟩) rfl rfl)
    have hd := (cutP_ok s p).1
    have l1 := lenK_n (cutP s p)
    generalize hPT : PyData.tuple (ps.map sgE) = PT at *
    generalize hPL : PyData.list ((noP p ps).map sgE) = PL at *
    simp only [ev_tstD, ev_op2, ev_opN, ev_consA, ev_callP, ev_varD, ev_cD, ev_lstD, ev_nilA, ev_wipe1, ev_wipe0]
    simp [hcomp, hd, l1, ndP]
  obtain ⟨d, e, rfl⟩ := key
  exact e
end
end Hz

namespace Hz
open PySem PySem.Spec PyProof.Rows L2
/-! trees of sights -/
structure Of (many : Nat) (ps : List (Nat × Nat)) (t : List Nat) : Prop where
  T : IsTree t
  len : t.length + 1 = many
  adj : ∀ h, 1 ≤ h → h < many → adjS ps (up t h) h
def edge (t : List Nat) (h : Nat) : Nat × Nat := (min (up t h) h, max (up t h) h)
theorem full_len {many : Nat} {f : List (Nat × Nat)} (h : ∀ x, x < many → x ∈ f.map (·.1)) : many ≤ f.length := by
  have := len_sub (l := List.range many) (m := f.map (·.1)) List.nodup_range fun x hx => h x (List.mem_range.mp hx)
  simpa using this
section
variable {many : Nat} {ps qs : List (Nat × Nat)} {f f' fr : List (Nat × Nat)} {t : List Nat}
theorem Of.ind (o : Of many ps t) (P : Nat → Prop) (h0 : P 0) (st : ∀ h, 1 ≤ h → h < many → P (up t h) → P h) {h : Nat} (hh : h < many) : P h := by
  have hl := o.len
  obtain ⟨n, -, hn, -⟩ := o.T.far (show h ≤ t.length by omega)
  induction n generalizing h with
  | zero =>
    by_cases z : h = 0
    · rw [z]; exact h0
    · obtain ⟨_, e, _⟩ := o.T.par (show 1 ≤ h by omega) hn
      omega
  | succ n ih =>
    by_cases z : h = 0
    · rw [z]; exact h0
    · obtain ⟨n', e, e2⟩ := o.T.par (show 1 ≤ h by omega) hn
      have : n' = n := by omega
      subst this
      have := up_le o.T.le h
      exact st h (by omega) hh (ih (by omega) e2)
theorem Of.lt (o : Of many ps t) {h : Nat} (hh : h < many) : up t h < many := by
  have := up_le o.T.le h
  have := o.len
  omega
theorem Of.near (o : Of many ps t) (a : Dist (adjS ps) noB f) {h : Nat} (hh : h < many) : ∀ n, farN t (t.length + 1) h = some n → ∃ m, m ≤ n ∧ (h, m) ∈ f := by
  have hl := o.len
  refine o.ind (fun h => ∀ n, farN t (t.length + 1) h = some n → ∃ m, m ≤ n ∧ (h, m) ∈ f) (fun n hn => ⟨0, Nat.zero_le _, a.z⟩) (fun h h1 h2 ih n hn => ?_) hh
  obtain ⟨n', rfl, e2⟩ := o.T.par h1 hn
  obtain ⟨m, h3, h4⟩ := ih n' e2
  obtain ⟨m', h5, h6⟩ := a.kid _ m h h4 (o.adj h h1 h2) (by simp)
  exact ⟨m', by omega, h5⟩
theorem Of.far_ge (o : Of many ps t) (a : Dist (adjS ps) noB f) {h n : Nat} (hh : h < many) (e : farN t (t.length + 1) h = some n) : valN f h ≤ n := by
  obtain ⟨m, h1, h2⟩ := o.near a hh n e
  rw [valN_mem a.nd h2]
  exact h1
theorem Of.keys (o : Of many ps t) (a : Dist (adjS ps) noB f) {h : Nat} (hh : h < many) : h ∈ f.map (·.1) := by
  have hl := o.len
  obtain ⟨n, _, hn, _⟩ := o.T.far (show h ≤ t.length by omega)
  obtain ⟨m, _, h2⟩ := o.near a hh n hn
  exact mem_keys.mpr ⟨m, h2⟩
theorem Of.needP (o : Of many ps t) (s : Sg many ps) (a : Dist (adjS ps) noB f) {p : Nat × Nat} (hp : p ∈ ps) (b : Dist (adjS (noP p ps)) noB fr) (hlt : fr.length < f.length) : up t p.2 = p.1 ∨ (1 ≤ p.1 ∧ up t p.1 = p.2) := by
  refine Classical.byContradiction fun hn => ?_
  rw [not_or] at hn
  obtain ⟨n1, n2⟩ := hn
  have hs := s.ok p hp
  have := full_len (f := fr) fun x hx => o.ind (fun x => x ∈ fr.map (·.1)) (mem_keys.mpr ⟨0, b.z⟩) (fun h h1 h2 ih => kid_key b ih (adj_noP.mpr ⟨o.adj h h1 h2, fun e => ?_⟩)) hx
  · have := a.lenle s
    omega
  · rcases Nat.le_total (up t h) h with z | z
    · rw [Nat.min_eq_left z, Nat.max_eq_right z] at e
      rw [← e] at n1
      exact n1 rfl
    · rw [Nat.min_eq_right z, Nat.max_eq_left z] at e
      rw [← e] at n2
      exact n2 ⟨h1, rfl⟩
theorem Of.leafH (o : Of many ps t) {h : Nat} (hk : ∀ x, 1 ≤ x → x < many → up t x ≠ h) (b : Dist (adjS ps) (· ∈ [h]) f') : many - 1 ≤ f'.length := by
  have h1 : ∀ x, x < many → x = h ∨ x ∈ f'.map (·.1) := fun x hx => o.ind (fun x => x = h ∨ x ∈ f'.map (·.1)) (.inr (mem_keys.mpr ⟨0, b.z⟩)) (fun x h1 h2 ih => by
    by_cases z : x = h
    · exact .inl z
    · obtain ⟨n, hn⟩ := mem_keys.mp (ih.resolve_left (hk x h1 h2))
      obtain ⟨m, hm, _⟩ := b.kid _ n x hn (o.adj x h1 h2) (by simpa using z)
      exact .inr (mem_keys.mpr ⟨m, hm⟩)) hx
  have := len_sub (l := List.range many) (m := h :: f'.map (·.1)) List.nodup_range fun x hx => by
    rcases h1 x (List.mem_range.mp hx) with z | z
    · rw [z]; exact List.mem_cons_self
    · exact List.mem_cons_of_mem _ z
  simp at this
  omega
theorem Of.no_leaf (o : Of many ps t) (s : Sg many ps) (a : Dist (adjS ps) noB f) {h : Nat} (hn : ndH s f h = true) : h ∉ leavesN t := fun hl => by
  unfold ndH at hn
  rw [Bool.and_eq_true, decide_eq_true_eq, decide_eq_true_eq] at hn
  unfold leavesN at hl
  have hb := of_decide_eq_true (List.mem_filter.mp hl).2
  have := o.leafH (h := h) (fun x h1 h2 e => by
    have hm : x ∈ belowN t h := below_mem.mpr ⟨h1, by have := o.len; omega, e⟩
    rw [hb] at hm
    cases hm) (cutH_ok s h).2
  have := a.lenle s
  omega
theorem near_of (s : Sg many ps) (a : Dist (adjS ps) noB f) (hl : ¬ f.length < many) : Of many ps (nearT many ps f) := by
  have hge := s.ge
  refine ⟨nearT_tree s a hl, by rw [nearT_len]; omega, fun h h1 h2 => ?_⟩
  rw [nearT_up s h1 h2]
  exact nbr_sym s (upOf_in s a hl h1 h2).1
/-! ### the sights of a tree alone -/
theorem Of.ne_up (o : Of many ps t) {h : Nat} (h1 : 1 ≤ h) (h2 : h < many) : up t h ≠ h ∧ ¬ (1 ≤ up t h ∧ up t (up t h) = h) := by
  have hl := o.len
  obtain ⟨n, _, hn, _⟩ := o.T.far (show h ≤ t.length by omega)
  obtain ⟨m, rfl, hm⟩ := o.T.par h1 hn
  refine ⟨fun e => ?_, fun ⟨z, e⟩ => ?_⟩
  · rw [e, hn] at hm
    cases hm
  · obtain ⟨k, rfl, hk⟩ := o.T.par z hm
    rw [e, hn] at hk
    cases hk
theorem Of.edge_inj (o : Of many ps t) {g h : Nat} (g1 : 1 ≤ g) (g2 : g < many) (h1 : 1 ≤ h) (h2 : h < many) (e : edge t g = edge t h) : g = h := by
  unfold edge at e
  have e1 := congrArg Prod.fst e
  have e2 := congrArg Prod.snd e
  simp only at e1 e2
  refine Classical.byContradiction fun z => ?_
  have a1 : up t g = h := by omega
  have a2 : up t h = g := by omega
  exact (o.ne_up g1 g2).2 ⟨by omega, by rw [a1, a2]⟩
structure Only (many : Nat) (qs : List (Nat × Nat)) (t : List Nat) : Prop where
  s : Sg many qs
  all : ∀ h, 1 ≤ h → h < many → edge t h ∈ qs
  one : ∀ q ∈ qs, ∃ h, 1 ≤ h ∧ h < many ∧ q = edge t h
theorem Only.of (o : Of many ps t) (q : Only many qs t) : Of many qs t := ⟨o.T, o.len, fun h h1 h2 => mem_nbr.mpr ⟨by have := q.s.le; omega, q.all h h1 h2, fun e => (o.ne_up h1 h2).1 e.symm⟩⟩
theorem Only.adj (q : Only many qs t) {g h : Nat} (a : adjS qs g h) : (1 ≤ h ∧ h < many ∧ up t h = g) ∨ (1 ≤ g ∧ g < many ∧ up t g = h) := by
  obtain ⟨h1, h2, h3⟩ := mem_nbr.mp a
  obtain ⟨x, x1, x2, e⟩ := q.one _ h2
  unfold edge at e
  have e1 := congrArg Prod.fst e
  have e2 := congrArg Prod.snd e
  simp only at e1 e2
  by_cases z : x = h
  · subst z
    exact .inl ⟨x1, x2, by omega⟩
  · have : x = g := by omega
    subst this
    exact .inr ⟨x1, x2, by omega⟩
theorem Only.far (o : Of many ps t) (q : Only many qs t) (b : Dist (adjS qs) noB fr) : ∀ n h, (h, n) ∈ fr → farN t (t.length + 1) h = some n := by
  have o2 := q.of o
  have hl := o.len
  intro n
  induction n using Nat.strongRecOn with
  | ind n ih =>
    intro h hm
    rcases b.par h n hm with ⟨rfl, rfl⟩ | ⟨g, m, hg, rfl, ha, _⟩
    · exact farN_zero _
    · have e := ih m (by omega) g hg
      rcases q.adj ha with ⟨h1, h2, h3⟩ | ⟨h1, h2, h3⟩
      · exact o.T.kid h1 (by omega) (by rw [h3]; exact e)
      · obtain ⟨m', rfl, e'⟩ := o.T.par h1 e
        rw [h3] at e'
        have hh : h < many := by rw [← h3]; exact o.lt h2
        obtain ⟨k, k1, k2⟩ := o2.near b hh m' e'
        have := nd_val b.nd hm k2
        omega
theorem Only.near (o : Of many ps t) (q : Only many qs t) (b : Dist (adjS qs) noB fr) (hl : ¬ fr.length < many) : nearT many qs fr = t := by
  have ol := o.len
  have o2 := q.of o
  refine List.ext_getElem? fun i => ?_
  by_cases hi : i < many - 1
  · have e1 : (nearT many qs fr)[i]? = some (upOf qs fr (1 + i)) := by
      unfold nearT
      rw [List.getElem?_map, List.getElem?_range' hi]
      simp
    have e2 : t[i]? = some (up t (i + 1)) := by
      have := up_get (t := t) (h := i + 1) (by omega) (by omega)
      simpa using this
    rw [e1, e2, Nat.add_comm 1 i]
    obtain ⟨u1, u2⟩ := upOf_in q.s b hl (show 1 ≤ i + 1 by omega) (by omega)
    have hk := q.adj (show adjS qs (i + 1) (upOf qs fr (i + 1)) from u1)
    rcases hk with ⟨h1, h2, h3⟩ | ⟨h1, h2, h3⟩
    · have f1 := q.far o b _ _ (mem_valN b.nd (o2.keys b h2))
      have f2 := q.far o b _ _ (mem_valN b.nd (o2.keys b (show i + 1 < many by omega)))
      obtain ⟨m, e, e'⟩ := o.T.par h1 f1
      rw [h3, f2] at e'
      cases e'
      omega
    · rw [h3]
  · rw [List.getElem?_eq_none (by rw [nearT_len]; omega), List.getElem?_eq_none (by omega)]
def Sub (t : List Nat) (c x : Nat) : Prop := ∃ k, upN t k x = c
theorem sub_zero {c : Nat} (hc : 1 ≤ c) : ¬ Sub t c 0 := fun ⟨k, e⟩ => by
  rw [upN_zero] at e
  omega
theorem sub_up {c x : Nat} (h : Sub t c (up t x)) : Sub t c x := by
  obtain ⟨k, e⟩ := h
  exact ⟨k + 1, e⟩
theorem sub_down {c x : Nat} (h : Sub t c x) (n : x ≠ c) : Sub t c (up t x) := by
  obtain ⟨k, e⟩ := h
  cases k with
  | zero => exact absurd e n
  | succ k => exact ⟨k, e⟩
theorem Only.needP (o : Of many ps t) (q : Only many qs t) (b : Dist (adjS qs) noB fr) {p : Nat × Nat} (hp : p ∈ qs) : ndP q.s fr p = true := by
  have o2 := q.of o
  obtain ⟨c, c1, c2, rfl⟩ := q.one p hp
  unfold ndP
  rw [decide_eq_true_eq]
  have d := (cutP_ok q.s (edge t c)).2
  generalize cutP q.s (edge t c) = g at *
  have hf := full_len fun x hx => o2.keys b hx
  have hc : c ∉ g.map (·.1) := fun hc => by
    obtain ⟨n, hn⟩ := mem_keys.mp hc
    refine d.ind (fun x => ¬ Sub t c x) (sub_zero c1) (fun g x h1 h2 _ h3 => ?_) n c hn ⟨0, rfl⟩
    obtain ⟨a1, a2⟩ := adj_noP.mp h2
    rcases q.adj a1 with ⟨x1, x2, x3⟩ | ⟨x1, x2, x3⟩
    · by_cases z : x = c
      · subst z
        subst x3
        exact a2 rfl
      · have := sub_down h3 z
        rw [x3] at this
        exact h1 this
    · rw [← x3] at h3
      exact h1 (sub_up h3)
  have := nodup_le many (c :: g.map (·.1)) (List.nodup_cons.mpr ⟨hc, d.nd⟩) fun x hx => by
    rcases List.mem_cons.mp hx with z | z
    · rw [z]; exact c2
    · exact d.ltk (q.s.sub (noP_sub _ _)) z
  simp at this
  omega
theorem Only.needH (o : Of many ps t) (q : Only many qs t) (b : Dist (adjS qs) noB fr) {h : Nat} (h1 : 1 ≤ h) (h2 : h < many) : ndH q.s fr h = !decide (h ∈ leavesN t) := by
  have o2 := q.of o
  have ol := o.len
  have hf := full_len fun x hx => o2.keys b hx
  by_cases z : h ∈ leavesN t
  · rw [decide_eq_true z]
    cases e : ndH q.s fr h with
    | false => rfl
    | true => exact absurd z (o2.no_leaf q.s b e)
  · rw [decide_eq_false z]
    have hb : belowN t h ≠ [] := fun e => z (by
      unfold leavesN
      rw [List.mem_filter, List.mem_range'_1]
      exact ⟨by omega, decide_eq_true e⟩)
    obtain ⟨c, l, e⟩ := List.exists_cons_of_ne_nil hb
    obtain ⟨c1, c2, c3⟩ := below_mem.mp (show c ∈ belowN t h by rw [e]; exact List.mem_cons_self)
    unfold ndH
    rw [decide_eq_true (o2.keys b h2), Bool.true_and]
    show decide _ = true
    rw [decide_eq_true_eq]
    have d := (cutH_ok q.s h).2
    generalize cutH q.s h = g at *
    have key : ∀ x, x ∈ g.map (·.1) → ¬ Sub t c x ∧ x ≠ h := fun x hx => by
      obtain ⟨n, hn⟩ := mem_keys.mp hx
      refine d.ind (fun x => ¬ Sub t c x ∧ x ≠ h) ⟨sub_zero c1, by omega⟩ (fun g x h1 h2 hb => ⟨fun h3 => ?_, by simpa using hb⟩) n x hn
      rcases q.adj h2 with ⟨x1, x2, x3⟩ | ⟨x1, x2, x3⟩
      · by_cases z : x = c
        · subst z
          exact h1.2 (x3.symm.trans c3)
        · have := sub_down h3 z
          rw [x3] at this
          exact h1.1 this
      · rw [← x3] at h3
        exact h1.1 (sub_up h3)
    have hch : c ≠ h := fun e => (o.ne_up c1 (by omega)).1 (c3.trans e.symm)
    have := nodup_le many (c :: h :: g.map (·.1)) (List.nodup_cons.mpr ⟨fun z => by
        rcases List.mem_cons.mp z with z | z
        · exact hch z
        · exact (key c z).1 ⟨0, rfl⟩, List.nodup_cons.mpr ⟨fun z => (key h z).2 rfl, d.nd⟩⟩) fun x hx => by
      rcases List.mem_cons.mp hx with z | z
      · rw [z]; omega
      · rcases List.mem_cons.mp z with z | z
        · rw [z]; exact h2
        · exact d.ltk q.s z
    simp at this
    omega
end
end Hz

namespace Hz
open PySem PySem.Spec PyProof.Rows L2
/-! a tree grown hill by hill: whom each new hill was put below -/
def metL (l : List (Nat × Nat)) : List Nat := 0 :: l.map (·.1)
structure Gwn (ps l : List (Nat × Nat)) : Prop where
  nd : (metL l).Nodup
  par : ∀ i e, l[i]? = some e → adjS ps e.2 e.1 ∧ e.2 ∈ metL (l.take i)
def freeP (ps l : List (Nat × Nat)) (h : Nat) : List (Nat × Nat) := ((nbr ps h).filter fun o => !decide (o ∈ metL l)).map fun o => (h, o)
def tOf (many : Nat) (l : List (Nat × Nat)) : List Nat := (List.range' 1 (many - 1)).map (valN l)
section
variable {many : Nat} {ps l : List (Nat × Nat)} {f : List (Nat × Nat)}
theorem Gwn.nil : Gwn ps [] := ⟨by simp [metL], fun i e h => by simp at h⟩
theorem Gwn.add (w : Gwn ps l) {q : Nat × Nat} (hp : q.1 ∈ metL l) (ha : adjS ps q.1 q.2) (hc : q.2 ∉ metL l) : Gwn ps (l ++ [(q.2, q.1)]) := by
  refine ⟨?_, fun i e h => ?_⟩
  · have e : metL (l ++ [(q.2, q.1)]) = metL l ++ [q.2] := by simp [metL]
    rw [e, List.nodup_append]
    refine ⟨w.nd, by simp, fun a ha b hb => ?_⟩
    rw [List.mem_singleton] at hb
    subst hb
    exact fun z => hc (z ▸ ha)
  · by_cases hi : i < l.length
    · rw [List.getElem?_append_left hi] at h
      rw [List.take_append_of_le_length (Nat.le_of_lt hi)]
      exact w.par i e h
    · have hl := lt_of_get h
      rw [List.length_append, List.length_singleton] at hl
      have : i = l.length := by omega
      subst this
      rw [List.getElem?_append_right (Nat.le_refl _), Nat.sub_self] at h
      cases h
      rw [List.take_append_of_le_length (Nat.le_refl _), List.take_length]
      exact ⟨ha, hp⟩
theorem free_mem {q : Nat × Nat} (h : q ∈ (metL l).flatMap (freeP ps l)) : q.1 ∈ metL l ∧ adjS ps q.1 q.2 ∧ q.2 ∉ metL l := by
  obtain ⟨x, hx, hq⟩ := List.mem_flatMap.mp h
  obtain ⟨o, ho, rfl⟩ := List.mem_map.mp hq
  obtain ⟨h1, h2⟩ := List.mem_filter.mp ho
  exact ⟨hx, h1, by simpa using h2⟩
theorem free_ne (a : Dist (adjS ps) noB f) (hf : ¬ f.length < many) (hl : l.length + 1 < many) : (metL l).flatMap (freeP ps l) ≠ [] := fun e => by
  have h := a.ind (· ∈ metL l) List.mem_cons_self (fun g x hg ha _ => Classical.byContradiction fun hn => by
    have : (g, x) ∈ (metL l).flatMap (freeP ps l) := List.mem_flatMap.mpr ⟨g, hg, List.mem_map.mpr ⟨x, List.mem_filter.mpr ⟨ha, by simpa using hn⟩, rfl⟩⟩
    rw [e] at this
    cases this)
  have := len_sub (l := f.map (·.1)) (m := metL l) a.nd fun x hx => by
    obtain ⟨n, hn⟩ := mem_keys.mp hx
    exact h n x hn
  simp [metL] at this
  omega
theorem Gwn.lt (s : Sg many ps) (w : Gwn ps l) {h : Nat} (hh : h ∈ metL l) : h < many := by
  rcases List.mem_cons.mp hh with z | z
  · rw [z]
    have := s.ge
    omega
  · obtain ⟨e, he, rfl⟩ := List.mem_map.mp z
    obtain ⟨i, hi⟩ := List.mem_iff_getElem?.mp he
    exact (s.lt (w.par i e hi).1).1
theorem Gwn.few (s : Sg many ps) (w : Gwn ps l) : l.length + 1 ≤ many := by
  have := nodup_le many (metL l) w.nd fun x hx => w.lt s hx
  simpa [metL] using this
section
variable (s : Sg many ps) (w : Gwn ps l) (hl : l.length + 1 = many)
include s w hl
theorem Gwn.all {h : Nat} (hh : h < many) : h ∈ metL l := Classical.byContradiction fun hn => by
  have := nodup_le many (h :: metL l) (List.nodup_cons.mpr ⟨hn, w.nd⟩) fun x hx => by
    rcases List.mem_cons.mp hx with z | z
    · rw [z]; exact hh
    · exact w.lt s z
  simp [metL] at this
  omega
theorem Gwn.key {h : Nat} (h1 : 1 ≤ h) (hh : h < many) : h ∈ l.map (·.1) := by
  rcases List.mem_cons.mp (w.all s hl hh) with z | z
  · omega
  · exact z
theorem Gwn.ndk : (l.map (·.1)).Nodup := (List.nodup_cons.mp w.nd).2
theorem Gwn.up {h : Nat} (h1 : 1 ≤ h) (h2 : h < many) : Hz.up (tOf many l) h = valN l h := by
  have : (tOf many l)[h - 1]? = some (valN l h) := by
    unfold tOf
    rw [List.getElem?_map, List.getElem?_range' (by omega)]
    simp [show 1 + (h - 1) = h by omega]
  have := up_at this
  rwa [show h - 1 + 1 = h by omega] at this
theorem Gwn.of : Of many ps (tOf many l) := by
  have hge := s.ge
  have hlen : (tOf many l).length = many - 1 := by simp [tOf]
  have ent : ∀ h, 1 ≤ h → h < many → ∃ i, l[i]? = some (h, valN l h) := fun h h1 h2 => List.mem_iff_getElem?.mp (mem_valN (w.ndk s hl) (w.key s hl h1 h2))
  refine ⟨⟨by omega, fun x hx => ?_, fun h => (metL l).idxOf h, fun h hh => ?_, fun k x hk => ?_⟩, by omega, fun h h1 h2 => ?_⟩
  · unfold tOf at hx
    obtain ⟨h, hh, rfl⟩ := List.mem_map.mp hx
    rw [List.mem_range'_1] at hh
    obtain ⟨i, hi⟩ := ent h (by omega) (by omega)
    have := (s.lt (w.par i _ hi).1).2
    rw [hlen]
    simp only at this
    omega
  · have := List.idxOf_lt_length_of_mem (w.all s hl (show h < many by omega))
    have e : (metL l).length = l.length + 1 := by simp [metL]
    show (metL l).idxOf h ≤ _
    omega
  · have hkl := lt_of_get hk
    have e1 := up_at hk
    rw [w.up s hl (by omega) (by omega)] at e1
    obtain ⟨i, hi⟩ := ent (k + 1) (by omega) (by omega)
    rw [e1] at hi
    have hp := (w.par i _ hi).2
    have hil := lt_of_get hi
    have m1 : metL l = metL (l.take i) ++ (l.drop i).map (·.1) := by
      unfold metL
      rw [List.cons_append, ← List.map_append, List.take_append_drop]
    have n1 : (metL (l.take i)).length = i + 1 := by
      simp [metL]
      omega
    have i1 : (metL l).idxOf x < i + 1 := by
      rw [m1, List.idxOf_append, if_pos hp, ← n1]
      exact List.idxOf_lt_length_of_mem hp
    have i2 : (metL l).idxOf (k + 1) = i + 1 := by
      have hg : (metL l)[i + 1]? = some (k + 1) := by
        show ((0 :: l.map (·.1)) : List Nat)[i + 1]? = _
        rw [List.getElem?_cons_succ, List.getElem?_map, hi]
        rfl
      obtain ⟨hlt, e⟩ := List.getElem?_eq_some_iff.mp hg
      have := List.Nodup.idxOf_getElem w.nd (i + 1) hlt
      rwa [e] at this
    show (metL l).idxOf x < (metL l).idxOf (k + 1)
    omega
  · rw [w.up s hl h1 h2]
    obtain ⟨i, hi⟩ := ent h h1 h2
    exact (w.par i _ hi).1
theorem Gwn.ent {e : Nat × Nat} (he : e ∈ l) : 1 ≤ e.1 ∧ e.1 < many ∧ e.2 = Hz.up (tOf many l) e.1 := by
  have h0 : e.1 ≠ 0 := fun z => (List.nodup_cons.mp w.nd).1 (by rw [← z]; exact List.mem_map_of_mem he)
  have h2 := w.lt s (List.mem_cons_of_mem 0 (List.mem_map_of_mem (f := (·.1)) he))
  refine ⟨by omega, h2, ?_⟩
  rw [w.up s hl (by omega) h2]
  exact (valN_mem (w.ndk s hl) (show (e.1, e.2) ∈ l from he)).symm
theorem Gwn.has {h : Nat} (h1 : 1 ≤ h) (h2 : h < many) : (h, Hz.up (tOf many l) h) ∈ l := by
  rw [w.up s hl h1 h2]
  exact mem_valN (w.ndk s hl) (w.key s hl h1 h2)
end
end
/-! what a dict holds, sorted -/
def ip (e : Nat × Nat) : Int × Int := ((e.1 : Int), (e.2 : Int))
def mm (e : Nat × Nat) : Nat × Nat := (min e.1 e.2, max e.1 e.2)
theorem prsK_n : ∀ l : List (Nat × Nat), prsK (l.map pD) = some (l.map ip)
  | [] => rfl
  | e :: l => by
    show (prsK (l.map pD)).map (((e.1 : Int), (e.2 : Int)) :: ·) = _
    rw [prsK_n l]
    rfl
theorem lookP_n {k v : Nat} : ∀ {l : List (Nat × Nat)}, (l.map (·.1)).Nodup → (lookP (l.map ip) (k : Int) = some (v : Int) ↔ (k, v) ∈ l)
  | [], _ => by simp [lookP]
  | e :: l, nd => by
    rw [List.map_cons, List.nodup_cons] at nd
    have ih := lookP_n (k := k) (v := v) nd.2
    rw [List.map_cons]
    unfold lookP
    obtain ⟨a, b⟩ := e
    by_cases z : a = k
    · subst z
      rw [if_pos (show (ip (a, b)).1 = (a : Int) from rfl)]
      simp only [ip, Option.some.injEq, List.mem_cons, Prod.mk.injEq, true_and]
      constructor
      · intro h
        exact .inl (by omega)
      · rintro (h | h)
        · rw [h]
        · exact absurd (List.mem_map_of_mem (f := (·.1)) h) nd.1
    · rw [if_neg (by simp only [ip]; omega), ih]
      simp [Ne.symm z]
theorem notIt_n {l : List (Nat × Nat)} (nd : (l.map (·.1)).Nodup) (k v : Nat) : notItD (sgE (k, v)) (.dict (l.map pD)) = some (.bool (!decide ((k, v) ∈ l))) := by
  show (prsK (l.map pD)).map (fun ns => PyData.bool (!(decide (lookP ns (k : Int) = some (v : Int))))) = _
  rw [prsK_n, Option.map_some, decide_eq_decide.mpr (lookP_n nd)]
def srtN (L : List (Nat × Nat)) : Prop := L.Pairwise fun p q => p.1 < q.1 ∨ p.1 = q.1 ∧ p.2 ≤ q.2
theorem sortPr_n (l : List (Nat × Nat)) : ∃ L : List (Nat × Nat), L.Perm l ∧ sortPr (l.map ip) = L.map ip ∧ srtN L := by
  obtain ⟨L, pL, eL⟩ := Hz.perm_lift (sortPr_perm (l.map ip)) l rfl
  refine ⟨L, pL, eL, ?_⟩
  have := sortPr_sorted (l.map ip)
  rw [eL, List.pairwise_map] at this
  refine this.imp fun {p q} h => ?_
  have := leP_iff.mp h
  simp only [ip] at this
  omega
theorem prsOf_n : ∀ l : List (Nat × Nat), prsOf (l.map sgE) = some (l.map ip)
  | [] => rfl
  | e :: l => by
    show (prOf (sgE e)).bind (fun p => (prsOf (l.map sgE)).bind fun r => some (p :: r)) = _
    rw [prsOf_n l]
    rfl
theorem ip_sg (L : List (Nat × Nat)) : (L.map ip).map prD = L.map sgE := by
  rw [List.map_map]
  rfl
theorem sortIt_n (l : List (Nat × Nat)) : ∃ L : List (Nat × Nat), L.Perm l ∧ sortItD (.dict (l.map pD)) = some (.list (L.map sgE)) := by
  obtain ⟨L, h1, h2, _⟩ := sortPr_n l
  refine ⟨L, h1, ?_⟩
  show (prsK (l.map pD)).map (fun ns => PyData.list ((sortPr ns).map prD)) = _
  rw [prsK_n, Option.map_some, h2, ip_sg]
theorem sortP_n (l : List (Nat × Nat)) : ∃ L : List (Nat × Nat), L.Perm l ∧ sortedPD (.list (l.map sgE)) = some (.list (L.map sgE)) ∧ srtN L := by
  obtain ⟨L, h1, h2, h3⟩ := sortPr_n l
  refine ⟨L, h1, ?_, h3⟩
  show (prsOf (l.map sgE)).map (fun ns => PyData.list ((sortPr ns).map prD)) = _
  rw [prsOf_n, Option.map_some, h2, ip_sg]
section
variable {many : Nat} {ps l L qs : List (Nat × Nat)}
theorem mm_edge {t : List Nat} {e : Nat × Nat} (h : e.2 = up t e.1) : mm e = edge t e.1 := by
  unfold mm edge
  rw [← h, Nat.min_comm, Nat.max_comm]
theorem Gwn.only (s : Sg many ps) (w : Gwn ps l) (hl : l.length + 1 = many) (hL : L.Perm l) (hq : qs.Perm (L.map mm)) (hs : srtN qs) : Only many qs (tOf many l) := by
  have o := w.of s hl
  have mem : ∀ q, q ∈ qs ↔ ∃ e ∈ l, mm e = q := fun q => by
    rw [hq.mem_iff, List.mem_map]
    exact ⟨fun ⟨e, h1, h2⟩ => ⟨e, hL.mem_iff.mp h1, h2⟩, fun ⟨e, h1, h2⟩ => ⟨e, hL.mem_iff.mpr h1, h2⟩⟩
  have nd : qs.Nodup := by
    have h1 : (l.map mm).Nodup := by
      rw [List.Nodup, List.pairwise_map]
      have h2 : l.Pairwise fun a b => a.1 ≠ b.1 := List.pairwise_map.mp (w.ndk s hl)
      refine List.Pairwise.imp_of_mem (fun {a b} ha hb hne e => ?_) h2
      obtain ⟨a1, a2, a3⟩ := w.ent s hl ha
      obtain ⟨b1, b2, b3⟩ := w.ent s hl hb
      rw [mm_edge a3, mm_edge b3] at e
      exact hne (o.edge_inj a1 a2 b1 b2 e)
    exact (hq.trans (hL.map mm)).nodup_iff.mpr h1
  refine ⟨⟨?_, fun p hp => ?_, s.le, s.ge⟩, fun h h1 h2 => ?_, fun q hq => ?_⟩
  · have h2 : qs.Pairwise fun a b => a ≠ b := nd
    refine (h2.and hs).imp fun {a b} h => ?_
    obtain ⟨h1, h3⟩ := h
    have : ¬ (a.1 = b.1 ∧ a.2 = b.2) := fun z => h1 (Prod.ext z.1 z.2)
    omega
  · obtain ⟨e, he, rfl⟩ := (mem p).mp hp
    obtain ⟨e1, e2, e3⟩ := w.ent s hl he
    have := (o.ne_up e1 e2).1
    have := o.lt (h := e.1) e2
    rw [← e3] at *
    unfold mm
    simp only
    omega
  · refine (mem _).mpr ⟨_, w.has s hl h1 h2, ?_⟩
    exact mm_edge rfl
  · obtain ⟨e, he, rfl⟩ := (mem q).mp hq
    obtain ⟨e1, e2, e3⟩ := w.ent s hl he
    exact ⟨e.1, e1, e2, mm_edge e3⟩
end
end Hz

namespace Hz
open PySem PySem.Spec PyProof.Rows L2
theorem Ok_loopO {i a : Nat} {b : Env → R (Fl × Env)} {all : List Int} {Q : Fl × Env → Prop} : ∀ (xs : List Int) (I : Nat → Env → Prop) (e : Env), I 0 e → (∀ j x e, xs[j]? = some x → I j e → Ok (b (e.set a (some (.int x)))) fun r => r.1 = .nx ∧ ownI r.2 i = some all ∧ I (j + 1) r.2) →
    (∀ e', I xs.length e' → Q (.nx, e')) → Ok (loopO i a b all xs e) Q
  | [], I, e, h0, _, q => ⟨_, rfl, q e h0⟩
  | x :: xs, I, e, h0, st, q => by
    obtain ⟨⟨fl, e1⟩, h1, h2, h3, h4⟩ := st 0 x e rfl h0
    simp only at h2 h3 h4
    subst h2
    have ih := Ok_loopO (i := i) (a := a) (b := b) (all := all) (Q := Q) xs (fun j => I (j + 1)) e1 h4 (fun j y e hy hI => st (j + 1) y e hy hI) (fun e' h => q e' h)
    unfold loopO
    rw [h1]
    simp only [bind_ok]
    rw [if_pos h3]
    exact ih
theorem light_sg : ∀ L : List (Nat × Nat), lightC (.list (L.map sgE)) = true
  | [] => rfl
  | e :: L => by
    have ih : lightL (L.map sgE) = true := light_sg L
    show lightL (sgE e :: L.map sgE) = true
    rw [lightL, ih]
    rfl
theorem ownD_n {e : Env} {i : Nat} {l : List (Nat × Nat)} (h : e[i]? = some (some (.dict (l.map pD)))) : ownD e i = some (l.map pD) := by
  unfold ownD
  rw [h]
  show (if numKeys (l.map pD) = true then some (l.map pD) else none) = _
  rw [numKeys_n, if_pos rfl]
theorem ownI_n {e : Env} {i : Nat} {l : List Nat} (h : e[i]? = some (some (nlD l))) : ownI e i = some (l.map fun k : Nat => (k : Int)) := by
  have h1 : ownL e i = some (l.map nD) := by
    unfold ownL
    rw [h]
    rfl
  unfold ownI
  rw [h1]
  exact intsOf_n l
theorem grow_n (ns : List Int) {many : Nat} {ps f : List (Nat × Nat)} (s : Sg many ps) (a : Dist (adjS ps) noB f) (hf : ¬ f.length < many) {NT RW PS : D} (hc : IsC PS ps) {k2 : Nat} (hk2 : k2 ≤ 900000) :
    Ok ((whileS (tstD (op2 ltD (opNO lenD 9) (varD 7))) (seqS (setO 11 (lstD (nilA))) (seqS (forOwnS 9 12 (extS 11 (quI (brwN (compD (seqI (callP d_law_near (consA (varD 8) (consA (varD 12) (nilA))))) [13] (bName 13) (tstD (op2 notInD (varD 13) (varD 9))) (tupD (consA (varD 12) (consA (varD 13) (nilA))))))))) (seqS (asgS (bTup 2 (bCons (bName 12) (bCons (bName 13) (bNil)))) (callT d_law_pick 1 (varD 0) (consA (varD 11) (nilA)))) (seqS (appS 9 (varD 13)) (dputS 10 (varD 13) (varD 12))))))) [some (scrV ns), some (twn k2), some NT, some RW, none, none, none, some (nD many), some PS, some (nlD [0]), some (.dict []), none, none, none, none, none, none]) fun r => ∃ (l : List (Nat × Nat)) (k : Nat) (v11 v12 v13 : Option D), r = (.nx, [some (scrV ns), some (twn k), some NT, some RW, none, none, none, some (nD many), some PS, some (nlD (metL l)), some (.dict (l.map pD)), v11, v12, v13, none, none, none]) ∧ Gwn ps l ∧ l.length + 1 = many ∧ k ≤ k2 + 8 := by
  generalize hSC : scrV ns = SC
  have hle := s.le
  have hge := s.ge
  refine Ok_while (fun m e => ∃ (l : List (Nat × Nat)) (k : Nat) (v11 v12 v13 : Option D), e = [some SC, some (twn k), some NT, some RW, none, none, none, some (nD many), some PS, some (nlD (metL l)), some (.dict (l.map pD)), v11, v12, v13, none, none, none] ∧ Gwn ps l ∧ m + l.length + 1 = many ∧ k = k2 + l.length) (many - 1) (by omega) ⟨[], k2, none, none, none, rfl, .nil, by simp; omega, rfl⟩ (fun m e hI => ?_)
  obtain ⟨l, k, v11, v12, v13, rfl, w, hm, hk⟩ := hI
  have ho9 : ∀ (k : Nat) (M : List Nat) (v v11 v12 v13 : Option D), ownL [some SC, some (twn k), some NT, some RW, none, none, none, some (nD many), some PS, some (nlD M), v, v11, v12, v13, none, none, none] 9 = some (M.map nD) := fun _ _ _ _ _ _ => rfl
  have hlm : lenD [.list ((metL l).map nD)] = some (nD (l.length + 1)) := by
    show some (PyData.int _) = _
    simp [metL, nD]
  have hcnd : tstD (op2 ltD (opNO lenD 9) (varD 7)) [some SC, some (twn k), some NT, some RW, none, none, none, some (nD many), some PS, some (nlD (metL l)), some (.dict (l.map pD)), v11, v12, v13, none, none, none] = .ok (decide (l.length + 1 < many), [some SC, some (twn k), some NT, some RW, none, none, none, some (nD many), some PS, some (nlD (metL l)), some (.dict (l.map pD)), v11, v12, v13, none, none, none]) := by
    simp only [ev_tstD, ev_op2, ev_opNO, ho9, lift_some, bind_ok, hlm, ev_varD]
    simp
  rw [hcnd]
  refine ⟨_, rfl, fun hlt => ?_, fun hge2 => ⟨l, k, v11, v12, v13, rfl, w, ?_, by omega⟩⟩
  rotate_left
  · have := of_decide_eq_false hge2
    omega
  have hlt := of_decide_eq_true hlt
  refine Ok_seq ?_
  simp only [ev_setO, ev_lstD, ev_nilA, bind_ok]
  rw [if_pos (by simp)]
  refine ⟨_, rfl, ?_⟩
  simp only [List.set_cons_succ, List.set_cons_zero, thenP_nx]
  refine Ok_seq ?_
  have hoI : ownI [some SC, some (twn k), some NT, some RW, none, none, none, some (nD many), some PS, some (nlD (metL l)), some (.dict (l.map pD)), some (.list []), v12, v13, none, none, none] 9 = some ((metL l).map fun k : Nat => (k : Int)) := ownI_n rfl
  unfold forOwnS
  rw [hoI]
  simp only [lift_some, bind_ok]
  have hne := free_ne a hf (l := l) (by omega)
  refine Ok_loopO ((metL l).map fun k : Nat => (k : Int)) (fun j e => ∃ v12, e = [some SC, some (twn k), some NT, some RW, none, none, none, some (nD many), some PS, some (nlD (metL l)), some (.dict (l.map pD)), some (.list ((((metL l).take j).flatMap (freeP ps l)).map sgE)), v12, v13, none, none, none]) _ ⟨v12, by simp⟩ (fun j x e hx hI => ?_) fun e hI => ?_
  · obtain ⟨v12, rfl⟩ := hI
    rw [List.getElem?_map, Option.map_eq_some_iff] at hx
    obtain ⟨h, hh, rfl⟩ := hx
    have hset : ([some SC, some (twn k), some NT, some RW, none, none, none, some (nD many), some PS, some (nlD (metL l)), some (.dict (l.map pD)), some (.list ((((metL l).take j).flatMap (freeP ps l)).map sgE)), v12, v13, none, none, none]).set 12 (some (.int ((h : Nat) : Int))) = [some SC, some (twn k), some NT, some RW, none, none, none, some (nD many), some PS, some (nlD (metL l)), some (.dict (l.map pD)), some (.list ((((metL l).take j).flatMap (freeP ps l)).map sgE)), some (nD h), v13, none, none, none] := rfl
    rw [hset]
    have hcomp : (compD (seqI (callP d_law_near (consA (varD 8) (consA (varD 12) (nilA))))) [13] (bName 13) (tstD (op2 notInD (varD 13) (varD 9))) (tupD (consA (varD 12) (consA (varD 13) (nilA))))) [some SC, some (twn k), some NT, some RW, none, none, none, some (nD many), some PS, some (nlD (metL l)), some (.dict (l.map pD)), some (.list ((((metL l).take j).flatMap (freeP ps l)).map sgE)), some (nD h), v13, none, none, none] = .ok (.list ((freeP ps l h).map sgE), [some SC, some (twn k), some NT, some RW, none, none, none, some (nD many), some PS, some (nlD (metL l)), some (.dict (l.map pD)), some (.list ((((metL l).take j).flatMap (freeP ps l)).map sgE)), some (nD h), v13, none, none, none]) := by
      have hi2 : itemsOf (nlD (nbr ps h)) = some ((nbr ps h).map nD) := rfl
      have hn := nbr_len ps h
      have hmp : ((nbr ps h).filter fun o => !decide (o ∈ metL l)).map (fun o => sgE (h, o)) = (freeP ps l h).map sgE := by
        unfold freeP
        rw [List.map_map]
        rfl
      rw [← hmp]
      refine of_Ok (Ok_compP nD (fun o => !decide (o ∈ metL l)) (fun o => sgE (h, o)) (nbr ps h) ?_ (by omega) (fun o ho => ?_) rfl rfl)
      · simp [near_n hc h, hi2]
      · have hni := notInD_nlS o (metL l)
        generalize nlD (metL l) = ML at *
        refine ⟨_, rfl, ?_, fun _ => ?_, rfl⟩
        · simp [hni]
        · simp [sgE]
    have hbq : (quI (brwN (compD (seqI (callP d_law_near (consA (varD 8) (consA (varD 12) (nilA))))) [13] (bName 13) (tstD (op2 notInD (varD 13) (varD 9))) (tupD (consA (varD 12) (consA (varD 13) (nilA))))))) [some SC, some (twn k), some NT, some RW, none, none, none, some (nD many), some PS, some (nlD (metL l)), some (.dict (l.map pD)), some (.list ((((metL l).take j).flatMap (freeP ps l)).map sgE)), some (nD h), v13, none, none, none] = .ok (.list ((freeP ps l h).map sgE), [some SC, some (twn k), some NT, some RW, none, none, none, some (nD many), some PS, some (nlD (metL l)), some (.dict (l.map pD)), some (.list ((((metL l).take j).flatMap (freeP ps l)).map sgE)), some (nD h), v13, none, none, none]) := by
      rw [ev_quI, ev_brwN, hcomp]
      simp only [bind_ok]
      rw [if_pos (light_sg _)]
      rfl
    have hfl : ((metL l).take (j + 1)).flatMap (freeP ps l) = (((metL l).take j).flatMap (freeP ps l)) ++ freeP ps l h := by
      obtain ⟨hj, hg⟩ := List.getElem?_eq_some_iff.mp hh
      rw [List.take_succ_eq_append_getElem hj, List.flatMap_append, hg]
      simp
    have hsz : ((((metL l).take j).flatMap (freeP ps l)).map sgE).length + ((freeP ps l h).map sgE).length ≤ 1000000 := by
      have h1 : ∀ M : List Nat, (M.flatMap (freeP ps l)).length ≤ 8 * M.length := fun M => by
        induction M with
        | nil => simp
        | cons y M ih =>
          have := nbr_len ps y
          have : (freeP ps l y).length ≤ (nbr ps y).length := by
            unfold freeP
            rw [List.length_map]
            exact List.length_filter_le _ _
          rw [List.flatMap_cons, List.length_append, List.length_cons]
          omega
      have h2 := h1 ((metL l).take j)
      have h3 := h1 [h]
      have h4 : ((metL l).take j).length ≤ l.length + 1 := by
        rw [List.length_take]
        simp [metL]
        omega
      simp at h3
      rw [List.length_map, List.length_map]
      omega
    have hext := ev_extS 11 (quI (brwN (compD (seqI (callP d_law_near (consA (varD 8) (consA (varD 12) (nilA))))) [13] (bName 13) (tstD (op2 notInD (varD 13) (varD 9))) (tupD (consA (varD 12) (consA (varD 13) (nilA))))))) _ (es := (freeP ps l h).map sgE) (ds := (((metL l).take j).flatMap (freeP ps l)).map sgE) rfl hbq rfl hsz
    refine ⟨_, hext, rfl, ownI_n rfl, some (nD h), ?_⟩
    rw [hfl, List.map_append]
    rfl
  · obtain ⟨v12, rfl⟩ := hI
    rw [List.length_map, List.take_length]
    simp only [thenP_nx]
    subst hSC
    obtain ⟨d, hd, e1⟩ := pick_ok ns k (((metL l).flatMap (freeP ps l)).map sgE) (fun z => hne (List.map_eq_nil_iff.mp z)) (by omega)
    obtain ⟨q, hq, rfl⟩ := List.mem_map.mp hd
    obtain ⟨q1, q2, q3⟩ := free_mem hq
    generalize hPL : PyData.list (((metL l).flatMap (freeP ps l)).map sgE) = PL at *
    refine Ok_seq ?_
    have s1 : asgS (bTup 2 (bCons (bName 12) (bCons (bName 13) (bNil)))) (callT d_law_pick 1 (varD 0) (consA (varD 11) (nilA))) [some (scrV ns), some (twn k), some NT, some RW, none, none, none, some (nD many), some PS, some (nlD (metL l)), some (.dict (l.map pD)), some PL, v12, v13, none, none, none] = .ok (.nx, [some (scrV ns), some (twn (k + 1)), some NT, some RW, none, none, none, some (nD many), some PS, some (nlD (metL l)), some (.dict (l.map pD)), some PL, some (nD q.1), some (nD q.2), none, none, none]) := by
      simp [e1]
      rfl
    rw [s1]
    refine ⟨_, rfl, ?_⟩
    simp only [thenP_nx]
    refine Ok_seq ?_
    have s2 : appS 9 (varD 13) [some (scrV ns), some (twn (k + 1)), some NT, some RW, none, none, none, some (nD many), some PS, some (nlD (metL l)), some (.dict (l.map pD)), some PL, some (nD q.1), some (nD q.2), none, none, none] = .ok (.nx, [some (scrV ns), some (twn (k + 1)), some NT, some RW, none, none, none, some (nD many), some PS, some (nlD (metL l ++ [q.2])), some (.dict (l.map pD)), some PL, some (nD q.1), some (nD q.2), none, none, none]) := by
      have hz : (metL l).length < 1000000 := by
        simp [metL]
        omega
      have ho : ∀ (a b c : Option D), ownL [some (scrV ns), a, b, c, none, none, none, some (nD many), some PS, some (nlD (metL l)), some (.dict (l.map pD)), some PL, some (nD q.1), some (nD q.2), none, none, none] 9 = some ((metL l).map nD) := fun _ _ _ => rfl
      rw [ev_appS]
      simp only [ho, lift_some, bind_ok, ev_varD, List.getElem?_cons_succ, List.getElem?_cons_zero, getD2_s]
      rw [if_pos (by rw [List.length_map]; exact hz)]
      simp [nlD]
    rw [s2]
    refine ⟨_, rfl, ?_⟩
    simp only [thenP_nx]
    have hkey : q.2 ∉ l.map (·.1) := fun z => q3 (List.mem_cons_of_mem _ z)
    have s3 : dputS 10 (varD 13) (varD 12) [some (scrV ns), some (twn (k + 1)), some NT, some RW, none, none, none, some (nD many), some PS, some (nlD (metL l ++ [q.2])), some (.dict (l.map pD)), some PL, some (nD q.1), some (nD q.2), none, none, none] = .ok (.nx, [some (scrV ns), some (twn (k + 1)), some NT, some RW, none, none, none, some (nD many), some PS, some (nlD (metL l ++ [q.2])), some (.dict ((l ++ [(q.2, q.1)]).map pD)), some PL, some (nD q.1), some (nD q.2), none, none, none]) := by
      have hod : ownD [some (scrV ns), some (twn (k + 1)), some NT, some RW, none, none, none, some (nD many), some PS, some (nlD (metL l ++ [q.2])), some (.dict (l.map pD)), some PL, some (nD q.1), some (nD q.2), none, none, none] 10 = some (l.map pD) := ownD_n rfl
      have hkq : keyOf (nD q.2) = some (.inl (q.2 : Int)) := rfl
      have hkk : kD (.inl (q.2 : Int)) = nD q.2 := rfl
      have hpu := putD_n (v := q.1) hkey
      unfold dputS
      simp only [ev_varD, List.getElem?_cons_succ, List.getElem?_cons_zero, getD2_s, bind_ok, hod, hkq, lift_some, hkk, hpu]
      rw [if_pos (by rw [List.length_map]; omega)]
      rfl
    rw [s3]
    refine ⟨_, rfl, rfl, m - 1, by omega, l ++ [(q.2, q.1)], k + 1, some PL, some (nD q.1), some (nD q.2), ?_, w.add q1 q2 q3, by simp; omega, by simp; omega⟩
    have em : metL (l ++ [(q.2, q.1)]) = metL l ++ [q.2] := by simp [metL]
    rw [em]
theorem law_true (ns : List Int) (h : ns.length ≤ 63) : d_law [scrV ns] = .ok (.bool true) := by
  have key : Ok (d_law [scrV ns]) fun d => d = .bool true := by
    unfold d_law b_law env0
    refine Ok_fin (Ok_seq ?_)
    have et : PyData.list [] = twn 0 := rfl
    simp
    rw [et]
    refine Ok_seq ?_
    obtain ⟨_, e1, many, ps, k1, rfl, s, hk1⟩ := sights_sg ns 0 (by omega)
    simp [e1]
    refine Ok_seq ?_
    have hc : IsC (.tuple (ps.map sgE)) ps := .inl rfl
    obtain ⟨f, -, a, hf8⟩ := distances_n s hc []
    have hne := nearest_n s a
    have hun := unreached_n s a
    have hnp := needed_sights_n s a
    have hnh := needed_hills_n s a
    have hle := s.le
    have hge := s.ge
    have hpl := s.len
    by_cases hf : f.length < many
    · rw [if_pos hf] at hne
      simp [hne]
      refine Ok_seq ?_
      have hU : ((List.range many).filter fun h => !decide (h ∈ f.map (·.1))) ≠ [] := fun z => by
        have := full_len (many := many) (f := f) fun x hx => Classical.byContradiction fun hn => by
          have : x ∈ (List.range many).filter fun h => !decide (h ∈ f.map (·.1)) := List.mem_filter.mpr ⟨List.mem_range.mpr hx, by simpa using hn⟩
          rw [z] at this
          cases this
        omega
      generalize hUU : (List.range many).filter (fun h => !decide (h ∈ f.map (·.1))) = U at *
      have hq : neD (nlD U) (.list []) = some (.bool true) := by
        have := neD_nl U []
        rw [show nlD [] = PyData.list [] from rfl] at this
        rw [this]
        simp [hU]
      simp [hun, hq]
    · rw [if_neg hf] at hne
      have o1 := near_of s a hf
      have hT1 := o1.len
      have hnf := nearT_far s a hf
      generalize hTN : nearT many ps f = tn at *
      simp [hne]
      refine Ok_seq ?_
      have hno : isD (ntD tn) .none = some (.bool false) := rfl
      simp [hno]
      refine Ok_seq ?_
      obtain ⟨_, e2, row, k2, rfl, hrl, hr, hk2, hk3⟩ := law_row_ok ns k1 4 (.int 4) rfl (by omega) (by omega)
      simp [e2]
      -- rows without fog
      obtain ⟨B, hB1, heB, hNB, hminB⟩ := all_shows_c (fog := []) o1.T (by omega) hr (by omega) (by simp)
      have hoB := over_c (fog := []) o1.T (by omega) hr (by omega) (fog_nil tn) heB
      have hB := clear_Mn o1.T hNB hminB
      have hcB := clear_time_T o1.T (by omega) (many := 5) (by omega)
      have hlvB := leaves_T o1.T (by omega)
      have hfarB := fun (h n : Nat) (hh : h < many) (e : farN tn (tn.length + 1) h = some n) => far_T o1.T (by omega) (show h ≤ tn.length by omega) e
      simp only [List.map_nil] at hoB
      generalize hNT : ntD tn = NT at *
      generalize hRW : PyData.list row = RW at *
      generalize hPS : PyData.tuple (ps.map sgE) = PS at *
      refine Ok_seq ?_
      simp only [ev_parS, ev_consA, ev_lstD, ev_nilA, ev_cD, bind_ok, putE, lift_some]
      refine ⟨_, rfl, ?_⟩
      simp only [thenP_nx]
      refine Ok_seq ?_
      obtain ⟨_, e3, l, k, v11, v12, v13, rfl, w, hl, hk⟩ := grow_n ns s a hf hc (NT := NT) (RW := RW) (k2 := k2) (by omega)
      refine ⟨_, e3, ?_⟩
      simp only [thenP_nx]
      clear e3
      have o := w.of s hl
      have hto := o.len
      have ndk := w.ndk s hl
      have hkey := fun (h : Nat) (h1 : 1 ≤ h) (h2 : h < many) => w.key s hl h1 h2
      have hup := fun (h : Nat) (h1 : 1 ≤ h) (h2 : h < many) => w.up s hl h1 h2
      have hhas := fun (h : Nat) (h1 : 1 ≤ h) (h2 : h < many) => w.has s hl h1 h2
      obtain ⟨L, hL, hsi⟩ := sortIt_n l
      obtain ⟨qs, hqs, hsp, hso⟩ := sortP_n (L.map mm)
      have onl := w.only s hl hL hqs hso
      have htl : (List.range' 1 (many - 1)).map (valN l) = tOf many l := rfl
      have hnI := fun (k v : Nat) => notIt_n ndk k v
      generalize htt : tOf many l = t at *
      obtain ⟨A, hA1, heA, hNA, hminA⟩ := all_shows_c (fog := []) o.T (by omega) hr (by omega) (by simp)
      have hoA := over_c (fog := []) o.T (by omega) hr (by omega) (fog_nil t) heA
      have hA := clear_Mn o.T hNA hminA
      have hcA := clear_time_T o.T (by omega) (many := 5) (by omega)
      have hlvA := leaves_T o.T (by omega)
      have hfarA := fun (h n : Nat) (hh : h < many) (e : farN t (t.length + 1) h = some n) => far_T o.T (by omega) (show h ≤ t.length by omega) e
      simp only [List.map_nil] at hoA
      rw [hRW] at hoA
      -- the tree
      refine Ok_seq ?_
      have s8 : setS 4 (opN tupleD (consA (compD (argI rng2 (consA (cD (.int 1)) (consA (varD 7) (nilA)))) [14] (bName 14) (yesT) (dgetO 10 (varD 14))) (nilA))) [some (scrV ns), some (twn k), some NT, some RW, none, none, none, some (nD many), some PS, some (nlD (metL l)), some (.dict (l.map pD)), v11, v12, v13, none, none, none] = .ok (.nx, [some (scrV ns), some (twn k), some NT, some RW, some (ntD t), none, none, some (nD many), some PS, some (nlD (metL l)), some (.dict (l.map pD)), v11, v12, v13, none, none, none]) := by
        have hcomp : compD (argI rng2 (consA (cD (.int 1)) (consA (varD 7) (nilA)))) [14] (bName 14) (yesT) (dgetO 10 (varD 14)) [some (scrV ns), some (twn k), some NT, some RW, none, none, none, some (nD many), some PS, some (nlD (metL l)), some (.dict (l.map pD)), v11, v12, v13, none, none, none] = .ok (.list (((List.range' 1 (many - 1)).map (valN l)).map nD), [some (scrV ns), some (twn k), some NT, some RW, none, none, none, some (nD many), some PS, some (nlD (metL l)), some (.dict (l.map pD)), v11, v12, v13, none, none, none]) := by
          have hr2 : rng2 [.int 1, nD many] = some ((List.range' 1 (many - 1)).map nD) := rng2_lit (.int 1) 1 many rfl (by omega) (by omega)
          rw [List.map_map]
          refine of_Ok (Ok_compY nD (fun h => nD (valN l h)) (List.range' 1 (many - 1)) (by simp [hr2]) (by simp; omega) (fun h hh => ⟨_, rfl, ?_, rfl⟩) rfl rfl)
          rw [List.mem_range'_1] at hh
          have hod : ∀ v : Option D, ownD [some (scrV ns), some (twn k), some NT, some RW, none, none, none, some (nD many), some PS, some (nlD (metL l)), some (.dict (l.map pD)), v11, v12, v13, v, none, none] 10 = some (l.map pD) := fun v => ownD_n rfl
          have hkq : keyOf (nD h) = some (.inl (h : Int)) := rfl
          have hkk : kD (.inl (h : Int)) = nD h := rfl
          have hv := valD_mem ndk (mem_valN ndk (hkey h hh.1 (by omega)))
          unfold dgetO
          simp only [ev_wipe1, ev_wipe0, List.length_cons, List.set_cons_succ, List.set_cons_zero, ev_varD, List.getElem?_cons_succ, List.getElem?_cons_zero, getD2_s, bind_ok, hod, hkq, lift_some, hkk, hv, Option.bind_some]
        rw [ev_setS, ev_opN, ev_consA, hcomp, htl]
        rfl
      rw [s8]
      refine ⟨_, rfl, ?_⟩
      simp only [thenP_nx]
      clear s8
      have hit := is_tree_T o.T (by omega)
      have hof := isof_T s (t := t) (by omega) hit
      have hall : ((List.range t.length).all fun k => decide ((min (k + 1) (t.getD k 0), max (k + 1) (t.getD k 0)) ∈ ps)) = true := by
        rw [List.all_eq_true]
        intro k hk
        simp at hk
        have h1 := (mem_nbr.mp (o.adj (k + 1) (by omega) (by omega))).2.1
        have h2 : t.getD k 0 = up t (k + 1) := by
          have := up_get (t := t) (h := k + 1) (by omega) (by omega)
          rw [Nat.add_sub_cancel] at this
          rw [List.getD, this]
          rfl
        rw [h2, decide_eq_true_eq, Nat.min_comm, Nat.max_comm]
        exact h1
      rw [hall, hPS] at hof
      have hnear : ∀ h n, h < many → farN t (t.length + 1) h = some n → valN f h ≤ n := fun h n hh e => o.far_ge a hh e
      have hdeep : deepN tn ≤ deepN t := by
        obtain ⟨h0, hh0, e0⟩ := deep_at o1.T
        obtain ⟨n, _, hn, _⟩ := o.T.far (show h0 ≤ t.length by omega)
        have q1 := hnear h0 n (by omega) hn
        have q2 := hnf _ h0 (by omega) rfl
        rw [e0] at q2
        have q4 := Option.some.inj q2
        have q3 := deep_le (show h0 ≤ t.length by omega) hn
        omega
      have hAB : ¬ A < B := by
        rw [hA, hB]
        split <;> omega
      have hcA' : d_clear_time [ntD t, .int 5] = .ok (.int (19 + (deepN t : Int))) := by
        rw [show PyData.int 5 = nD 5 from rfl, hcA, if_neg (by omega)]
        exact congrArg R.ok (congrArg PyData.int (by omega))
      have hcB' : d_clear_time [NT, .int 5] = .ok (.int (19 + (deepN tn : Int))) := by
        rw [show PyData.int 5 = nD 5 from rfl, hcB, if_neg (by omega)]
        exact congrArg R.ok (congrArg PyData.int (by omega))
      have hcl : ¬ (19 + (deepN t : Int) < 19 + (deepN tn : Int)) := by omega
      have hnn : neD (ntD t) (ntD t) = some (.bool false) := neD_self (dep_nt 8 t)
      have hn0 : neD (.list []) (.list []) = some (.bool false) := neD_self (d := .list []) rfl
      -- the sights of the tree alone
      obtain ⟨f2, -, b, _⟩ := distances_n onl.s (.inl rfl : IsC (.tuple (qs.map sgE)) qs) []
      have o2 := onl.of o
      have hf2 : ¬ f2.length < many := by
        have := full_len fun x hx => o2.keys b hx
        omega
      have hne2 := nearest_n onl.s b
      rw [if_neg hf2, onl.near o b hf2] at hne2
      have hnp2 := needed_sights_n onl.s b
      rw [List.filter_eq_self.mpr fun p hp => onl.needP o b hp] at hnp2
      have hnh2 := needed_hills_n onl.s b
      have hcg : (List.range' 1 (many - 1)).filter (ndH onl.s f2) = (List.range' 1 (many - 1)).filter fun h => !decide (h ∈ leavesN t) := by
        refine List.filter_congr fun h hh => ?_
        rw [List.mem_range'_1] at hh
        exact onl.needH o b hh.1 (by omega)
      rw [hcg] at hnh2
      have htd2 : tupleD [.list (qs.map sgE)] = some (.tuple (qs.map sgE)) := rfl
      have hld2 : listD [.tuple (qs.map sgE)] = some (.list (qs.map sgE)) := rfl
      have hnq : neD (.list (qs.map sgE)) (.list (qs.map sgE)) = some (.bool false) := neD_self (dep_sgl 7 qs)
      have hql : qs.length ≤ 64 := onl.s.len
      have hLl : L.length ≤ 64 := by
        have := hL.length_eq
        omega
      have hnI2 : ∀ k v : Nat, notItD (.tuple [nD k, nD v]) (.dict (l.map pD)) = some (.bool (!decide ((k, v) ∈ l))) := fun k v => hnI k v
      generalize hTT : ntD t = TT at *
      generalize hML : nlD (metL l) = ML at *
      generalize hDM : PyData.dict (l.map pD) = DM at *
      refine Ok_seq ?_
      have s9 : ifS (orT (notT (tstD (callP d_is_of (consA (varD 7) (consA (varD 8) (consA (varD 4) (nilA))))))) (tstD (op2 ltD (callP d_over (consA (varD 4) (consA (varD 3) (consA (tupD (nilA)) (consA (tupD (nilA)) (nilA)))))) (callP d_over (consA (varD 2) (consA (varD 3) (consA (tupD (nilA)) (consA (tupD (nilA)) (nilA))))))))) (retS (cD (.bool false))) (nextS) [some (scrV ns), some (twn k), some NT, some RW, some TT, none, none, some (nD many), some PS, some ML, some DM, v11, v12, v13, none, none, none] = .ok (.nx, [some (scrV ns), some (twn k), some NT, some RW, some TT, none, none, some (nD many), some PS, some ML, some DM, v11, v12, v13, none, none, none]) := by
        simp [hof, hoA, hoB, hAB]
      rw [s9]
      refine ⟨_, rfl, ?_⟩
      simp only [thenP_nx]
      clear s9
      refine Ok_seq ?_
      have s10 : ifS (tstD (op2 neD (compD (argI rng1 (consA (varD 7) (nilA))) [14] (bName 14) (tstD (op2 ltD (callP d_far (consA (varD 4) (consA (varD 14) (nilA)))) (callP d_far (consA (varD 2) (consA (varD 14) (nilA)))))) (varD 14)) (lstD (nilA)))) (retS (cD (.bool false))) (nextS) [some (scrV ns), some (twn k), some NT, some RW, some TT, none, none, some (nD many), some PS, some ML, some DM, v11, v12, v13, none, none, none] = .ok (.nx, [some (scrV ns), some (twn k), some NT, some RW, some TT, none, none, some (nD many), some PS, some ML, some DM, v11, v12, v13, none, none, none]) := by
        have hcomp : compD (argI rng1 (consA (varD 7) (nilA))) [14] (bName 14) (tstD (op2 ltD (callP d_far (consA (varD 4) (consA (varD 14) (nilA)))) (callP d_far (consA (varD 2) (consA (varD 14) (nilA)))))) (varD 14) [some (scrV ns), some (twn k), some NT, some RW, some TT, none, none, some (nD many), some PS, some ML, some DM, v11, v12, v13, none, none, none] = .ok (.list (((List.range many).filter fun _ => false).map nD), [some (scrV ns), some (twn k), some NT, some RW, some TT, none, none, some (nD many), some PS, some ML, some DM, v11, v12, v13, none, none, none]) := by
          refine of_Ok (Ok_compP nD (fun _ => false) nD (List.range many) (by simp [rng1_n many (by omega)]) (by simp; omega) (fun h hh => ⟨_, rfl, ?_, fun _ => by simp, rfl⟩) rfl rfl)
          simp at hh
          obtain ⟨n, _, hn, _⟩ := o.T.far (show h ≤ t.length by omega)
          have q1 := hfarA h n hh hn
          have q2 := hfarB h _ hh (hnf _ h hh rfl)
          have q3 : ¬ n < valN f h := by
            have := hnear h n hh hn
            omega
          simp [q1, q2, q3]
        have hfl : ((List.range many).filter fun _ => false).map nD = [] := by simp
        rw [hfl] at hcomp
        simp [hcomp, hn0]
      rw [s10]
      refine ⟨_, rfl, ?_⟩
      simp only [thenP_nx]
      clear s10
      refine Ok_seq ?_
      have s11 : ifS (tstD (op2 ltD (callP d_clear_time (consA (varD 4) (consA (cD (.int 5)) (nilA)))) (callP d_clear_time (consA (varD 2) (consA (cD (.int 5)) (nilA)))))) (retS (cD (.bool false))) (nextS) [some (scrV ns), some (twn k), some NT, some RW, some TT, none, none, some (nD many), some PS, some ML, some DM, v11, v12, v13, none, none, none] = .ok (.nx, [some (scrV ns), some (twn k), some NT, some RW, some TT, none, none, some (nD many), some PS, some ML, some DM, v11, v12, v13, none, none, none]) := by
        simp [hcA', hcB', hcl]
      rw [s11]
      refine ⟨_, rfl, ?_⟩
      simp only [thenP_nx]
      clear s11
      refine Ok_seq ?_
      simp only [ev_forS]
      generalize hW : ps.filter (ndP s f) = W at *
      have hWm : ∀ p ∈ W, p ∈ ps ∧ (cutP s p).length < f.length := fun p hp => by
        rw [← hW, List.mem_filter] at hp
        refine ⟨hp.1, ?_⟩
        have := hp.2
        unfold ndP at this
        exact of_decide_eq_true this
      have hit12 : seqI (callP d_needed_sights (consA (varD 7) (consA (varD 8) (nilA)))) [some (scrV ns), some (twn k), some NT, some RW, some TT, none, none, some (nD many), some PS, some ML, some DM, v11, v12, v13, none, none, none] = .ok (W.map sgE, [some (scrV ns), some (twn k), some NT, some RW, some TT, none, none, some (nD many), some PS, some ML, some DM, v11, v12, v13, none, none, none]) := by
        simp [hnp, itemsOf]
      rw [hit12, bind_ok]
      refine Ok_forL sgE W (fun i e => ∃ v12 v13, e = [some (scrV ns), some (twn k), some NT, some RW, some TT, none, none, some (nD many), some PS, some ML, some DM, v11, v12, v13, none, none, none]) ⟨v12, v13, rfl⟩ (fun i p e hx hI => ?_) fun e hI => ?_
      · obtain ⟨v12, v13, rfl⟩ := hI
        obtain ⟨hp, hlt⟩ := hWm p (List.mem_of_getElem? hx)
        have hs := s.ok p hp
        refine ⟨[some (scrV ns), some (twn k), some NT, some RW, some TT, none, none, some (nD many), some PS, some ML, some DM, v11, some (nD p.1), some (nD p.2), none, none, none], rfl, ?_⟩
        have q1 := hnI2 p.2 p.1
        have q2 := hnI2 p.1 p.2
        have key : ifS (andT (tstD (op2 notItD (tupD (consA (varD 13) (consA (varD 12) (nilA)))) (varD 10))) (tstD (op2 notItD (tupD (consA (varD 12) (consA (varD 13) (nilA)))) (varD 10)))) (retS (cD (.bool false))) (nextS) [some (scrV ns), some (twn k), some NT, some RW, some TT, none, none, some (nD many), some PS, some ML, some DM, v11, some (nD p.1), some (nD p.2), none, none, none] = .ok (.nx, [some (scrV ns), some (twn k), some NT, some RW, some TT, none, none, some (nD many), some PS, some ML, some DM, v11, some (nD p.1), some (nD p.2), none, none, none]) := by
          rcases o.needP s a hp (cutP_ok s p).2 hlt with z | ⟨z1, z2⟩
          · have := hhas p.2 (by omega) (by omega)
            rw [z] at this
            rw [decide_eq_true this] at q1
            simp [q1]
          · have := hhas p.1 (by omega) (by omega)
            rw [z2] at this
            rw [decide_eq_true this] at q2
            cases hz : decide ((p.2, p.1) ∈ l) with
            | true =>
              rw [hz] at q1
              simp [q1]
            | false =>
              rw [hz] at q1
              simp [q1, q2]
        rw [key]
        exact ⟨_, rfl, rfl, _, _, rfl⟩
      obtain ⟨v12, v13, rfl⟩ := hI
      simp only [thenP_nx]
      refine Ok_seq ?_
      have s13 : ifS (tstD (op2 neD (compD (seqI (callP d_needed_hills (consA (varD 7) (consA (varD 8) (nilA))))) [14] (bName 14) (orT (tstD (op2 inD (varD 14) (callP d_leaves (consA (varD 4) (nilA))))) (tstD (op2 inD (varD 14) (callP d_leaves (consA (varD 2) (nilA)))))) (varD 14)) (lstD (nilA)))) (retS (cD (.bool false))) (nextS) [some (scrV ns), some (twn k), some NT, some RW, some TT, none, none, some (nD many), some PS, some ML, some DM, v11, v12, v13, none, none, none] = .ok (.nx, [some (scrV ns), some (twn k), some NT, some RW, some TT, none, none, some (nD many), some PS, some ML, some DM, v11, v12, v13, none, none, none]) := by
        have hcomp : compD (seqI (callP d_needed_hills (consA (varD 7) (consA (varD 8) (nilA))))) [14] (bName 14) (orT (tstD (op2 inD (varD 14) (callP d_leaves (consA (varD 4) (nilA))))) (tstD (op2 inD (varD 14) (callP d_leaves (consA (varD 2) (nilA)))))) (varD 14) [some (scrV ns), some (twn k), some NT, some RW, some TT, none, none, some (nD many), some PS, some ML, some DM, v11, v12, v13, none, none, none] = .ok (.list ((((List.range' 1 (many - 1)).filter (ndH s f)).filter fun _ => false).map nD), [some (scrV ns), some (twn k), some NT, some RW, some TT, none, none, some (nD many), some PS, some ML, some DM, v11, v12, v13, none, none, none]) := by
          refine of_Ok (Ok_compP nD (fun _ => false) nD ((List.range' 1 (many - 1)).filter (ndH s f)) (by simp [hnh, itemsOf, nlD]) ?_ (fun h hh => ⟨_, rfl, ?_, fun _ => by simp, rfl⟩) rfl rfl)
          · refine Nat.le_trans (List.length_filter_le _ _) ?_
            simp
            omega
          · have hn := (List.mem_filter.mp hh).2
            have q1 := inD_nlS h (leavesN t)
            have q2 := inD_nlS h (leavesN tn)
            rw [decide_eq_false (o.no_leaf s a hn)] at q1
            rw [decide_eq_false (o1.no_leaf s a hn)] at q2
            simp [hlvA, hlvB, q1, q2]
        have hfl : (((List.range' 1 (many - 1)).filter (ndH s f)).filter fun _ => false).map nD = [] := by simp
        rw [hfl] at hcomp
        simp [hcomp, hn0]
      rw [s13]
      refine ⟨_, rfl, ?_⟩
      simp only [thenP_nx]
      clear s13
      generalize hUD : PyData.list ((L.map mm).map sgE) = UD at *
      refine Ok_seq ?_
      have s14 : setS 5 (compD (seqI (op1 sortItD (varD 10))) [15, 16] (bTup 2 (bCons (bName 15) (bCons (bName 16) (bNil)))) (yesT) (tupD (consA (opN minD (consA (varD 15) (consA (varD 16) (nilA)))) (consA (opN maxD (consA (varD 15) (consA (varD 16) (nilA)))) (nilA))))) [some (scrV ns), some (twn k), some NT, some RW, some TT, none, none, some (nD many), some PS, some ML, some DM, v11, v12, v13, none, none, none] = .ok (.nx, [some (scrV ns), some (twn k), some NT, some RW, some TT, some UD, none, some (nD many), some PS, some ML, some DM, v11, v12, v13, none, none, none]) := by
        have hcomp : compD (seqI (op1 sortItD (varD 10))) [15, 16] (bTup 2 (bCons (bName 15) (bCons (bName 16) (bNil)))) (yesT) (tupD (consA (opN minD (consA (varD 15) (consA (varD 16) (nilA)))) (consA (opN maxD (consA (varD 15) (consA (varD 16) (nilA)))) (nilA)))) [some (scrV ns), some (twn k), some NT, some RW, some TT, none, none, some (nD many), some PS, some ML, some DM, v11, v12, v13, none, none, none] = .ok (UD, [some (scrV ns), some (twn k), some NT, some RW, some TT, none, none, some (nD many), some PS, some ML, some DM, v11, v12, v13, none, none, none]) := by
          rw [← hUD, List.map_map]
          refine of_Ok (Ok_compY sgE (fun e => sgE (mm e)) L (by simp [hsi, itemsOf]) (by omega) (fun e he => ⟨_, rfl, ?_, rfl⟩) rfl rfl)
          have q1 := minD_n e.1 e.2
          have q2 := maxD_2 e.1 e.2
          simp [q1, q2, sgE, mm]
        rw [ev_setS, hcomp]
        rfl
      rw [s14]
      refine ⟨_, rfl, ?_⟩
      simp only [thenP_nx]
      clear s14
      generalize hFW : PyData.tuple (qs.map sgE) = FW at *
      generalize hFL : PyData.list (qs.map sgE) = FL at *
      refine Ok_seq ?_
      have s15 : setS 6 (opN tupleD (consA (op1 sortedPD (varD 5)) (nilA))) [some (scrV ns), some (twn k), some NT, some RW, some TT, some UD, none, some (nD many), some PS, some ML, some DM, v11, v12, v13, none, none, none] = .ok (.nx, [some (scrV ns), some (twn k), some NT, some RW, some TT, some UD, some FW, some (nD many), some PS, some ML, some DM, v11, v12, v13, none, none, none]) := by
        simp [hsp, htd2]
      rw [s15]
      refine ⟨_, rfl, ?_⟩
      simp only [thenP_nx]
      clear s15
      refine Ok_seq ?_
      have s16 : ifS (orT (tstD (op2 neD (callP d_nearest_tree (consA (varD 7) (consA (varD 6) (nilA)))) (varD 4))) (tstD (op2 neD (callP d_needed_sights (consA (varD 7) (consA (varD 6) (nilA)))) (opN listD (consA (varD 6) (nilA)))))) (retS (cD (.bool false))) (nextS) [some (scrV ns), some (twn k), some NT, some RW, some TT, some UD, some FW, some (nD many), some PS, some ML, some DM, v11, v12, v13, none, none, none] = .ok (.nx, [some (scrV ns), some (twn k), some NT, some RW, some TT, some UD, some FW, some (nD many), some PS, some ML, some DM, v11, v12, v13, none, none, none]) := by
        simp [hne2, hnn, hnp2, hld2, hnq]
      rw [s16]
      refine ⟨_, rfl, ?_⟩
      simp only [thenP_nx]
      clear s16
      have hcomp : compD (argI rng2 (consA (cD (.int 1)) (consA (varD 7) (nilA)))) [14] (bName 14) (tstD (op2 notInD (varD 14) (callP d_leaves (consA (varD 4) (nilA))))) (varD 14) [some (scrV ns), some (twn k), some NT, some RW, some TT, some UD, some FW, some (nD many), some PS, some ML, some DM, v11, v12, v13, none, none, none] = .ok (nlD ((List.range' 1 (many - 1)).filter fun h => !decide (h ∈ leavesN t)), [some (scrV ns), some (twn k), some NT, some RW, some TT, some UD, some FW, some (nD many), some PS, some ML, some DM, v11, v12, v13, none, none, none]) := by
        refine of_Ok (Ok_compP nD (fun h => !decide (h ∈ leavesN t)) nD (List.range' 1 (many - 1)) ?_ (by simp; omega) (fun h hh => ⟨_, rfl, ?_, fun _ => by simp, rfl⟩) rfl rfl)
        · have hr2 : rng2 [.int 1, nD many] = some ((List.range' 1 (many - 1)).map nD) := rng2_lit (.int 1) 1 many rfl (by omega) (by omega)
          simp [hr2]
        · have q1 := notInD_nlS h (leavesN t)
          simp [hlvA, q1]
      have heq : eqD (nlD ((List.range' 1 (many - 1)).filter fun h => !decide (h ∈ leavesN t))) (nlD ((List.range' 1 (many - 1)).filter fun h => !decide (h ∈ leavesN t))) = some (.bool true) := eqD_self (dep_nl 8 _)
      generalize nlD ((List.range' 1 (many - 1)).filter fun h => !decide (h ∈ leavesN t)) = LH at *
      simp [hnh2, hcomp, heq]
  obtain ⟨d, e, rfl⟩ := key
  exact e
end Hz

namespace Hz
open PySem PySem.Spec PyProof.Rows L2
def topS (i : Nat) : Stmt := PySem.Challenge.pw_hillarms_k39_whole_trees_by_sight.main.body.getD i (.Pass ⟨0, 0, 0, 0⟩)
abbrev s_is_whole : Stmt := topS 13
theorem sc_is_whole : FnScope ["thing", "low", "most"] ["thing", "low", "most"] (defScope s_is_whole) := ⟨rfl, rfl, rfl, by decide +kernel, rfl, by decide +kernel, by decide +kernel⟩
abbrev s_with_rests : Stmt := topS 17
theorem sc_with_rests : FnScope ["row", "made", "sign"] ["row"] (defScope s_with_rests) := ⟨rfl, rfl, rfl, by decide +kernel, rfl, by decide +kernel, by decide +kernel⟩
abbrev s_far_of : Stmt := topS 21
theorem sc_far_of : FnScope ["tree", "hill", "many"] ["tree", "hill"] (defScope s_far_of) := ⟨rfl, rfl, rfl, by decide +kernel, rfl, by decide +kernel, by decide +kernel⟩
abbrev s_below : Stmt := topS 24
theorem sc_below : FnScope ["tree", "hill", "other"] ["tree", "hill"] (defScope s_below) := ⟨rfl, rfl, rfl, by decide +kernel, rfl, by decide +kernel, by decide +kernel⟩
abbrev s_seen_from : Stmt := topS 32
theorem sc_seen_from : FnScope ["some", "hill", "sight"] ["some", "hill"] (defScope s_seen_from) := ⟨rfl, rfl, rfl, by decide +kernel, rfl, by decide +kernel, by decide +kernel⟩
abbrev s_law_cell_at : Stmt := topS 56
theorem sc_law_cell_at : FnScope ["script", "k"] ["script", "k"] (defScope s_law_cell_at) := ⟨rfl, rfl, rfl, by decide +kernel, rfl, by decide +kernel, by decide +kernel⟩
abbrev s_law_near : Stmt := topS 61
theorem sc_law_near : FnScope ["some", "hill", "other"] ["some", "hill"] (defScope s_law_near) := ⟨rfl, rfl, rfl, by decide +kernel, rfl, by decide +kernel, by decide +kernel⟩
abbrev s_is_sign : Stmt := topS 14
theorem sc_is_sign : FnScope ["thing"] ["thing"] (defScope s_is_sign) := ⟨rfl, rfl, rfl, by decide +kernel, rfl, by decide +kernel, by decide +kernel⟩
abbrev s_is_tree : Stmt := topS 20
theorem sc_is_tree : FnScope ["thing", "hill"] ["thing"] (defScope s_is_tree) := ⟨rfl, rfl, rfl, by decide +kernel, rfl, by decide +kernel, by decide +kernel⟩
abbrev s_all_leaves : Stmt := topS 26
theorem sc_all_leaves : FnScope ["tree", "hill"] ["tree"] (defScope s_all_leaves) := ⟨rfl, rfl, rfl, by decide +kernel, rfl, by decide +kernel, by decide +kernel⟩
abbrev s_greatest_far : Stmt := topS 28
theorem sc_greatest_far : FnScope ["tree", "hill"] ["tree"] (defScope s_greatest_far) := ⟨rfl, rfl, rfl, by decide +kernel, rfl, by decide +kernel, by decide +kernel⟩
abbrev s_is_sight : Stmt := topS 30
theorem sc_is_sight : FnScope ["many", "thing"] ["many", "thing"] (defScope s_is_sight) := ⟨rfl, rfl, rfl, by decide +kernel, rfl, by decide +kernel, by decide +kernel⟩
abbrev s_distances : Stmt := topS 33
theorem sc_distances : FnScope ["some", "start", "closed", "found", "row", "hill", "other"] ["some", "start", "closed"] (defScope s_distances) := ⟨rfl, rfl, rfl, by decide +kernel, rfl, by decide +kernel, by decide +kernel⟩
abbrev s_is_pair : Stmt := topS 43
theorem sc_is_pair : FnScope ["tree", "thing"] ["tree", "thing"] (defScope s_is_pair) := ⟨rfl, rfl, rfl, by decide +kernel, rfl, by decide +kernel, by decide +kernel⟩
abbrev s_is_repeated : Stmt := topS 48
theorem sc_is_repeated : FnScope ["tree", "shows", "hill", "unseen", "other"] ["tree", "shows", "hill", "unseen"] (defScope s_is_repeated) := ⟨rfl, rfl, rfl, by decide +kernel, rfl, by decide +kernel, by decide +kernel⟩
abbrev s_law_mixed : Stmt := topS 57
theorem sc_law_mixed : FnScope ["script", "k", "many", "drawn"] ["script", "k", "many"] (defScope s_law_mixed) := ⟨rfl, rfl, rfl, by decide +kernel, rfl, by decide +kernel, by decide +kernel⟩
abbrev s_is_row : Stmt := topS 15
theorem sc_is_row : FnScope ["thing", "sign"] ["thing"] (defScope s_is_row) := ⟨rfl, rfl, rfl, by decide +kernel, rfl, by decide +kernel, by decide +kernel⟩
abbrev s_need_tree : Stmt := topS 22
theorem sc_need_tree : FnScope ["thing"] ["thing"] (defScope s_need_tree) := ⟨rfl, rfl, rfl, by decide +kernel, rfl, by decide +kernel, by decide +kernel⟩
abbrev s_need_sights : Stmt := topS 31
theorem sc_need_sights : FnScope ["many", "thing", "sight", "one", "other"] ["many", "thing"] (defScope s_need_sights) := ⟨rfl, rfl, rfl, by decide +kernel, rfl, by decide +kernel, by decide +kernel⟩
abbrev s_is_fog : Stmt := topS 44
theorem sc_is_fog : FnScope ["tree", "thing", "one", "other", "pair"] ["tree", "thing"] (defScope s_is_fog) := ⟨rfl, rfl, rfl, by decide +kernel, rfl, by decide +kernel, by decide +kernel⟩
abbrev s_is_slip : Stmt := topS 45
theorem sc_is_slip : FnScope ["tree", "thing"] ["tree", "thing"] (defScope s_is_slip) := ⟨rfl, rfl, rfl, by decide +kernel, rfl, by decide +kernel, by decide +kernel⟩
abbrev s_next_show : Stmt := topS 49
theorem sc_next_show : FnScope ["tree", "shows", "hill", "unseen", "first"] ["tree", "shows", "hill", "unseen"] (defScope s_next_show) := ⟨rfl, rfl, rfl, by decide +kernel, rfl, by decide +kernel, by decide +kernel⟩
abbrev s_law_draw : Stmt := topS 58
theorem sc_law_draw : FnScope ["script", "town", "many"] ["script", "town", "many"] (defScope s_law_draw) := ⟨rfl, rfl, rfl, by decide +kernel, rfl, by decide +kernel, by decide +kernel⟩
abbrev s_need_row : Stmt := topS 16
theorem sc_need_row : FnScope ["thing"] ["thing"] (defScope s_need_row) := ⟨rfl, rfl, rfl, by decide +kernel, rfl, by decide +kernel, by decide +kernel⟩
abbrev s_need_hill : Stmt := topS 23
theorem sc_need_hill : FnScope ["tree", "thing"] ["tree", "thing"] (defScope s_need_hill) := ⟨rfl, rfl, rfl, by decide +kernel, rfl, by decide +kernel, by decide +kernel⟩
abbrev s_leaves : Stmt := topS 27
theorem sc_leaves : FnScope ["tree"] ["tree"] (defScope s_leaves) := ⟨rfl, rfl, rfl, by decide +kernel, rfl, by decide +kernel, by decide +kernel⟩
abbrev s_nearest_tree : Stmt := topS 34
theorem sc_nearest_tree : FnScope ["many", "some", "found", "made", "hill", "other"] ["many", "some"] (defScope s_nearest_tree) := ⟨rfl, rfl, rfl, by decide +kernel, rfl, by decide +kernel, by decide +kernel⟩
abbrev s_unreached : Stmt := topS 35
theorem sc_unreached : FnScope ["many", "some", "found", "hill"] ["many", "some"] (defScope s_unreached) := ⟨rfl, rfl, rfl, by decide +kernel, rfl, by decide +kernel, by decide +kernel⟩
abbrev s_needed_hills : Stmt := topS 36
theorem sc_needed_hills : FnScope ["many", "some", "found", "made", "hill"] ["many", "some"] (defScope s_needed_hills) := ⟨rfl, rfl, rfl, by decide +kernel, rfl, by decide +kernel, by decide +kernel⟩
abbrev s_needed_sights : Stmt := topS 37
theorem sc_needed_sights : FnScope ["many", "some", "whole", "sight", "one"] ["many", "some"] (defScope s_needed_sights) := ⟨rfl, rfl, rfl, by decide +kernel, rfl, by decide +kernel, by decide +kernel⟩
abbrev s_is_of : Stmt := topS 38
theorem sc_is_of : FnScope ["many", "some", "tree", "hill", "first"] ["many", "some", "tree"] (defScope s_is_of) := ⟨rfl, rfl, rfl, by decide +kernel, rfl, by decide +kernel, by decide +kernel⟩
abbrev s_are_slips : Stmt := topS 46
theorem sc_are_slips : FnScope ["tree", "thing", "one", "other", "slip"] ["tree", "thing"] (defScope s_are_slips) := ⟨rfl, rfl, rfl, by decide +kernel, rfl, by decide +kernel, by decide +kernel⟩
abbrev s_stepped : Stmt := topS 50
theorem sc_stepped : FnScope ["tree", "shows", "items", "unseen", "wrong", "made", "hill"] ["tree", "shows", "items", "unseen", "wrong"] (defScope s_stepped) := ⟨rfl, rfl, rfl, by decide +kernel, rfl, by decide +kernel, by decide +kernel⟩
abbrev s_clear_time : Stmt := topS 54
theorem sc_clear_time : FnScope ["tree", "many"] ["tree", "many"] (defScope s_clear_time) := ⟨rfl, rfl, rfl, by decide +kernel, rfl, by decide +kernel, by decide +kernel⟩
abbrev s_law_pick : Stmt := topS 59
theorem sc_law_pick : FnScope ["script", "town", "some"] ["script", "town", "some"] (defScope s_law_pick) := ⟨rfl, rfl, rfl, by decide +kernel, rfl, by decide +kernel, by decide +kernel⟩
abbrev s_law_sights : Stmt := topS 60
theorem sc_law_sights : FnScope ["script", "town", "many", "thick", "some", "one", "other"] ["script", "town"] (defScope s_law_sights) := ⟨rfl, rfl, rfl, by decide +kernel, rfl, by decide +kernel, by decide +kernel⟩
abbrev s_far : Stmt := topS 25
theorem sc_far : FnScope ["tree", "hill"] ["tree", "hill"] (defScope s_far) := ⟨rfl, rfl, rfl, by decide +kernel, rfl, by decide +kernel, by decide +kernel⟩
abbrev s_need_all : Stmt := topS 47
theorem sc_need_all : FnScope ["tree", "row", "fog", "slips"] ["tree", "row", "fog", "slips"] (defScope s_need_all) := ⟨rfl, rfl, rfl, by decide +kernel, rfl, by decide +kernel, by decide +kernel⟩
abbrev s_all_shows : Stmt := topS 51
theorem sc_all_shows : FnScope ["tree", "row", "fog", "slips", "shows", "items", "made", "moment", "unseen", "wrong", "when", "hill", "sign"] ["tree", "row", "fog", "slips"] (defScope s_all_shows) := ⟨rfl, rfl, rfl, by decide +kernel, rfl, by decide +kernel, by decide +kernel⟩
abbrev s_law_sign : Stmt := topS 63
theorem sc_law_sign : FnScope ["script", "town"] ["script", "town"] (defScope s_law_sign) := ⟨rfl, rfl, rfl, by decide +kernel, rfl, by decide +kernel, by decide +kernel⟩
abbrev s_over : Stmt := topS 52
theorem sc_over : FnScope ["tree", "row", "fog", "slips"] ["tree", "row", "fog", "slips"] (defScope s_over) := ⟨rfl, rfl, rfl, by decide +kernel, rfl, by decide +kernel, by decide +kernel⟩
abbrev s_law_row : Stmt := topS 64
theorem sc_law_row : FnScope ["script", "town", "most", "k"] ["script", "town", "most"] (defScope s_law_row) := ⟨rfl, rfl, rfl, by decide +kernel, rfl, by decide +kernel, by decide +kernel⟩
abbrev s_law : Stmt := topS 65
theorem sc_law : FnScope ["script", "town", "nearest", "row", "tree", "used", "fewer", "many", "some", "met", "made", "pairs", "one", "other", "hill", "a", "b"] ["script"] (defScope s_law) := ⟨rfl, rfl, rfl, by decide +kernel, rfl, by decide +kernel, by decide +kernel⟩
structure Ad where
  f_is_whole : Addr
  d_is_whole : FuncData
  f_with_rests : Addr
  d_with_rests : FuncData
  f_far_of : Addr
  d_far_of : FuncData
  f_below : Addr
  d_below : FuncData
  f_seen_from : Addr
  d_seen_from : FuncData
  f_law_cell_at : Addr
  d_law_cell_at : FuncData
  f_law_near : Addr
  d_law_near : FuncData
  f_is_sign : Addr
  d_is_sign : FuncData
  f_is_tree : Addr
  d_is_tree : FuncData
  f_all_leaves : Addr
  d_all_leaves : FuncData
  f_greatest_far : Addr
  d_greatest_far : FuncData
  f_is_sight : Addr
  d_is_sight : FuncData
  f_distances : Addr
  d_distances : FuncData
  f_is_pair : Addr
  d_is_pair : FuncData
  f_is_repeated : Addr
  d_is_repeated : FuncData
  f_law_mixed : Addr
  d_law_mixed : FuncData
  f_is_row : Addr
  d_is_row : FuncData
  f_need_tree : Addr
  d_need_tree : FuncData
  f_need_sights : Addr
  d_need_sights : FuncData
  f_is_fog : Addr
  d_is_fog : FuncData
  f_is_slip : Addr
  d_is_slip : FuncData
  f_next_show : Addr
  d_next_show : FuncData
  f_law_draw : Addr
  d_law_draw : FuncData
  f_need_row : Addr
  d_need_row : FuncData
  f_need_hill : Addr
  d_need_hill : FuncData
  f_leaves : Addr
  d_leaves : FuncData
  f_nearest_tree : Addr
  d_nearest_tree : FuncData
  f_unreached : Addr
  d_unreached : FuncData
  f_needed_hills : Addr
  d_needed_hills : FuncData
  f_needed_sights : Addr
  d_needed_sights : FuncData
  f_is_of : Addr
  d_is_of : FuncData
  f_are_slips : Addr
  d_are_slips : FuncData
  f_stepped : Addr
  d_stepped : FuncData
  f_clear_time : Addr
  d_clear_time : FuncData
  f_law_pick : Addr
  d_law_pick : FuncData
  f_law_sights : Addr
  d_law_sights : FuncData
  f_far : Addr
  d_far : FuncData
  f_need_all : Addr
  d_need_all : FuncData
  f_all_shows : Addr
  d_all_shows : FuncData
  f_law_sign : Addr
  d_law_sign : FuncData
  f_over : Addr
  d_over : FuncData
  f_law_row : Addr
  d_law_row : FuncData
  f_law : Addr
  d_law : FuncData
  A_CONTROLS : Addr
structure Tx (K : PySem.W.Frag) (mg : Str → Option Value) (cl : Nat → Addr) (a : Ad) : Prop where
  f_is_whole : FnF K mg "is_whole" s_is_whole ["thing", "low", "most"] a.f_is_whole a.d_is_whole
  f_with_rests : FnF K mg "with_rests" s_with_rests ["row"] a.f_with_rests a.d_with_rests
  f_far_of : FnF K mg "far_of" s_far_of ["tree", "hill"] a.f_far_of a.d_far_of
  f_below : FnF K mg "below" s_below ["tree", "hill"] a.f_below a.d_below
  f_seen_from : FnF K mg "seen_from" s_seen_from ["some", "hill"] a.f_seen_from a.d_seen_from
  f_law_cell_at : FnF K mg "_law_cell_at" s_law_cell_at ["script", "k"] a.f_law_cell_at a.d_law_cell_at
  f_law_near : FnF K mg "_law_near" s_law_near ["some", "hill"] a.f_law_near a.d_law_near
  f_is_sign : FnF K mg "is_sign" s_is_sign ["thing"] a.f_is_sign a.d_is_sign
  f_is_tree : FnF K mg "is_tree" s_is_tree ["thing"] a.f_is_tree a.d_is_tree
  f_all_leaves : FnF K mg "all_leaves" s_all_leaves ["tree"] a.f_all_leaves a.d_all_leaves
  f_greatest_far : FnF K mg "greatest_far" s_greatest_far ["tree"] a.f_greatest_far a.d_greatest_far
  f_is_sight : FnF K mg "is_sight" s_is_sight ["many", "thing"] a.f_is_sight a.d_is_sight
  f_distances : FnF K mg "distances" s_distances ["some", "start", "closed"] a.f_distances a.d_distances
  f_is_pair : FnF K mg "is_pair" s_is_pair ["tree", "thing"] a.f_is_pair a.d_is_pair
  f_is_repeated : FnF K mg "is_repeated" s_is_repeated ["tree", "shows", "hill", "unseen"] a.f_is_repeated a.d_is_repeated
  f_law_mixed : FnF K mg "_law_mixed" s_law_mixed ["script", "k", "many"] a.f_law_mixed a.d_law_mixed
  f_is_row : FnF K mg "is_row" s_is_row ["thing"] a.f_is_row a.d_is_row
  f_need_tree : FnF K mg "need_tree" s_need_tree ["thing"] a.f_need_tree a.d_need_tree
  f_need_sights : FnF K mg "need_sights" s_need_sights ["many", "thing"] a.f_need_sights a.d_need_sights
  f_is_fog : FnF K mg "is_fog" s_is_fog ["tree", "thing"] a.f_is_fog a.d_is_fog
  f_is_slip : FnF K mg "is_slip" s_is_slip ["tree", "thing"] a.f_is_slip a.d_is_slip
  f_next_show : FnF K mg "next_show" s_next_show ["tree", "shows", "hill", "unseen"] a.f_next_show a.d_next_show
  f_law_draw : FnF K mg "_law_draw" s_law_draw ["script", "town", "many"] a.f_law_draw a.d_law_draw
  f_need_row : FnF K mg "need_row" s_need_row ["thing"] a.f_need_row a.d_need_row
  f_need_hill : FnF K mg "need_hill" s_need_hill ["tree", "thing"] a.f_need_hill a.d_need_hill
  f_leaves : FnF K mg "leaves" s_leaves ["tree"] a.f_leaves a.d_leaves
  f_nearest_tree : FnF K mg "nearest_tree" s_nearest_tree ["many", "some"] a.f_nearest_tree a.d_nearest_tree
  f_unreached : FnF K mg "unreached" s_unreached ["many", "some"] a.f_unreached a.d_unreached
  f_needed_hills : FnF K mg "needed_hills" s_needed_hills ["many", "some"] a.f_needed_hills a.d_needed_hills
  f_needed_sights : FnF K mg "needed_sights" s_needed_sights ["many", "some"] a.f_needed_sights a.d_needed_sights
  f_is_of : FnF K mg "is_of" s_is_of ["many", "some", "tree"] a.f_is_of a.d_is_of
  f_are_slips : FnF K mg "are_slips" s_are_slips ["tree", "thing"] a.f_are_slips a.d_are_slips
  f_stepped : FnF K mg "stepped" s_stepped ["tree", "shows", "items", "unseen", "wrong"] a.f_stepped a.d_stepped
  f_clear_time : FnF K mg "clear_time" s_clear_time ["tree", "many"] a.f_clear_time a.d_clear_time
  f_law_pick : FnF K mg "_law_pick" s_law_pick ["script", "town", "some"] a.f_law_pick a.d_law_pick
  f_law_sights : FnF K mg "_law_sights" s_law_sights ["script", "town"] a.f_law_sights a.d_law_sights
  f_far : FnF K mg "far" s_far ["tree", "hill"] a.f_far a.d_far
  f_need_all : FnF K mg "need_all" s_need_all ["tree", "row", "fog", "slips"] a.f_need_all a.d_need_all
  f_all_shows : FnF K mg "all_shows" s_all_shows ["tree", "row", "fog", "slips"] a.f_all_shows a.d_all_shows
  f_law_sign : FnF K mg "_law_sign" s_law_sign ["script", "town"] a.f_law_sign a.d_law_sign
  f_over : FnF K mg "over" s_over ["tree", "row", "fog", "slips"] a.f_over a.d_over
  f_law_row : FnF K mg "_law_row" s_law_row ["script", "town", "most"] a.f_law_row a.d_law_row
  f_law : FnF K mg "law" s_law ["script"] a.f_law a.d_law
  z_all : mg "all" = none
  z_bool : mg "bool" = none
  z_dict : mg "dict" = none
  z_enumerate : mg "enumerate" = none
  z_int : mg "int" = none
  z_isinstance : mg "isinstance" = none
  z_len : mg "len" = none
  z_list : mg "list" = none
  z_max : mg "max" = none
  z_min : mg "min" = none
  z_range : mg "range" = none
  z_sorted : mg "sorted" = none
  z_str : mg "str" = none
  z_sum : mg "sum" = none
  z_tuple : mg "tuple" = none
  z_zip : mg "zip" = none
  c_CONTROLS : mg "CONTROLS" = some (.ref a.A_CONTROLS) ∧ ∀ H, SqT K H a.A_CONTROLS ((["begin", "end", "halt", "spell", "strike", "word"] : List Str).map V.str)
  c_FOGS : ∃ t, mg "FOGS" = some (.int 12 t)
  c_HILLS : ∃ t, mg "HILLS" = some (.int 8 t)
  c_LONG : ∃ t, mg "LONG" = some (.int 160 t)
  c_MOMENTS : ∃ t, mg "MOMENTS" = some (.int 999 t)
  c_MOST : ∃ t, mg "MOST" = some (.int 11 t)
  c_REST : ∃ t, mg "REST" = some (.str "rest" t)
  c_SLIPS : ∃ t, mg "SLIPS" = some (.int 6 t)
  e_NoFog : ExF K mg "NoFog" (cl 4) []
  e_NoHill : ExF K mg "NoHill" (cl 7) []
  e_NoRow : ExF K mg "NoRow" (cl 2) []
  e_NoSights : ExF K mg "NoSights" (cl 9) []
  e_NoSlips : ExF K mg "NoSlips" (cl 5) []
  e_NoTree : ExF K mg "NoTree" (cl 3) []
section
variable {P : Program} {w : World} {K : PySem.W.Frag} {mg : Str → Option Value} {base : Heap} {cl : Nat → Addr} {a : Ad}
theorem ok_is_whole (T : Tx K mg cl a) : FnOk P w K mg base (L2N.CX P w) 2 a.f_is_whole a.d_is_whole ["thing", "low", "most"] (spP K cl 3 d_is_whole) :=
  fnP (oN := []) T.f_is_whole.fu sc_is_whole rfl (fun _ _ => rfl) fun cdv A outer s H E hr => ⟨_, (dss_one (ds_retO (de_and (de_isi T.z_isinstance T.z_int boot_int (de_v 0)) (de_and (de_not (de_isi T.z_isinstance T.z_bool boot_bool (de_v 0))) (de_one (de_chain op_le v_le op_le v_le (de_v 1) (de_v 0) (de_v 2)))))))⟩
theorem ok_with_rests (T : Tx K mg cl a) : FnOk P w K mg base (L2N.CX P w) 2 a.f_with_rests a.d_with_rests ["row"] (spP K cl 1 d_with_rests) :=
  fnP (oN := []) T.f_with_rests.fu sc_with_rests rfl (fun _ _ => rfl) fun cdv A outer s H E hr => ⟨_, (dss_cons (ds_setO 1 sc_with_rests.nd (dn_lst da_nil (ln_le ln_nil (by decide)))) (dss_cons (ds_for pwD (di_seq (de_v 0)) (dg_name 2 sc_with_rests.nd) (dss_one (ds_ext 1 (by decide) (pv_own 1) (de_lst (da_cons (de_v 2) (da_cons (de_gstr T.c_REST) da_nil)) (ln_le (ln_cons (ln_cons ln_nil)) (by decide)))))) (dss_frz 1 (dss_one (ds_retO (de_v 1))))))⟩
theorem ok_far_of (T : Tx K mg cl a) : FnOk P w K mg base (L2N.CX P w) 2 a.f_far_of a.d_far_of ["tree", "hill"] (spP K cl 2 d_far_of) :=
  fnP (oN := []) T.f_far_of.fu sc_far_of rfl (fun _ _ => rfl) fun cdv A outer s H E hr => ⟨_, (dss_cons (ds_set 2 sc_far_of.nd de_int) (dss_cons (ds_while pwD (dt_w (dw_and (dt_cmp (op_neD hr.units) v_ne (de_v 1) de_int) (dw_and1 (dt_cmp op_le v_le (de_v 2) (de_blt call_len2 v_len T.z_len boot_len (da_cons (de_v 0) da_nil)))))) (dss_cons (ds_set 1 sc_far_of.nd (de_idx (de_v 0) (de_bin op_sub v_sub (de_v 1) de_int))) (dss_one (ds_set 2 sc_far_of.nd (de_bin op_add2 v_add2 (de_v 2) de_int))))) (dss_one (ds_retO (de_if (dt_cmp (op_eqD hr.units) v_eq (de_v 1) de_int) (de_v 2) de_non)))))⟩
theorem ok_below (T : Tx K mg cl a) : FnOk P w K mg base (L2N.CX P w) 2 a.f_below a.d_below ["tree", "hill"] (spP K cl 2 d_below) :=
  fnP (oN := []) T.f_below.fu sc_below rfl (fun _ _ => rfl) fun cdv A outer s H E hr => ⟨_, (dss_one (ds_retO (de_new (dn_comp sc_below.nd (di_rng2 T.z_range (da_cons de_int (da_cons (de_bin op_add2 v_add2 (de_blt call_len2 v_len T.z_len boot_len (da_cons (de_v 0) da_nil)) de_int) da_nil))) (blkOk_by (own := [("other", 2)]) (N := ["tree", "hill", "other"]) (sc := defScope s_below) (by decide +kernel)) (fun _ _ _ _ _ => (dg_name 2 sc_below.nd)) (fun _ _ _ _ _ => (dts_one (dt_cmp (op_eqD hr.units) v_eq (de_idx (de_v 0) (de_bin op_sub v_sub (de_v 2) de_int)) (de_v 1)))) (fun _ _ _ _ _ => (de_v 2))))))⟩
theorem ok_seen_from (T : Tx K mg cl a) : FnOk P w K mg base (L2N.CX P w) 2 a.f_seen_from a.d_seen_from ["some", "hill"] (spP K cl 2 d_seen_from) :=
  fnP (oN := []) T.f_seen_from.fu sc_seen_from rfl (fun _ _ => rfl) fun cdv A outer s H E hr => ⟨_, (dss_one (ds_retO (de_new (dn_sorted hr T.z_sorted (da_cons (de_new (dn_comp sc_seen_from.nd (di_seq (de_v 0)) (blkOk_by (own := [("sight", 2)]) (N := ["some", "hill", "sight"]) (sc := defScope s_seen_from) (by decide +kernel)) (fun _ _ _ _ _ => (dg_name 2 sc_seen_from.nd)) (fun _ _ _ _ _ => (dts_one (dt_cmp (op_inA (u65 hr)) v_in (de_v 1) (de_v 2)))) (fun _ _ _ _ _ => (de_bin op_sub v_sub (de_blt (cr_sumT rfl) v_sumT T.z_sum boot_sum (da_cons (de_v 2) da_nil)) (de_v 1))))) da_nil)))))⟩
theorem ok_law_cell_at (T : Tx K mg cl a) : FnOk P w K mg base (L2N.CX P w) 2 a.f_law_cell_at a.d_law_cell_at ["script", "k"] (spP K cl 2 d_law_cell_at) :=
  fnP (oN := []) T.f_law_cell_at.fu sc_law_cell_at rfl (fun _ _ => rfl) fun cdv A outer s H E hr => ⟨_, (dss_cons (ds_if (dt_cmp (op_lt2 hr.units0) v_lt2 (de_v 1) (de_blt call_len2 v_len T.z_len boot_len (da_cons (de_v 0) da_nil))) (dss_one (ds_retO (de_idx (de_v 0) (de_v 1)))) dss_nil) (dss_cons (ds_if (dt_cmp (op_eqD hr.units) v_eq (de_v 0) (de_lst da_nil (ln_le ln_nil (by decide)))) (dss_one (ds_retO de_int)) dss_nil) (dss_one (ds_retO (de_bin op_add2 v_add2 (de_bin op_mul2 v_mul2 (de_idx (de_v 0) (de_bin op_mod v_mod (de_v 1) (de_blt call_len2 v_len T.z_len boot_len (da_cons (de_v 0) da_nil)))) de_int) (de_v 1))))))⟩
theorem ok_law_near (T : Tx K mg cl a) : FnOk P w K mg base (L2N.CX P w) 2 a.f_law_near a.d_law_near ["some", "hill"] (spP K cl 2 d_law_near) :=
  fnP (oN := []) T.f_law_near.fu sc_law_near rfl (fun _ _ => rfl) fun cdv A outer s H E hr => ⟨_, (dss_one (ds_retO (de_new (dn_comp sc_law_near.nd (di_rng1 T.z_range (da_cons de_int da_nil)) (blkOk_by (own := [("other", 2)]) (N := ["some", "hill", "other"]) (sc := defScope s_law_near) (by decide +kernel)) (fun _ _ _ _ _ => (dg_name 2 sc_law_near.nd)) (fun _ _ _ _ _ => (dts_one (dt_w (dw_and (dt_cmp (op_inA (u65 hr)) v_in (de_tup (da_cons (de_blt (call_minA rfl) v_min T.z_min boot_min (da_cons (de_v 1) (da_cons (de_v 2) da_nil))) (da_cons (de_blt (call_maxA rfl) v_max T.z_max boot_max (da_cons (de_v 1) (da_cons (de_v 2) da_nil))) da_nil)) (ln_le (ln_cons (ln_cons ln_nil)) (by decide))) (de_v 0)) (dw_and1 (dt_cmp (op_neD hr.units) v_ne (de_v 2) (de_v 1))))))) (fun _ _ _ _ _ => (de_v 2))))))⟩
theorem ok_is_sign (T : Tx K mg cl a) : FnOk P w K mg base (L2N.CX P w) 3 a.f_is_sign a.d_is_sign ["thing"] (spP K cl 1 d_is_sign) :=
  fnP (oN := []) T.f_is_sign.fu sc_is_sign rfl (fun _ _ => rfl) fun cdv A outer s H E hr => ⟨_, (dss_one (ds_retO (de_or (de_callP ((ok_is_whole T).mono (by decide)) hr T.f_is_whole.gl T.f_is_whole.fu.kp T.f_is_whole.bi tkD (da_cons (de_v 0) (da_cons de_int (da_cons (de_gint T.c_MOST) da_nil))) (ln_cons (ln_cons (ln_cons ln_nil)))) (de_one (de_and (de_isi T.z_isinstance T.z_str boot_str (de_v 0)) (de_one (de_cmp (op_inA (u65 hr)) v_in (de_v 0) (de_gtup T.c_CONTROLS))))))))⟩
theorem ok_is_tree (T : Tx K mg cl a) : FnOk P w K mg base (L2N.CX P w) 3 a.f_is_tree a.d_is_tree ["thing"] (spP K cl 1 d_is_tree) :=
  fnP (oN := []) T.f_is_tree.fu sc_is_tree rfl (fun _ _ => rfl) fun cdv A outer s H E hr => ⟨_, (dss_cons (ds_if (dt_w (dw_or (dt_not (dt_val (de_isi T.z_isinstance T.z_tuple boot_tuple (de_v 0)))) (dw_or1 (dt_not (dt_chain op_le v_le (op_lt2 hr.units0) v_lt2 de_int (de_blt call_len2 v_len T.z_len boot_len (da_cons (de_v 0) da_nil)) (de_gint T.c_HILLS)))))) (dss_one (ds_retO de_bl)) dss_nil) (dss_cons (ds_if (dt_not (dt_val (de_blt (cr_all rfl) v_all T.z_all boot_all (da_cons (de_new (dn_comp sc_is_tree.nd (di_seq (de_v 0)) (blkOk_by (own := [("hill", 1)]) (N := ["thing", "hill"]) (sc := defScope s_is_tree) (by decide +kernel)) (fun _ _ _ _ _ => (dg_name 1 sc_is_tree.nd)) (fun _ _ _ _ _ => dts_nil) (fun _ _ _ _ _ => (de_callP ((ok_is_whole T).mono (by decide)) hr T.f_is_whole.gl T.f_is_whole.fu.kp T.f_is_whole.bi tkF (da_cons (de_v 1) (da_cons de_int (da_cons (de_blt call_len2 v_len T.z_len boot_len (da_cons (de_v 0) da_nil)) da_nil))) (ln_cons (ln_cons (ln_cons ln_nil))))))) da_nil)))) (dss_one (ds_retO de_bl)) dss_nil) (dss_one (ds_retO (de_blt (cr_all rfl) v_all T.z_all boot_all (da_cons (de_new (dn_comp sc_is_tree.nd (di_rng1 T.z_range (da_cons (de_bin op_add2 v_add2 (de_blt call_len2 v_len T.z_len boot_len (da_cons (de_v 0) da_nil)) de_int) da_nil)) (blkOk_by (own := [("hill", 1)]) (N := ["thing", "hill"]) (sc := defScope s_is_tree) (by decide +kernel)) (fun _ _ _ _ _ => (dg_name 1 sc_is_tree.nd)) (fun _ _ _ _ _ => dts_nil) (fun _ _ _ _ _ => (de_cmp op_isNot2 v_isNot (de_callP ((ok_far_of T).mono (by decide)) hr T.f_far_of.gl T.f_far_of.fu.kp T.f_far_of.bi tkF (da_cons (de_v 0) (da_cons (de_v 1) da_nil)) (ln_cons (ln_cons ln_nil))) de_non)))) da_nil))))))⟩
theorem ok_all_leaves (T : Tx K mg cl a) : FnOk P w K mg base (L2N.CX P w) 3 a.f_all_leaves a.d_all_leaves ["tree"] (spP K cl 1 d_all_leaves) :=
  fnP (oN := []) T.f_all_leaves.fu sc_all_leaves rfl (fun _ _ => rfl) fun cdv A outer s H E hr => ⟨_, (dss_one (ds_retO (de_new (dn_comp sc_all_leaves.nd (di_rng2 T.z_range (da_cons de_int (da_cons (de_bin op_add2 v_add2 (de_blt call_len2 v_len T.z_len boot_len (da_cons (de_v 0) da_nil)) de_int) da_nil))) (blkOk_by (own := [("hill", 1)]) (N := ["tree", "hill"]) (sc := defScope s_all_leaves) (by decide +kernel)) (fun _ _ _ _ _ => (dg_name 1 sc_all_leaves.nd)) (fun _ _ _ _ _ => (dts_one (dt_cmp (op_eqD hr.units) v_eq (de_callP ((ok_below T).mono (by decide)) hr T.f_below.gl T.f_below.fu.kp T.f_below.bi tkF (da_cons (de_v 0) (da_cons (de_v 1) da_nil)) (ln_cons (ln_cons ln_nil))) (de_lst da_nil (ln_le ln_nil (by decide)))))) (fun _ _ _ _ _ => (de_v 1))))))⟩
theorem ok_greatest_far (T : Tx K mg cl a) : FnOk P w K mg base (L2N.CX P w) 3 a.f_greatest_far a.d_greatest_far ["tree"] (spP K cl 1 d_greatest_far) :=
  fnP (oN := []) T.f_greatest_far.fu sc_greatest_far rfl (fun _ _ => rfl) fun cdv A outer s H E hr => ⟨_, (dss_one (ds_retO (de_blt (call_maxA rfl) v_max T.z_max boot_max (da_cons (de_new (dn_comp sc_greatest_far.nd (di_rng1 T.z_range (da_cons (de_bin op_add2 v_add2 (de_blt call_len2 v_len T.z_len boot_len (da_cons (de_v 0) da_nil)) de_int) da_nil)) (blkOk_by (own := [("hill", 1)]) (N := ["tree", "hill"]) (sc := defScope s_greatest_far) (by decide +kernel)) (fun _ _ _ _ _ => (dg_name 1 sc_greatest_far.nd)) (fun _ _ _ _ _ => dts_nil) (fun _ _ _ _ _ => (de_callP ((ok_far_of T).mono (by decide)) hr T.f_far_of.gl T.f_far_of.fu.kp T.f_far_of.bi tkF (da_cons (de_v 0) (da_cons (de_v 1) da_nil)) (ln_cons (ln_cons ln_nil)))))) da_nil))))⟩
theorem ok_is_sight (T : Tx K mg cl a) : FnOk P w K mg base (L2N.CX P w) 3 a.f_is_sight a.d_is_sight ["many", "thing"] (spP K cl 2 d_is_sight) :=
  fnP (oN := []) T.f_is_sight.fu sc_is_sight rfl (fun _ _ => rfl) fun cdv A outer s H E hr => ⟨_, (dss_cons (ds_if (dt_w (dw_or (dt_not (dt_val (de_isi T.z_isinstance T.z_tuple boot_tuple (de_v 1)))) (dw_or1 (dt_cmp (op_neD hr.units) v_ne (de_blt call_len2 v_len T.z_len boot_len (da_cons (de_v 1) da_nil)) de_int)))) (dss_one (ds_retO de_bl)) dss_nil) (dss_one (ds_retO (de_and (de_callP ((ok_is_whole T).mono (by decide)) hr T.f_is_whole.gl T.f_is_whole.fu.kp T.f_is_whole.bi tkD (da_cons (de_idx (de_v 1) de_int) (da_cons de_int (da_cons (de_bin op_sub v_sub (de_v 0) de_int) da_nil))) (ln_cons (ln_cons (ln_cons ln_nil)))) (de_one (de_callP ((ok_is_whole T).mono (by decide)) hr T.f_is_whole.gl T.f_is_whole.fu.kp T.f_is_whole.bi tkD (da_cons (de_idx (de_v 1) de_int) (da_cons (de_bin op_add2 v_add2 (de_idx (de_v 1) de_int) de_int) (da_cons (de_bin op_sub v_sub (de_v 0) de_int) da_nil))) (ln_cons (ln_cons (ln_cons ln_nil)))))))))⟩
theorem ok_distances (T : Tx K mg cl a) : FnOk P w K mg base (L2N.CX P w) 3 a.f_distances a.d_distances ["some", "start", "closed"] (spP K cl 3 d_distances) :=
  fnP (oN := []) T.f_distances.fu sc_distances rfl (fun _ _ => rfl) fun cdv A outer s H E hr => ⟨_, (dss_cons (ds_setO 3 sc_distances.nd (dn_disp1 1 (by decide) (pv_own 1))) (dss_cons (ds_setO 4 sc_distances.nd (dn_lst (da_cons (de_v 1) da_nil) (ln_le (ln_cons ln_nil) (by decide)))) (dss_cons (ds_while pwD (dt_cmpOL 4 (op_neD hr.units) v_ne (by decide) (pv_own 4) (de_lst da_nil (ln_le ln_nil (by decide)))) (dss_cons (ds_set 5 sc_distances.nd (de_pop 4 (by decide) (pv_own 4) de_int)) (dss_one (ds_for pwD (di_seq (de_callP ((ok_seen_from T).mono (by decide)) hr T.f_seen_from.gl T.f_seen_from.fu.kp T.f_seen_from.bi tkD (da_cons (de_v 0) (da_cons (de_v 5) da_nil)) (ln_cons (ln_cons ln_nil)))) (dg_name 6 sc_distances.nd) (dss_one (ds_if (dt_w (dw_and (dt_dinNO 3 (hu_of hr) (by decide) (de_v 6) (pv_own 3)) (dw_and1 (dt_cmp (op_notInA (u65 hr)) v_notIn (de_v 6) (de_v 2))))) (dss_cons (ds_dput 3 (hu_of hr) (by decide) (pv_own 3) (de_v 6) (de_bin op_add2 v_add2 (de_dgetO 3 (hu_of hr) (by decide) (pv_own 3) (de_v 5)) de_int)) (dss_one (ds_app 4 (by decide) (pv_own 4) (de_v 6)))) dss_nil)))))) (dss_frz 3 (dss_one (ds_retO (de_v 3)))))))⟩
theorem ok_is_pair (T : Tx K mg cl a) : FnOk P w K mg base (L2N.CX P w) 3 a.f_is_pair a.d_is_pair ["tree", "thing"] (spP K cl 2 d_is_pair) :=
  fnP (oN := []) T.f_is_pair.fu sc_is_pair rfl (fun _ _ => rfl) fun cdv A outer s H E hr => ⟨_, (dss_cons (ds_if (dt_w (dw_or (dt_not (dt_val (de_isi T.z_isinstance T.z_tuple boot_tuple (de_v 1)))) (dw_or1 (dt_cmp (op_neD hr.units) v_ne (de_blt call_len2 v_len T.z_len boot_len (da_cons (de_v 1) da_nil)) de_int)))) (dss_one (ds_retO de_bl)) dss_nil) (dss_one (ds_retO (de_and (de_callP ((ok_is_whole T).mono (by decide)) hr T.f_is_whole.gl T.f_is_whole.fu.kp T.f_is_whole.bi tkD (da_cons (de_idx (de_v 1) de_int) (da_cons de_int (da_cons (de_gint T.c_MOMENTS) da_nil))) (ln_cons (ln_cons (ln_cons ln_nil)))) (de_one (de_callP ((ok_is_whole T).mono (by decide)) hr T.f_is_whole.gl T.f_is_whole.fu.kp T.f_is_whole.bi tkD (da_cons (de_idx (de_v 1) de_int) (da_cons de_int (da_cons (de_blt call_len2 v_len T.z_len boot_len (da_cons (de_v 0) da_nil)) da_nil))) (ln_cons (ln_cons (ln_cons ln_nil)))))))))⟩
theorem ok_is_repeated (T : Tx K mg cl a) : FnOk P w K mg base (L2N.CX P w) 3 a.f_is_repeated a.d_is_repeated ["tree", "shows", "hill", "unseen"] (spP K cl 4 d_is_repeated) :=
  fnP (oN := []) T.f_is_repeated.fu sc_is_repeated rfl (fun _ _ => rfl) fun cdv A outer s H E hr => ⟨_, (dss_one (ds_retO (de_blt (cr_all rfl) v_all T.z_all boot_all (da_cons (de_new (dn_comp sc_is_repeated.nd (di_seq (de_callP ((ok_below T).mono (by decide)) hr T.f_below.gl T.f_below.fu.kp T.f_below.bi tkD (da_cons (de_v 0) (da_cons (de_v 2) da_nil)) (ln_cons (ln_cons ln_nil)))) (blkOk_by (own := [("other", 4)]) (N := ["tree", "shows", "hill", "unseen", "other"]) (sc := defScope s_is_repeated) (by decide +kernel)) (fun _ _ _ _ _ => (dg_name 4 sc_is_repeated.nd)) (fun _ _ _ _ _ => dts_nil) (fun _ _ _ _ _ => (de_and (de_cmp (op_notInA (u65 hr)) v_notIn (de_v 4) (de_v 3)) (de_one (de_cmp (op_eqD hr.units) v_eq (de_idx (de_v 1) (de_v 4)) (de_idx (de_v 1) (de_v 2)))))))) da_nil))))⟩
theorem ok_law_mixed (T : Tx K mg cl a) : FnOk P w K mg base (L2N.CX P w) 3 a.f_law_mixed a.d_law_mixed ["script", "k", "many"] (spP K cl 3 d_law_mixed) :=
  fnP (oN := []) T.f_law_mixed.fu sc_law_mixed rfl (fun _ _ => rfl) fun cdv A outer s H E hr => ⟨_, (dss_cons (ds_set 3 sc_law_mixed.nd (de_bin op_mod v_mod (de_bin op_add2 v_add2 (de_bin op_add2 v_add2 (de_bin op_mul2 v_mul2 (de_callP ((ok_law_cell_at T).mono (by decide)) hr T.f_law_cell_at.gl T.f_law_cell_at.fu.kp T.f_law_cell_at.bi tkD (da_cons (de_v 0) (da_cons (de_v 1) da_nil)) (ln_cons (ln_cons ln_nil))) de_int) (de_bin op_mul2 v_mul2 de_int (de_v 1))) de_int) de_int)) (dss_one (ds_retO (de_bin op_mod v_mod (de_bin op_mod v_mod (de_bin op_mod v_mod (de_bin op_pow v_pow (de_v 3) de_int) de_int) de_int) (de_v 2)))))⟩
theorem ok_is_row (T : Tx K mg cl a) : FnOk P w K mg base (L2N.CX P w) 4 a.f_is_row a.d_is_row ["thing"] (spP K cl 1 d_is_row) :=
  fnP (oN := []) T.f_is_row.fu sc_is_row rfl (fun _ _ => rfl) fun cdv A outer s H E hr => ⟨_, (dss_one (ds_retO (de_and (de_isi T.z_isinstance T.z_list boot_list (de_v 0)) (de_and (de_cmp op_le v_le (de_blt call_len2 v_len T.z_len boot_len (da_cons (de_v 0) da_nil)) (de_gint T.c_LONG)) (de_one (de_blt (cr_all rfl) v_all T.z_all boot_all (da_cons (de_new (dn_comp sc_is_row.nd (di_seq (de_v 0)) (blkOk_by (own := [("sign", 1)]) (N := ["thing", "sign"]) (sc := defScope s_is_row) (by decide +kernel)) (fun _ _ _ _ _ => (dg_name 1 sc_is_row.nd)) (fun _ _ _ _ _ => dts_nil) (fun _ _ _ _ _ => (de_callP ((ok_is_sign T).mono (by decide)) hr T.f_is_sign.gl T.f_is_sign.fu.kp T.f_is_sign.bi tkF (da_cons (de_v 1) da_nil) (ln_cons ln_nil))))) da_nil)))))))⟩
theorem ok_need_tree (T : Tx K mg cl a) : FnOk P w K mg base (L2N.CX P w) 4 a.f_need_tree a.d_need_tree ["thing"] (spP K cl 1 d_need_tree) :=
  fnP (oN := []) T.f_need_tree.fu sc_need_tree rfl (fun _ _ => rfl) fun cdv A outer s H E hr => ⟨_, (dss_one (ds_if (dt_not (dt_val (de_callP ((ok_is_tree T).mono (by decide)) hr T.f_is_tree.gl T.f_is_tree.fu.kp T.f_is_tree.bi tkD (da_cons (de_v 0) da_nil) (ln_cons ln_nil)))) (dss_one (ds_raiseE (k := 3) T.e_NoTree tkD)) dss_nil))⟩
theorem ok_need_sights (T : Tx K mg cl a) : FnOk P w K mg base (L2N.CX P w) 4 a.f_need_sights a.d_need_sights ["many", "thing"] (spP K cl 2 d_need_sights) :=
  fnP (oN := []) T.f_need_sights.fu sc_need_sights rfl (fun _ _ => rfl) fun cdv A outer s H E hr => ⟨_, (dss_cons (ds_if (dt_not (dt_val (de_callP ((ok_is_whole T).mono (by decide)) hr T.f_is_whole.gl T.f_is_whole.fu.kp T.f_is_whole.bi tkD (da_cons (de_v 0) (da_cons de_int (da_cons (de_gint T.c_HILLS) da_nil))) (ln_cons (ln_cons (ln_cons ln_nil)))))) (dss_one (ds_raiseE (k := 7) T.e_NoHill tkD)) dss_nil) (dss_cons (ds_if (dt_w (dw_or (dt_not (dt_val (de_isi T.z_isinstance T.z_tuple boot_tuple (de_v 1)))) (dw_or1 (dt_not (dt_val (de_blt (cr_all rfl) v_all T.z_all boot_all (da_cons (de_new (dn_comp sc_need_sights.nd (di_seq (de_v 1)) (blkOk_by (own := [("sight", 2)]) (N := ["many", "thing", "sight", "one", "other"]) (sc := defScope s_need_sights) (by decide +kernel)) (fun _ _ _ _ _ => (dg_name 2 sc_need_sights.nd)) (fun _ _ _ _ _ => dts_nil) (fun _ _ _ _ _ => (de_callP ((ok_is_sight T).mono (by decide)) hr T.f_is_sight.gl T.f_is_sight.fu.kp T.f_is_sight.bi tkF (da_cons (de_v 0) (da_cons (de_v 2) da_nil)) (ln_cons (ln_cons ln_nil)))))) da_nil))))))) (dss_one (ds_raiseE (k := 9) T.e_NoSights tkD)) dss_nil) (dss_one (ds_if (dt_not (dt_val (de_blt (cr_all rfl) v_all T.z_all boot_all (da_cons (de_new (dn_comp sc_need_sights.nd (di_zip T.z_zip (da_cons (de_v 1) (da_cons (de_cut (de_v 1) (do_some de_int) do_no) da_nil))) (blkOk_by (own := [("one", 3), ("other", 4)]) (N := ["many", "thing", "sight", "one", "other"]) (sc := defScope s_need_sights) (by decide +kernel)) (fun _ _ _ _ _ => (dg_tup (dgs_cons (dg_name 3 sc_need_sights.nd) (dgs_cons (dg_name 4 sc_need_sights.nd) dgs_nil)))) (fun _ _ _ _ _ => dts_nil) (fun _ _ _ _ _ => (de_cmp (op_lt2 hr.units0) v_lt2 (de_v 3) (de_v 4))))) da_nil)))) (dss_one (ds_raiseE (k := 9) T.e_NoSights tkD)) dss_nil))))⟩
theorem ok_is_fog (T : Tx K mg cl a) : FnOk P w K mg base (L2N.CX P w) 4 a.f_is_fog a.d_is_fog ["tree", "thing"] (spP K cl 2 d_is_fog) :=
  fnP (oN := []) T.f_is_fog.fu sc_is_fog rfl (fun _ _ => rfl) fun cdv A outer s H E hr => ⟨_, (dss_cons (ds_if (dt_w (dw_or (dt_not (dt_val (de_isi T.z_isinstance T.z_tuple boot_tuple (de_v 1)))) (dw_or (dt_cmp op_gt v_gt (de_blt call_len2 v_len T.z_len boot_len (da_cons (de_v 1) da_nil)) (de_gint T.c_FOGS)) (dw_or1 (dt_not (dt_val (de_blt (cr_all rfl) v_all T.z_all boot_all (da_cons (de_new (dn_comp sc_is_fog.nd (di_seq (de_v 1)) (blkOk_by (own := [("pair", 4)]) (N := ["tree", "thing", "one", "other", "pair"]) (sc := defScope s_is_fog) (by decide +kernel)) (fun _ _ _ _ _ => (dg_name 4 sc_is_fog.nd)) (fun _ _ _ _ _ => dts_nil) (fun _ _ _ _ _ => (de_callP ((ok_is_pair T).mono (by decide)) hr T.f_is_pair.gl T.f_is_pair.fu.kp T.f_is_pair.bi tkF (da_cons (de_v 0) (da_cons (de_v 4) da_nil)) (ln_cons (ln_cons ln_nil)))))) da_nil)))))))) (dss_one (ds_retO de_bl)) dss_nil) (dss_one (ds_retO (de_blt (cr_all rfl) v_all T.z_all boot_all (da_cons (de_new (dn_comp sc_is_fog.nd (di_zip T.z_zip (da_cons (de_v 1) (da_cons (de_cut (de_v 1) (do_some de_int) do_no) da_nil))) (blkOk_by (own := [("one", 2), ("other", 3)]) (N := ["tree", "thing", "one", "other", "pair"]) (sc := defScope s_is_fog) (by decide +kernel)) (fun _ _ _ _ _ => (dg_tup (dgs_cons (dg_name 2 sc_is_fog.nd) (dgs_cons (dg_name 3 sc_is_fog.nd) dgs_nil)))) (fun _ _ _ _ _ => dts_nil) (fun _ _ _ _ _ => (de_cmp (op_lt2 hr.units0) v_lt2 (de_v 2) (de_v 3))))) da_nil)))))⟩
theorem ok_is_slip (T : Tx K mg cl a) : FnOk P w K mg base (L2N.CX P w) 4 a.f_is_slip a.d_is_slip ["tree", "thing"] (spP K cl 2 d_is_slip) :=
  fnP (oN := []) T.f_is_slip.fu sc_is_slip rfl (fun _ _ => rfl) fun cdv A outer s H E hr => ⟨_, (dss_one (ds_retO (de_and (de_isi T.z_isinstance T.z_tuple boot_tuple (de_v 1)) (de_and (de_cmp (op_eqD hr.units) v_eq (de_blt call_len2 v_len T.z_len boot_len (da_cons (de_v 1) da_nil)) de_int) (de_and (de_callP ((ok_is_pair T).mono (by decide)) hr T.f_is_pair.gl T.f_is_pair.fu.kp T.f_is_pair.bi tkD (da_cons (de_v 0) (da_cons (de_cut (de_v 1) do_no (do_some de_int)) da_nil)) (ln_cons (ln_cons ln_nil))) (de_one (de_callP ((ok_is_sign T).mono (by decide)) hr T.f_is_sign.gl T.f_is_sign.fu.kp T.f_is_sign.bi tkD (da_cons (de_idx (de_v 1) de_int) da_nil) (ln_cons ln_nil))))))))⟩
theorem ok_next_show (T : Tx K mg cl a) : FnOk P w K mg base (L2N.CX P w) 4 a.f_next_show a.d_next_show ["tree", "shows", "hill", "unseen"] (spP K cl 4 d_next_show) :=
  fnP (oN := []) T.f_next_show.fu sc_next_show rfl (fun _ _ => rfl) fun cdv A outer s H E hr => ⟨_, (dss_cons (ds_set 4 sc_next_show.nd (de_idx (de_v 0) (de_bin op_sub v_sub (de_v 2) de_int))) (dss_cons (ds_if (dt_w (dw_or (dt_cmp (op_inA (u65 hr)) v_in (de_v 2) (de_v 3)) (dw_or (dt_cmp (op_eqD hr.units) v_eq (de_idx (de_v 1) (de_v 4)) (de_idx (de_v 1) (de_v 2))) (dw_or1 (dt_not (dt_val (de_callP ((ok_is_repeated T).mono (by decide)) hr T.f_is_repeated.gl T.f_is_repeated.fu.kp T.f_is_repeated.bi tkD (da_cons (de_v 0) (da_cons (de_v 1) (da_cons (de_v 2) (da_cons (de_v 3) da_nil)))) (ln_cons (ln_cons (ln_cons (ln_cons ln_nil))))))))))) (dss_one (ds_retO (de_idx (de_v 1) (de_v 2)))) dss_nil) (dss_one (ds_retO (de_idx (de_v 1) (de_v 4))))))⟩
theorem ok_law_draw (T : Tx K mg cl a) : FnOk P w K mg base (L2N.CX P w) 4 a.f_law_draw a.d_law_draw ["script", "town", "many"] (spT K cl 1 3 d_law_draw) :=
  fnT (oN := [1]) T.f_law_draw.fu sc_law_draw rfl (fun _ _ => rfl) (by decide) fun cdv A outer s H E hr => ⟨_, (dss_cons (ds_app 1 (by decide) (pv_own 1) de_int) (dss_one (ds_retO (de_callP ((ok_law_mixed T).mono (by decide)) hr T.f_law_mixed.gl T.f_law_mixed.fu.kp T.f_law_mixed.bi tkD (da_cons (de_v 0) (da_cons (de_bltO 1 call_len2 v_len T.z_len boot_len (by decide) (pv_own 1)) (da_cons (de_v 2) da_nil))) (ln_cons (ln_cons (ln_cons ln_nil)))))))⟩
theorem ok_need_row (T : Tx K mg cl a) : FnOk P w K mg base (L2N.CX P w) 5 a.f_need_row a.d_need_row ["thing"] (spP K cl 1 d_need_row) :=
  fnP (oN := []) T.f_need_row.fu sc_need_row rfl (fun _ _ => rfl) fun cdv A outer s H E hr => ⟨_, (dss_one (ds_if (dt_not (dt_val (de_callP ((ok_is_row T).mono (by decide)) hr T.f_is_row.gl T.f_is_row.fu.kp T.f_is_row.bi tkD (da_cons (de_v 0) da_nil) (ln_cons ln_nil)))) (dss_one (ds_raiseE (k := 2) T.e_NoRow tkD)) dss_nil))⟩
theorem ok_need_hill (T : Tx K mg cl a) : FnOk P w K mg base (L2N.CX P w) 5 a.f_need_hill a.d_need_hill ["tree", "thing"] (spP K cl 2 d_need_hill) :=
  fnP (oN := []) T.f_need_hill.fu sc_need_hill rfl (fun _ _ => rfl) fun cdv A outer s H E hr => ⟨_, (dss_cons (ds_expr (de_callP ((ok_need_tree T).mono (by decide)) hr T.f_need_tree.gl T.f_need_tree.fu.kp T.f_need_tree.bi tkD (da_cons (de_v 0) da_nil) (ln_cons ln_nil))) (dss_one (ds_if (dt_not (dt_val (de_callP ((ok_is_whole T).mono (by decide)) hr T.f_is_whole.gl T.f_is_whole.fu.kp T.f_is_whole.bi tkD (da_cons (de_v 1) (da_cons de_int (da_cons (de_blt call_len2 v_len T.z_len boot_len (da_cons (de_v 0) da_nil)) da_nil))) (ln_cons (ln_cons (ln_cons ln_nil)))))) (dss_one (ds_raiseE (k := 7) T.e_NoHill tkD)) dss_nil)))⟩
theorem ok_leaves (T : Tx K mg cl a) : FnOk P w K mg base (L2N.CX P w) 5 a.f_leaves a.d_leaves ["tree"] (spP K cl 1 d_leaves) :=
  fnP (oN := []) T.f_leaves.fu sc_leaves rfl (fun _ _ => rfl) fun cdv A outer s H E hr => ⟨_, (dss_cons (ds_expr (de_callP ((ok_need_tree T).mono (by decide)) hr T.f_need_tree.gl T.f_need_tree.fu.kp T.f_need_tree.bi tkD (da_cons (de_v 0) da_nil) (ln_cons ln_nil))) (dss_one (ds_retO (de_callP ((ok_all_leaves T).mono (by decide)) hr T.f_all_leaves.gl T.f_all_leaves.fu.kp T.f_all_leaves.bi tkD (da_cons (de_v 0) da_nil) (ln_cons ln_nil)))))⟩
theorem ok_nearest_tree (T : Tx K mg cl a) : FnOk P w K mg base (L2N.CX P w) 5 a.f_nearest_tree a.d_nearest_tree ["many", "some"] (spP K cl 2 d_nearest_tree) :=
  fnP (oN := []) T.f_nearest_tree.fu sc_nearest_tree rfl (fun _ _ => rfl) fun cdv A outer s H E hr => ⟨_, (dss_cons (ds_expr (de_callP ((ok_need_sights T).mono (by decide)) hr T.f_need_sights.gl T.f_need_sights.fu.kp T.f_need_sights.bi tkD (da_cons (de_v 0) (da_cons (de_v 1) da_nil)) (ln_cons (ln_cons ln_nil)))) (dss_cons (ds_set 2 sc_nearest_tree.nd (de_callP ((ok_distances T).mono (by decide)) hr T.f_distances.gl T.f_distances.fu.kp T.f_distances.bi tkD (da_cons (de_v 1) (da_cons de_int (da_cons (de_lst da_nil (ln_le ln_nil (by decide))) da_nil))) (ln_cons (ln_cons (ln_cons ln_nil))))) (dss_cons (ds_if (dt_cmp (op_lt2 hr.units0) v_lt2 (de_blt call_lenK v_lenK T.z_len boot_len (da_cons (de_v 2) da_nil)) (de_v 0)) (dss_one (ds_retO de_non)) dss_nil) (dss_cons (ds_setO 3 sc_nearest_tree.nd (dn_lst da_nil (ln_le ln_nil (by decide)))) (dss_cons (ds_for pwD (di_rng2 T.z_range (da_cons de_int (da_cons (de_v 0) da_nil))) (dg_name 4 sc_nearest_tree.nd) (dss_one (ds_app 3 (by decide) (pv_own 3) (de_idx (de_new (dn_comp sc_nearest_tree.nd (di_seq (de_callP ((ok_seen_from T).mono (by decide)) hr T.f_seen_from.gl T.f_seen_from.fu.kp T.f_seen_from.bi tkD (da_cons (de_v 1) (da_cons (de_v 4) da_nil)) (ln_cons (ln_cons ln_nil)))) (blkOk_by (own := [("other", 5)]) (N := ["many", "some", "found", "made", "hill", "other"]) (sc := defScope s_nearest_tree) (by decide +kernel)) (fun _ _ _ _ _ => (dg_name 5 sc_nearest_tree.nd)) (fun _ _ _ _ _ => (dts_one (dt_cmp (op_eqD hr.units) v_eq (de_dget (hu_of hr) (de_v 2) (de_v 5)) (de_bin op_sub v_sub (de_dget (hu_of hr) (de_v 2) (de_v 4)) de_int)))) (fun _ _ _ _ _ => (de_v 5)))) de_int)))) (dss_frz 3 (dss_one (ds_retO (de_bty call_tuple_ofP v_tuple T.z_tuple boot_tuple (da_cons (de_v 3) da_nil))))))))))⟩
theorem ok_unreached (T : Tx K mg cl a) : FnOk P w K mg base (L2N.CX P w) 5 a.f_unreached a.d_unreached ["many", "some"] (spP K cl 2 d_unreached) :=
  fnP (oN := []) T.f_unreached.fu sc_unreached rfl (fun _ _ => rfl) fun cdv A outer s H E hr => ⟨_, (dss_cons (ds_expr (de_callP ((ok_need_sights T).mono (by decide)) hr T.f_need_sights.gl T.f_need_sights.fu.kp T.f_need_sights.bi tkD (da_cons (de_v 0) (da_cons (de_v 1) da_nil)) (ln_cons (ln_cons ln_nil)))) (dss_cons (ds_set 2 sc_unreached.nd (de_callP ((ok_distances T).mono (by decide)) hr T.f_distances.gl T.f_distances.fu.kp T.f_distances.bi tkD (da_cons (de_v 1) (da_cons de_int (da_cons (de_lst da_nil (ln_le ln_nil (by decide))) da_nil))) (ln_cons (ln_cons (ln_cons ln_nil))))) (dss_one (ds_retO (de_new (dn_comp sc_unreached.nd (di_rng1 T.z_range (da_cons (de_v 0) da_nil)) (blkOk_by (own := [("hill", 3)]) (N := ["many", "some", "found", "hill"]) (sc := defScope s_unreached) (by decide +kernel)) (fun _ _ _ _ _ => (dg_name 3 sc_unreached.nd)) (fun _ _ _ _ _ => (dts_one (dt_dinN (hu_of hr) (de_v 3) (de_v 2)))) (fun _ _ _ _ _ => (de_v 3))))))))⟩
theorem ok_needed_hills (T : Tx K mg cl a) : FnOk P w K mg base (L2N.CX P w) 5 a.f_needed_hills a.d_needed_hills ["many", "some"] (spP K cl 2 d_needed_hills) :=
  fnP (oN := []) T.f_needed_hills.fu sc_needed_hills rfl (fun _ _ => rfl) fun cdv A outer s H E hr => ⟨_, (dss_cons (ds_expr (de_callP ((ok_need_sights T).mono (by decide)) hr T.f_need_sights.gl T.f_need_sights.fu.kp T.f_need_sights.bi tkD (da_cons (de_v 0) (da_cons (de_v 1) da_nil)) (ln_cons (ln_cons ln_nil)))) (dss_cons (ds_set 2 sc_needed_hills.nd (de_callP ((ok_distances T).mono (by decide)) hr T.f_distances.gl T.f_distances.fu.kp T.f_distances.bi tkD (da_cons (de_v 1) (da_cons de_int (da_cons (de_lst da_nil (ln_le ln_nil (by decide))) da_nil))) (ln_cons (ln_cons (ln_cons ln_nil))))) (dss_cons (ds_setO 3 sc_needed_hills.nd (dn_lst da_nil (ln_le ln_nil (by decide)))) (dss_cons (ds_for pwD (di_rng2 T.z_range (da_cons de_int (da_cons (de_v 0) da_nil))) (dg_name 4 sc_needed_hills.nd) (dss_one (ds_if (dt_w (dw_and (dt_din (hu_of hr) (de_v 4) (de_v 2)) (dw_and1 (dt_cmp (op_lt2 hr.units0) v_lt2 (de_blt call_lenK v_lenK T.z_len boot_len (da_cons (de_callP ((ok_distances T).mono (by decide)) hr T.f_distances.gl T.f_distances.fu.kp T.f_distances.bi tkD (da_cons (de_v 1) (da_cons de_int (da_cons (de_lst (da_cons (de_v 4) da_nil) (ln_le (ln_cons ln_nil) (by decide))) da_nil))) (ln_cons (ln_cons (ln_cons ln_nil)))) da_nil)) (de_bin op_sub v_sub (de_blt call_lenK v_lenK T.z_len boot_len (da_cons (de_v 2) da_nil)) de_int))))) (dss_one (ds_app 3 (by decide) (pv_own 3) (de_v 4))) dss_nil))) (dss_frz 3 (dss_one (ds_retO (de_v 3))))))))⟩
theorem ok_needed_sights (T : Tx K mg cl a) : FnOk P w K mg base (L2N.CX P w) 5 a.f_needed_sights a.d_needed_sights ["many", "some"] (spP K cl 2 d_needed_sights) :=
  fnP (oN := []) T.f_needed_sights.fu sc_needed_sights rfl (fun _ _ => rfl) fun cdv A outer s H E hr => ⟨_, (dss_cons (ds_expr (de_callP ((ok_need_sights T).mono (by decide)) hr T.f_need_sights.gl T.f_need_sights.fu.kp T.f_need_sights.bi tkD (da_cons (de_v 0) (da_cons (de_v 1) da_nil)) (ln_cons (ln_cons ln_nil)))) (dss_cons (ds_set 2 sc_needed_sights.nd (de_blt call_lenK v_lenK T.z_len boot_len (da_cons (de_callP ((ok_distances T).mono (by decide)) hr T.f_distances.gl T.f_distances.fu.kp T.f_distances.bi tkD (da_cons (de_v 1) (da_cons de_int (da_cons (de_lst da_nil (ln_le ln_nil (by decide))) da_nil))) (ln_cons (ln_cons (ln_cons ln_nil)))) da_nil))) (dss_one (ds_retO (de_new (dn_comp sc_needed_sights.nd (di_seq (de_v 1)) (blkOk_by (own := [("sight", 3)]) (N := ["many", "some", "whole", "sight", "one"]) (sc := defScope s_needed_sights) (by decide +kernel)) (fun _ _ _ _ _ => (dg_name 3 sc_needed_sights.nd)) (fun _ _ _ _ _ => (dts_one (dt_cmp (op_lt2 hr.units0) v_lt2 (de_blt call_lenK v_lenK T.z_len boot_len (da_cons (de_callP ((ok_distances T).mono (by decide)) hr T.f_distances.gl T.f_distances.fu.kp T.f_distances.bi tkF (da_cons (de_new (dn_comp sc_needed_sights.nd (di_seq (de_v 1)) (blkOk_by (own := [("one", 4)]) (N := ["many", "some", "whole", "sight", "one"]) (sc := (relS { kind := .function, names := [(".0", .local), ("sight", .cell), ("len", .globalImplicit), ("distances", .globalImplicit), ("some", .free), ("whole", .free)], isGenerator := false, isCoroutine := false } (defScope s_needed_sights))) (by decide +kernel)) (fun _ _ _ _ _ => (dg_name 4 sc_needed_sights.nd)) (fun _ _ _ _ _ => (dts_one (dt_cmp (op_neD hr.units) v_ne (de_v 4) (de_v 3)))) (fun _ _ _ _ _ => (de_v 4)))) (da_cons de_int (da_cons (de_lst da_nil (ln_le ln_nil (by decide))) da_nil))) (ln_cons (ln_cons (ln_cons ln_nil)))) da_nil)) (de_v 2)))) (fun _ _ _ _ _ => (de_v 3))))))))⟩
theorem ok_is_of (T : Tx K mg cl a) : FnOk P w K mg base (L2N.CX P w) 5 a.f_is_of a.d_is_of ["many", "some", "tree"] (spP K cl 3 d_is_of) :=
  fnP (oN := []) T.f_is_of.fu sc_is_of rfl (fun _ _ => rfl) fun cdv A outer s H E hr => ⟨_, (dss_cons (ds_expr (de_callP ((ok_need_sights T).mono (by decide)) hr T.f_need_sights.gl T.f_need_sights.fu.kp T.f_need_sights.bi tkD (da_cons (de_v 0) (da_cons (de_v 1) da_nil)) (ln_cons (ln_cons ln_nil)))) (dss_cons (ds_if (dt_w (dw_or (dt_not (dt_val (de_callP ((ok_is_tree T).mono (by decide)) hr T.f_is_tree.gl T.f_is_tree.fu.kp T.f_is_tree.bi tkD (da_cons (de_v 2) da_nil) (ln_cons ln_nil)))) (dw_or1 (dt_cmp (op_neD hr.units) v_ne (de_blt call_len2 v_len T.z_len boot_len (da_cons (de_v 2) da_nil)) (de_bin op_sub v_sub (de_v 0) de_int))))) (dss_one (ds_retO de_bl)) dss_nil) (dss_one (ds_retO (de_blt (cr_all rfl) v_all T.z_all boot_all (da_cons (de_new (dn_comp sc_is_of.nd (di_enumT T.z_enumerate (da_cons (de_v 2) da_nil)) (blkOk_by (own := [("hill", 3), ("first", 4)]) (N := ["many", "some", "tree", "hill", "first"]) (sc := defScope s_is_of) (by decide +kernel)) (fun _ _ _ _ _ => (dg_tup (dgs_cons (dg_name 3 sc_is_of.nd) (dgs_cons (dg_name 4 sc_is_of.nd) dgs_nil)))) (fun _ _ _ _ _ => dts_nil) (fun _ _ _ _ _ => (de_cmp (op_inA (u65 hr)) v_in (de_tup (da_cons (de_blt (call_minA rfl) v_min T.z_min boot_min (da_cons (de_bin op_add2 v_add2 (de_v 3) de_int) (da_cons (de_v 4) da_nil))) (da_cons (de_blt (call_maxA rfl) v_max T.z_max boot_max (da_cons (de_bin op_add2 v_add2 (de_v 3) de_int) (da_cons (de_v 4) da_nil))) da_nil)) (ln_le (ln_cons (ln_cons ln_nil)) (by decide))) (de_v 1))))) da_nil))))))⟩
theorem ok_are_slips (T : Tx K mg cl a) : FnOk P w K mg base (L2N.CX P w) 5 a.f_are_slips a.d_are_slips ["tree", "thing"] (spP K cl 2 d_are_slips) :=
  fnP (oN := []) T.f_are_slips.fu sc_are_slips rfl (fun _ _ => rfl) fun cdv A outer s H E hr => ⟨_, (dss_cons (ds_if (dt_w (dw_or (dt_not (dt_val (de_isi T.z_isinstance T.z_tuple boot_tuple (de_v 1)))) (dw_or (dt_cmp op_gt v_gt (de_blt call_len2 v_len T.z_len boot_len (da_cons (de_v 1) da_nil)) (de_gint T.c_SLIPS)) (dw_or1 (dt_not (dt_val (de_blt (cr_all rfl) v_all T.z_all boot_all (da_cons (de_new (dn_comp sc_are_slips.nd (di_seq (de_v 1)) (blkOk_by (own := [("slip", 4)]) (N := ["tree", "thing", "one", "other", "slip"]) (sc := defScope s_are_slips) (by decide +kernel)) (fun _ _ _ _ _ => (dg_name 4 sc_are_slips.nd)) (fun _ _ _ _ _ => dts_nil) (fun _ _ _ _ _ => (de_callP ((ok_is_slip T).mono (by decide)) hr T.f_is_slip.gl T.f_is_slip.fu.kp T.f_is_slip.bi tkF (da_cons (de_v 0) (da_cons (de_v 4) da_nil)) (ln_cons (ln_cons ln_nil)))))) da_nil)))))))) (dss_one (ds_retO de_bl)) dss_nil) (dss_one (ds_retO (de_blt (cr_all rfl) v_all T.z_all boot_all (da_cons (de_new (dn_comp sc_are_slips.nd (di_zip T.z_zip (da_cons (de_v 1) (da_cons (de_cut (de_v 1) (do_some de_int) do_no) da_nil))) (blkOk_by (own := [("one", 2), ("other", 3)]) (N := ["tree", "thing", "one", "other", "slip"]) (sc := defScope s_are_slips) (by decide +kernel)) (fun _ _ _ _ _ => (dg_tup (dgs_cons (dg_name 2 sc_are_slips.nd) (dgs_cons (dg_name 3 sc_are_slips.nd) dgs_nil)))) (fun _ _ _ _ _ => dts_nil) (fun _ _ _ _ _ => (de_cmp (op_lt2 hr.units0) v_lt2 (de_cut (de_v 2) do_no (do_some de_int)) (de_cut (de_v 3) do_no (do_some de_int)))))) da_nil)))))⟩
theorem ok_stepped (T : Tx K mg cl a) : FnOk P w K mg base (L2N.CX P w) 5 a.f_stepped a.d_stepped ["tree", "shows", "items", "unseen", "wrong"] (spP K cl 5 d_stepped) :=
  fnP (oN := []) T.f_stepped.fu sc_stepped rfl (fun _ _ => rfl) fun cdv A outer s H E hr => ⟨_, (dss_cons (ds_setO 5 sc_stepped.nd (dn_list T.z_list (da_cons (de_v 1) da_nil))) (dss_cons (ds_if (dt_w (dw_and (dt_cmp (op_neD hr.units) v_ne (de_v 2) (de_lst da_nil (ln_le ln_nil (by decide)))) (dw_and1 (dt_val (de_callP ((ok_is_repeated T).mono (by decide)) hr T.f_is_repeated.gl T.f_is_repeated.fu.kp T.f_is_repeated.bi tkD (da_cons (de_v 0) (da_cons (de_v 1) (da_cons de_int (da_cons (de_v 3) da_nil)))) (ln_cons (ln_cons (ln_cons (ln_cons ln_nil))))))))) (dss_cons (ds_put 5 (by decide) (pv_own 5) de_int (de_idx (de_v 2) de_int)) (dss_one (ds_set 2 sc_stepped.nd (de_cut (de_v 2) (do_some de_int) do_no)))) dss_nil) (dss_cons (ds_for pwD (di_rng2 T.z_range (da_cons de_int (da_cons (de_blt call_len2 v_len T.z_len boot_len (da_cons (de_v 1) da_nil)) da_nil))) (dg_name 6 sc_stepped.nd) (dss_cons (ds_put 5 (by decide) (pv_own 5) (de_v 6) (de_callP ((ok_next_show T).mono (by decide)) hr T.f_next_show.gl T.f_next_show.fu.kp T.f_next_show.bi tkD (da_cons (de_v 0) (da_cons (de_v 1) (da_cons (de_v 6) (da_cons (de_v 3) da_nil)))) (ln_cons (ln_cons (ln_cons (ln_cons ln_nil)))))) (dss_one (ds_if (dt_w (dw_and (dt_cmp (op_neD hr.units) v_ne (de_idxO 5 (by decide) (pv_own 5) (de_v 6)) (de_idx (de_v 1) (de_v 6))) (dw_and (dt_cmp (op_neD hr.units) v_ne (de_idxO 5 (by decide) (pv_own 5) (de_v 6)) (de_gstr T.c_REST)) (dw_and1 (dt_din (hu_of hr) (de_v 6) (de_v 4)))))) (dss_one (ds_put 5 (by decide) (pv_own 5) (de_v 6) (de_dget (hu_of hr) (de_v 4) (de_v 6)))) dss_nil)))) (dss_frz 5 (dss_one (ds_retO (de_tup (da_cons (de_v 5) (da_cons (de_v 2) da_nil)) (ln_le (ln_cons (ln_cons ln_nil)) (by decide)))))))))⟩
theorem ok_clear_time (T : Tx K mg cl a) : FnOk P w K mg base (L2N.CX P w) 5 a.f_clear_time a.d_clear_time ["tree", "many"] (spP K cl 2 d_clear_time) :=
  fnP (oN := []) T.f_clear_time.fu sc_clear_time rfl (fun _ _ => rfl) fun cdv A outer s H E hr => ⟨_, (dss_cons (ds_expr (de_callP ((ok_need_tree T).mono (by decide)) hr T.f_need_tree.gl T.f_need_tree.fu.kp T.f_need_tree.bi tkD (da_cons (de_v 0) da_nil) (ln_cons ln_nil))) (dss_cons (ds_if (dt_not (dt_val (de_callP ((ok_is_whole T).mono (by decide)) hr T.f_is_whole.gl T.f_is_whole.fu.kp T.f_is_whole.bi tkD (da_cons (de_v 1) (da_cons de_int (da_cons (de_gint T.c_LONG) da_nil))) (ln_cons (ln_cons (ln_cons ln_nil)))))) (dss_one (ds_raiseE (k := 2) T.e_NoRow tkD)) dss_nil) (dss_one (ds_retO (de_if (dt_cmp (op_eqD hr.units) v_eq (de_v 1) de_int) de_int (de_bin op_sub v_sub (de_bin op_add2 v_add2 (de_bin op_mul2 v_mul2 de_int (de_v 1)) (de_callP ((ok_greatest_far T).mono (by decide)) hr T.f_greatest_far.gl T.f_greatest_far.fu.kp T.f_greatest_far.bi tkD (da_cons (de_v 0) da_nil) (ln_cons ln_nil))) de_int))))))⟩
theorem ok_law_pick (T : Tx K mg cl a) : FnOk P w K mg base (L2N.CX P w) 5 a.f_law_pick a.d_law_pick ["script", "town", "some"] (spT K cl 1 3 d_law_pick) :=
  fnT (oN := [1]) T.f_law_pick.fu sc_law_pick rfl (fun _ _ => rfl) (by decide) fun cdv A outer s H E hr => ⟨_, (dss_one (ds_retO (de_idx (de_v 2) (de_callT (i := 1) ((ok_law_draw T).mono (by decide)) hr T.f_law_draw.gl T.f_law_draw.fu.kp T.f_law_draw.bi tkD (by decide) (de_v 0) (da_cons (de_blt call_len2 v_len T.z_len boot_len (da_cons (de_v 2) da_nil)) da_nil) (ln_2 (ln_cons ln_nil))))))⟩
theorem ok_law_sights (T : Tx K mg cl a) : FnOk P w K mg base (L2N.CX P w) 5 a.f_law_sights a.d_law_sights ["script", "town"] (spT K cl 1 2 d_law_sights) :=
  fnT (oN := [1]) T.f_law_sights.fu sc_law_sights rfl (fun _ _ => rfl) (by decide) fun cdv A outer s H E hr => ⟨_, (dss_cons (ds_set 2 sc_law_sights.nd (de_bin op_add2 v_add2 de_int (de_callT (i := 1) ((ok_law_draw T).mono (by decide)) hr T.f_law_draw.gl T.f_law_draw.fu.kp T.f_law_draw.bi tkD (by decide) (de_v 0) (da_cons de_int da_nil) (ln_2 (ln_cons ln_nil))))) (dss_cons (ds_set 3 sc_law_sights.nd (de_bin op_add2 v_add2 de_int (de_callT (i := 1) ((ok_law_draw T).mono (by decide)) hr T.f_law_draw.gl T.f_law_draw.fu.kp T.f_law_draw.bi tkD (by decide) (de_v 0) (da_cons de_int da_nil) (ln_2 (ln_cons ln_nil))))) (dss_cons (ds_setO 4 sc_law_sights.nd (dn_lst da_nil (ln_le ln_nil (by decide)))) (dss_cons (ds_for pwD (di_rng1 T.z_range (da_cons (de_v 2) da_nil)) (dg_name 5 sc_law_sights.nd) (dss_one (ds_ext 4 (by decide) (pv_own 4) (de_new (dn_comp sc_law_sights.nd (di_rng2 T.z_range (da_cons (de_bin op_add2 v_add2 (de_v 5) de_int) (da_cons (de_v 2) da_nil))) (blkOk_by (own := [("other", 6)]) (N := ["script", "town", "many", "thick", "some", "one", "other"]) (sc := defScope s_law_sights) (by decide +kernel)) (fun _ _ _ _ _ => (dg_name 6 sc_law_sights.nd)) (fun _ _ _ _ _ => (dts_one (dt_cmp (op_lt2 hr.units0) v_lt2 (de_callT (i := 1) ((ok_law_draw T).mono (by decide)) hr T.f_law_draw.gl T.f_law_draw.fu.kp T.f_law_draw.bi tkF (by decide) (de_v 0) (da_cons de_int da_nil) (ln_2 (ln_cons ln_nil))) (de_v 3)))) (fun _ _ _ _ _ => (de_tup (da_cons (de_v 5) (da_cons (de_v 6) da_nil)) (ln_le (ln_cons (ln_cons ln_nil)) (by decide))))))))) (dss_frz 4 (dss_one (ds_retO (de_tup (da_cons (de_v 2) (da_cons (de_bty call_tuple_ofP v_tuple T.z_tuple boot_tuple (da_cons (de_v 4) da_nil)) da_nil)) (ln_le (ln_cons (ln_cons ln_nil)) (by decide))))))))))⟩
theorem ok_far (T : Tx K mg cl a) : FnOk P w K mg base (L2N.CX P w) 6 a.f_far a.d_far ["tree", "hill"] (spP K cl 2 d_far) :=
  fnP (oN := []) T.f_far.fu sc_far rfl (fun _ _ => rfl) fun cdv A outer s H E hr => ⟨_, (dss_cons (ds_expr (de_callP ((ok_need_hill T).mono (by decide)) hr T.f_need_hill.gl T.f_need_hill.fu.kp T.f_need_hill.bi tkD (da_cons (de_v 0) (da_cons (de_v 1) da_nil)) (ln_cons (ln_cons ln_nil)))) (dss_one (ds_retO (de_callP ((ok_far_of T).mono (by decide)) hr T.f_far_of.gl T.f_far_of.fu.kp T.f_far_of.bi tkD (da_cons (de_v 0) (da_cons (de_v 1) da_nil)) (ln_cons (ln_cons ln_nil))))))⟩
theorem ok_need_all (T : Tx K mg cl a) : FnOk P w K mg base (L2N.CX P w) 6 a.f_need_all a.d_need_all ["tree", "row", "fog", "slips"] (spP K cl 4 d_need_all) :=
  fnP (oN := []) T.f_need_all.fu sc_need_all rfl (fun _ _ => rfl) fun cdv A outer s H E hr => ⟨_, (dss_cons (ds_expr (de_callP ((ok_need_tree T).mono (by decide)) hr T.f_need_tree.gl T.f_need_tree.fu.kp T.f_need_tree.bi tkD (da_cons (de_v 0) da_nil) (ln_cons ln_nil))) (dss_cons (ds_expr (de_callP ((ok_need_row T).mono (by decide)) hr T.f_need_row.gl T.f_need_row.fu.kp T.f_need_row.bi tkD (da_cons (de_v 1) da_nil) (ln_cons ln_nil))) (dss_cons (ds_if (dt_not (dt_val (de_callP ((ok_is_fog T).mono (by decide)) hr T.f_is_fog.gl T.f_is_fog.fu.kp T.f_is_fog.bi tkD (da_cons (de_v 0) (da_cons (de_v 2) da_nil)) (ln_cons (ln_cons ln_nil))))) (dss_one (ds_raiseE (k := 4) T.e_NoFog tkD)) dss_nil) (dss_one (ds_if (dt_not (dt_val (de_callP ((ok_are_slips T).mono (by decide)) hr T.f_are_slips.gl T.f_are_slips.fu.kp T.f_are_slips.bi tkD (da_cons (de_v 0) (da_cons (de_v 3) da_nil)) (ln_cons (ln_cons ln_nil))))) (dss_one (ds_raiseE (k := 5) T.e_NoSlips tkD)) dss_nil)))))⟩
theorem ok_all_shows (T : Tx K mg cl a) : FnOk P w K mg base (L2N.CX P w) 6 a.f_all_shows a.d_all_shows ["tree", "row", "fog", "slips"] (spP K cl 4 d_all_shows) :=
  fnP (oN := []) T.f_all_shows.fu sc_all_shows rfl (fun _ _ => rfl) fun cdv A outer s H E hr => ⟨_, (dss_cons (ds_set 4 sc_all_shows.nd (de_bin op_mul2 v_mul2 (de_lst (da_cons (de_gstr T.c_REST) da_nil) (ln_le (ln_cons ln_nil) (by decide))) (de_bin op_add2 v_add2 (de_blt call_len2 v_len T.z_len boot_len (da_cons (de_v 0) da_nil)) de_int))) (dss_cons (ds_set 5 sc_all_shows.nd (de_callP ((ok_with_rests T).mono (by decide)) hr T.f_with_rests.gl T.f_with_rests.fu.kp T.f_with_rests.bi tkD (da_cons (de_v 1) da_nil) (ln_cons ln_nil))) (dss_cons (ds_setO 6 sc_all_shows.nd (dn_lst (da_cons (de_v 4) da_nil) (ln_le (ln_cons ln_nil) (by decide)))) (dss_cons (ds_while pwD (dt_w (dw_or (dt_cmp (op_neD hr.units) v_ne (de_v 5) (de_lst da_nil (ln_le ln_nil (by decide)))) (dw_or1 (dt_cmp (op_neD hr.units) v_ne (de_idxO 6 (by decide) (pv_own 6) (de_un un_neg v_neg de_int)) (de_bin op_mul2 v_mul2 (de_lst (da_cons (de_gstr T.c_REST) da_nil) (ln_le (ln_cons ln_nil) (by decide))) (de_blt call_len2 v_len T.z_len boot_len (da_cons (de_v 4) da_nil))))))) (dss_cons (ds_set 7 sc_all_shows.nd (de_bin op_sub v_sub (de_bltO 6 call_len2 v_len T.z_len boot_len (by decide) (pv_own 6)) de_int)) (dss_cons (ds_setLc 8 sc_all_shows.nd (di_seq (de_v 2)) (blkOk_by (own := [("when", 10), ("hill", 11)]) (N := ["tree", "row", "fog", "slips", "shows", "items", "made", "moment", "unseen", "wrong", "when", "hill", "sign"]) (sc := defScope s_all_shows) (by decide +kernel)) (fun _ _ _ _ _ => (dg_tup (dgs_cons (dg_name 10 sc_all_shows.nd) (dgs_cons (dg_name 11 sc_all_shows.nd) dgs_nil)))) (fun _ _ _ _ _ => (dts_one (dt_cmp (op_eqD hr.units) v_eq (de_v 10) (de_v 7)))) (fun _ _ _ _ _ => (de_v 11))) (dss_cons (ds_set 9 sc_all_shows.nd (de_new (dn_dict T.z_dict (da_cons (de_new (dn_comp sc_all_shows.nd (di_seq (de_v 3)) (blkOk_by (own := [("when", 10), ("hill", 11), ("sign", 12)]) (N := ["tree", "row", "fog", "slips", "shows", "items", "made", "moment", "unseen", "wrong", "when", "hill", "sign"]) (sc := defScope s_all_shows) (by decide +kernel)) (fun _ _ _ _ _ => (dg_tup (dgs_cons (dg_name 10 sc_all_shows.nd) (dgs_cons (dg_name 11 sc_all_shows.nd) (dgs_cons (dg_name 12 sc_all_shows.nd) dgs_nil))))) (fun _ _ _ _ _ => (dts_one (dt_cmp (op_eqD hr.units) v_eq (de_v 10) (de_bin op_add2 v_add2 (de_v 7) de_int)))) (fun _ _ _ _ _ => (de_tup (da_cons (de_v 11) (da_cons (de_v 12) da_nil)) (ln_le (ln_cons (ln_cons ln_nil)) (by decide)))))) da_nil)))) (dss_cons (ds_asg (de_callP ((ok_stepped T).mono (by decide)) hr T.f_stepped.gl T.f_stepped.fu.kp T.f_stepped.bi tkD (da_cons (de_v 0) (da_cons (de_idxO 6 (by decide) (pv_own 6) (de_un un_neg v_neg de_int)) (da_cons (de_v 5) (da_cons (de_v 8) (da_cons (de_v 9) da_nil))))) (ln_cons (ln_cons (ln_cons (ln_cons (ln_cons ln_nil)))))) (dg_tup (dgs_cons (dg_name 4 sc_all_shows.nd) (dgs_cons (dg_name 5 sc_all_shows.nd) dgs_nil)))) (dss_one (ds_app 6 (by decide) (pv_own 6) (de_v 4)))))))) (dss_frz 6 (dss_one (ds_retO (de_v 6))))))))⟩
theorem ok_law_sign (T : Tx K mg cl a) : FnOk P w K mg base (L2N.CX P w) 6 a.f_law_sign a.d_law_sign ["script", "town"] (spT K cl 1 2 d_law_sign) :=
  fnT (oN := [1]) T.f_law_sign.fu sc_law_sign rfl (fun _ _ => rfl) (by decide) fun cdv A outer s H E hr => ⟨_, (dss_cons (ds_if (dt_cmp (op_eqD hr.units) v_eq (de_callT (i := 1) ((ok_law_draw T).mono (by decide)) hr T.f_law_draw.gl T.f_law_draw.fu.kp T.f_law_draw.bi tkD (by decide) (de_v 0) (da_cons de_int da_nil) (ln_2 (ln_cons ln_nil))) de_int) (dss_one (ds_retO (de_callT (i := 1) ((ok_law_pick T).mono (by decide)) hr T.f_law_pick.gl T.f_law_pick.fu.kp T.f_law_pick.bi tkD (by decide) (de_v 0) (da_cons (de_lst (da_cons de_str (da_cons de_str (da_cons de_str (da_cons de_str (da_cons de_str (da_cons de_str da_nil)))))) (ln_le (ln_cons (ln_cons (ln_cons (ln_cons (ln_cons (ln_cons ln_nil)))))) (by decide))) da_nil) (ln_2 (ln_cons ln_nil))))) dss_nil) (dss_one (ds_retO (de_callT (i := 1) ((ok_law_draw T).mono (by decide)) hr T.f_law_draw.gl T.f_law_draw.fu.kp T.f_law_draw.bi tkD (by decide) (de_v 0) (da_cons (de_callT (i := 1) ((ok_law_pick T).mono (by decide)) hr T.f_law_pick.gl T.f_law_pick.fu.kp T.f_law_pick.bi tkD (by decide) (de_v 0) (da_cons (de_lst (da_cons de_int (da_cons de_int da_nil)) (ln_le (ln_cons (ln_cons ln_nil)) (by decide))) da_nil) (ln_2 (ln_cons ln_nil))) da_nil) (ln_2 (ln_cons ln_nil))))))⟩
theorem ok_over (T : Tx K mg cl a) : FnOk P w K mg base (L2N.CX P w) 7 a.f_over a.d_over ["tree", "row", "fog", "slips"] (spP K cl 4 d_over) :=
  fnP (oN := []) T.f_over.fu sc_over rfl (fun _ _ => rfl) fun cdv A outer s H E hr => ⟨_, (dss_cons (ds_expr (de_callP ((ok_need_all T).mono (by decide)) hr T.f_need_all.gl T.f_need_all.fu.kp T.f_need_all.bi tkD (da_cons (de_v 0) (da_cons (de_v 1) (da_cons (de_v 2) (da_cons (de_v 3) da_nil)))) (ln_cons (ln_cons (ln_cons (ln_cons ln_nil)))))) (dss_one (ds_retO (de_bin op_sub v_sub (de_blt call_len2 v_len T.z_len boot_len (da_cons (de_callP ((ok_all_shows T).mono (by decide)) hr T.f_all_shows.gl T.f_all_shows.fu.kp T.f_all_shows.bi tkD (da_cons (de_v 0) (da_cons (de_v 1) (da_cons (de_v 2) (da_cons (de_v 3) da_nil)))) (ln_cons (ln_cons (ln_cons (ln_cons ln_nil))))) da_nil)) de_int))))⟩
theorem ok_law_row (T : Tx K mg cl a) : FnOk P w K mg base (L2N.CX P w) 7 a.f_law_row a.d_law_row ["script", "town", "most"] (spT K cl 1 3 d_law_row) :=
  fnT (oN := [1]) T.f_law_row.fu sc_law_row rfl (fun _ _ => rfl) (by decide) fun cdv A outer s H E hr => ⟨_, (dss_one (ds_retO (de_new (dn_comp sc_law_row.nd (di_rng1 T.z_range (da_cons (de_callT (i := 1) ((ok_law_draw T).mono (by decide)) hr T.f_law_draw.gl T.f_law_draw.fu.kp T.f_law_draw.bi tkD (by decide) (de_v 0) (da_cons (de_bin op_add2 v_add2 (de_v 2) de_int) da_nil) (ln_2 (ln_cons ln_nil))) da_nil)) (blkOk_by (own := [("k", 3)]) (N := ["script", "town", "most", "k"]) (sc := defScope s_law_row) (by decide +kernel)) (fun _ _ _ _ _ => (dg_name 3 sc_law_row.nd)) (fun _ _ _ _ _ => dts_nil) (fun _ _ _ _ _ => (de_callT (i := 1) ((ok_law_sign T).mono (by decide)) hr T.f_law_sign.gl T.f_law_sign.fu.kp T.f_law_sign.bi tkF (by decide) (de_v 0) da_nil (ln_2 ln_nil)))))))⟩
theorem ok_law (T : Tx K mg cl a) : FnOk P w K mg base (L2N.CX P w) 8 a.f_law a.d_law ["script"] (spP K cl 1 d_law) :=
  fnP (oN := []) T.f_law.fu sc_law rfl (fun _ _ => rfl) fun cdv A outer s H E hr => ⟨_, (dss_cons (ds_setO 1 sc_law.nd (dn_lst da_nil (ln_le ln_nil (by decide)))) (dss_cons (ds_asg (de_callT (i := 1) ((ok_law_sights T).mono (by decide)) hr T.f_law_sights.gl T.f_law_sights.fu.kp T.f_law_sights.bi tkD (by decide) (de_v 0) da_nil (ln_2 ln_nil)) (dg_tup (dgs_cons (dg_name 7 sc_law.nd) (dgs_cons (dg_name 8 sc_law.nd) dgs_nil)))) (dss_cons (ds_set 2 sc_law.nd (de_callP ((ok_nearest_tree T).mono (by decide)) hr T.f_nearest_tree.gl T.f_nearest_tree.fu.kp T.f_nearest_tree.bi tkD (da_cons (de_v 7) (da_cons (de_v 8) da_nil)) (ln_cons (ln_cons ln_nil)))) (dss_cons (ds_if (dt_cmp op_is2 v_is (de_v 2) de_non) (dss_one (ds_retO (de_cmp (op_neD hr.units) v_ne (de_callP ((ok_unreached T).mono (by decide)) hr T.f_unreached.gl T.f_unreached.fu.kp T.f_unreached.bi tkD (da_cons (de_v 7) (da_cons (de_v 8) da_nil)) (ln_cons (ln_cons ln_nil))) (de_lst da_nil (ln_le ln_nil (by decide)))))) dss_nil) (dss_cons (ds_set 3 sc_law.nd (de_callT (i := 1) ((ok_law_row T).mono (by decide)) hr T.f_law_row.gl T.f_law_row.fu.kp T.f_law_row.bi tkD (by decide) (de_v 0) (da_cons de_int da_nil) (ln_2 (ln_cons ln_nil)))) (dss_cons (ds_parG2 (i := 9) (j := 10) sc_law.nd (dm_new (dn_lst (da_cons de_int da_nil) (ln_le (ln_cons ln_nil) (by decide))) (dm_new dn_dK dm_nil))) (dss_cons (ds_while pwD (dt_cmp (op_lt2 hr.units0) v_lt2 (de_bltO 9 call_len2 v_len T.z_len boot_len (by decide) (pv_own 9)) (de_v 7)) (dss_cons (ds_setO 11 sc_law.nd (dn_lst da_nil (ln_le ln_nil (by decide)))) (dss_cons (ds_forOwn 9 12 pwD (dg_name 12 sc_law.nd) (pv_own 9) (dss_one (ds_ext 11 (by decide) (pv_own 11) (de_q (dq_new (dqn_brw (dn_o (dn_comp sc_law.nd (di_seq (de_callP ((ok_law_near T).mono (by decide)) hr T.f_law_near.gl T.f_law_near.fu.kp T.f_law_near.bi tkD (da_cons (de_v 8) (da_cons (de_v 12) da_nil)) (ln_cons (ln_cons ln_nil)))) (blkOk_by (own := [("other", 13)]) (N := ["script", "town", "nearest", "row", "tree", "used", "fewer", "many", "some", "met", "made", "pairs", "one", "other", "hill", "a", "b"]) (sc := defScope s_law) (by decide +kernel)) (fun _ _ _ _ _ => (dg_name 13 sc_law.nd)) (fun _ _ _ _ _ => (dts_one (dt_cmp (op_notInA (u65 hr)) v_notIn (de_v 13) (de_v 9)))) (fun _ _ _ _ _ => (de_tup (da_cons (de_v 12) (da_cons (de_v 13) da_nil)) (ln_le (ln_cons (ln_cons ln_nil)) (by decide))))))))))) (by repeat (first | exact keep_drop _ | refine keep_if ?_ ?_))) (dss_frz 11 (dss_cons (ds_asg (de_callT (i := 1) ((ok_law_pick T).mono (by decide)) hr T.f_law_pick.gl T.f_law_pick.fu.kp T.f_law_pick.bi tkD (by decide) (de_v 0) (da_cons (de_v 11) da_nil) (ln_2 (ln_cons ln_nil))) (dg_tup (dgs_cons (dg_name 12 sc_law.nd) (dgs_cons (dg_name 13 sc_law.nd) dgs_nil)))) (dss_cons (ds_app 9 (by decide) (pv_own 9) (de_v 13)) (dss_one (ds_dput 10 (hu_of hr) (by decide) (pv_own 10) (de_v 13) (de_v 12))))))))) (dss_cons (ds_set 4 sc_law.nd (de_bty call_tuple_ofP v_tuple T.z_tuple boot_tuple (da_cons (de_new (dn_comp sc_law.nd (di_rng2 T.z_range (da_cons de_int (da_cons (de_v 7) da_nil))) (blkOk_by (own := [("hill", 14)]) (N := ["script", "town", "nearest", "row", "tree", "used", "fewer", "many", "some", "met", "made", "pairs", "one", "other", "hill", "a", "b"]) (sc := defScope s_law) (by decide +kernel)) (fun _ _ _ _ _ => (dg_name 14 sc_law.nd)) (fun _ _ _ _ _ => dts_nil) (fun _ _ _ _ _ => (de_dgetO 10 (hu_of hr) (by decide) (pv_own 10) (de_v 14))))) da_nil))) (dss_cons (ds_if (dt_w (dw_or (dt_not (dt_val (de_callP ((ok_is_of T).mono (by decide)) hr T.f_is_of.gl T.f_is_of.fu.kp T.f_is_of.bi tkD (da_cons (de_v 7) (da_cons (de_v 8) (da_cons (de_v 4) da_nil))) (ln_cons (ln_cons (ln_cons ln_nil)))))) (dw_or1 (dt_cmp (op_lt2 hr.units0) v_lt2 (de_callP ((ok_over T).mono (by decide)) hr T.f_over.gl T.f_over.fu.kp T.f_over.bi tkD (da_cons (de_v 4) (da_cons (de_v 3) (da_cons (de_tup da_nil (ln_le ln_nil (by decide))) (da_cons (de_tup da_nil (ln_le ln_nil (by decide))) da_nil)))) (ln_cons (ln_cons (ln_cons (ln_cons ln_nil))))) (de_callP ((ok_over T).mono (by decide)) hr T.f_over.gl T.f_over.fu.kp T.f_over.bi tkD (da_cons (de_v 2) (da_cons (de_v 3) (da_cons (de_tup da_nil (ln_le ln_nil (by decide))) (da_cons (de_tup da_nil (ln_le ln_nil (by decide))) da_nil)))) (ln_cons (ln_cons (ln_cons (ln_cons ln_nil))))))))) (dss_one (ds_retO de_bl)) dss_nil) (dss_cons (ds_if (dt_cmp (op_neD hr.units) v_ne (de_new (dn_comp sc_law.nd (di_rng1 T.z_range (da_cons (de_v 7) da_nil)) (blkOk_by (own := [("hill", 14)]) (N := ["script", "town", "nearest", "row", "tree", "used", "fewer", "many", "some", "met", "made", "pairs", "one", "other", "hill", "a", "b"]) (sc := defScope s_law) (by decide +kernel)) (fun _ _ _ _ _ => (dg_name 14 sc_law.nd)) (fun _ _ _ _ _ => (dts_one (dt_cmp (op_lt2 hr.units0) v_lt2 (de_callP ((ok_far T).mono (by decide)) hr T.f_far.gl T.f_far.fu.kp T.f_far.bi tkF (da_cons (de_v 4) (da_cons (de_v 14) da_nil)) (ln_cons (ln_cons ln_nil))) (de_callP ((ok_far T).mono (by decide)) hr T.f_far.gl T.f_far.fu.kp T.f_far.bi tkF (da_cons (de_v 2) (da_cons (de_v 14) da_nil)) (ln_cons (ln_cons ln_nil)))))) (fun _ _ _ _ _ => (de_v 14)))) (de_lst da_nil (ln_le ln_nil (by decide)))) (dss_one (ds_retO de_bl)) dss_nil) (dss_cons (ds_if (dt_cmp (op_lt2 hr.units0) v_lt2 (de_callP ((ok_clear_time T).mono (by decide)) hr T.f_clear_time.gl T.f_clear_time.fu.kp T.f_clear_time.bi tkD (da_cons (de_v 4) (da_cons de_int da_nil)) (ln_cons (ln_cons ln_nil))) (de_callP ((ok_clear_time T).mono (by decide)) hr T.f_clear_time.gl T.f_clear_time.fu.kp T.f_clear_time.bi tkD (da_cons (de_v 2) (da_cons de_int da_nil)) (ln_cons (ln_cons ln_nil)))) (dss_one (ds_retO de_bl)) dss_nil) (dss_frz 10 (dss_cons (ds_for pwD (di_seq (de_callP ((ok_needed_sights T).mono (by decide)) hr T.f_needed_sights.gl T.f_needed_sights.fu.kp T.f_needed_sights.bi tkD (da_cons (de_v 7) (da_cons (de_v 8) da_nil)) (ln_cons (ln_cons ln_nil)))) (dg_tup (dgs_cons (dg_name 12 sc_law.nd) (dgs_cons (dg_name 13 sc_law.nd) dgs_nil))) (dss_one (ds_if (dt_w (dw_and (dt_notIt (de_tup (da_cons (de_v 13) (da_cons (de_v 12) da_nil)) (ln_le (ln_cons (ln_cons ln_nil)) (by decide))) (de_v 10)) (dw_and1 (dt_notIt (de_tup (da_cons (de_v 12) (da_cons (de_v 13) da_nil)) (ln_le (ln_cons (ln_cons ln_nil)) (by decide))) (de_v 10))))) (dss_one (ds_retO de_bl)) dss_nil))) (dss_cons (ds_if (dt_cmp (op_neD hr.units) v_ne (de_new (dn_comp sc_law.nd (di_seq (de_callP ((ok_needed_hills T).mono (by decide)) hr T.f_needed_hills.gl T.f_needed_hills.fu.kp T.f_needed_hills.bi tkD (da_cons (de_v 7) (da_cons (de_v 8) da_nil)) (ln_cons (ln_cons ln_nil)))) (blkOk_by (own := [("hill", 14)]) (N := ["script", "town", "nearest", "row", "tree", "used", "fewer", "many", "some", "met", "made", "pairs", "one", "other", "hill", "a", "b"]) (sc := defScope s_law) (by decide +kernel)) (fun _ _ _ _ _ => (dg_name 14 sc_law.nd)) (fun _ _ _ _ _ => (dts_one (dt_w (dw_or (dt_cmp (op_inA (u65 hr)) v_in (de_v 14) (de_callP ((ok_leaves T).mono (by decide)) hr T.f_leaves.gl T.f_leaves.fu.kp T.f_leaves.bi tkF (da_cons (de_v 4) da_nil) (ln_cons ln_nil))) (dw_or1 (dt_cmp (op_inA (u65 hr)) v_in (de_v 14) (de_callP ((ok_leaves T).mono (by decide)) hr T.f_leaves.gl T.f_leaves.fu.kp T.f_leaves.bi tkF (da_cons (de_v 2) da_nil) (ln_cons ln_nil)))))))) (fun _ _ _ _ _ => (de_v 14)))) (de_lst da_nil (ln_le ln_nil (by decide)))) (dss_one (ds_retO de_bl)) dss_nil) (dss_cons (ds_setLc 5 sc_law.nd (di_seq (de_new (dn_sortIt T.z_sorted (de_v 10)))) (blkOk_by (own := [("a", 15), ("b", 16)]) (N := ["script", "town", "nearest", "row", "tree", "used", "fewer", "many", "some", "met", "made", "pairs", "one", "other", "hill", "a", "b"]) (sc := defScope s_law) (by decide +kernel)) (fun _ _ _ _ _ => (dg_tup (dgs_cons (dg_name 15 sc_law.nd) (dgs_cons (dg_name 16 sc_law.nd) dgs_nil)))) (fun _ _ _ _ _ => dts_nil) (fun _ _ _ _ _ => (de_tup (da_cons (de_blt (call_minA rfl) v_min T.z_min boot_min (da_cons (de_v 15) (da_cons (de_v 16) da_nil))) (da_cons (de_blt (call_maxA rfl) v_max T.z_max boot_max (da_cons (de_v 15) (da_cons (de_v 16) da_nil))) da_nil)) (ln_le (ln_cons (ln_cons ln_nil)) (by decide))))) (dss_cons (ds_set 6 sc_law.nd (de_bty call_tuple_ofP v_tuple T.z_tuple boot_tuple (da_cons (de_new (dn_sortedP T.z_sorted (de_v 5))) da_nil))) (dss_cons (ds_if (dt_w (dw_or (dt_cmp (op_neD hr.units) v_ne (de_callP ((ok_nearest_tree T).mono (by decide)) hr T.f_nearest_tree.gl T.f_nearest_tree.fu.kp T.f_nearest_tree.bi tkD (da_cons (de_v 7) (da_cons (de_v 6) da_nil)) (ln_cons (ln_cons ln_nil))) (de_v 4)) (dw_or1 (dt_cmp (op_neD hr.units) v_ne (de_callP ((ok_needed_sights T).mono (by decide)) hr T.f_needed_sights.gl T.f_needed_sights.fu.kp T.f_needed_sights.bi tkD (da_cons (de_v 7) (da_cons (de_v 6) da_nil)) (ln_cons (ln_cons ln_nil))) (de_new (dn_list T.z_list (da_cons (de_v 6) da_nil))))))) (dss_one (ds_retO de_bl)) dss_nil) (dss_one (ds_retO (de_cmp (op_eqD hr.units) v_eq (de_callP ((ok_needed_hills T).mono (by decide)) hr T.f_needed_hills.gl T.f_needed_hills.fu.kp T.f_needed_hills.bi tkD (da_cons (de_v 7) (da_cons (de_v 6) da_nil)) (ln_cons (ln_cons ln_nil))) (de_new (dn_comp sc_law.nd (di_rng2 T.z_range (da_cons de_int (da_cons (de_v 7) da_nil))) (blkOk_by (own := [("hill", 14)]) (N := ["script", "town", "nearest", "row", "tree", "used", "fewer", "many", "some", "met", "made", "pairs", "one", "other", "hill", "a", "b"]) (sc := defScope s_law) (by decide +kernel)) (fun _ _ _ _ _ => (dg_name 14 sc_law.nd)) (fun _ _ _ _ _ => (dts_one (dt_cmp (op_notInA (u65 hr)) v_notIn (de_v 14) (de_callP ((ok_leaves T).mono (by decide)) hr T.f_leaves.gl T.f_leaves.fu.kp T.f_leaves.bi tkF (da_cons (de_v 4) da_nil) (ln_cons ln_nil))))) (fun _ _ _ _ _ => (de_v 14))))))))))))))))))))))))⟩
end
end Hz

namespace Hz
open PySem PySem.Spec PyProof.Rows L2
def spLaw (K : PySem.W.Frag) : Sp := fun vs H Q _ => ∃ (b : Addr) (ns : List Int), vs = [.ref b] ∧ SqL K H b (ns.map V.int) ∧ d_law [scrV ns] = .ok (.bool true) ∧ ∀ H', Q (.bl true) H'
theorem all_mk {P : Program} {w : World} {K : PySem.W.Frag} {h : Heap} {mg : Str → Option Value} {fa : Addr} (X : K.In h) (G : h.Ns mainGlobals mg) (hfa : mg "law" = some (.ref fa))
    {f0 : Addr} {od0 an0 : Option Addr} {sl0 : Array (Option Value)} {oc0 kV0 dc0 pm0 cd0 ct0 : Value}
    {f1 : Addr} {od1 an1 : Option Addr} {sl1 : Array (Option Value)} {oc1 kV1 dc1 pm1 cd1 ct1 : Value}
    {f2 : Addr} {od2 an2 : Option Addr} {sl2 : Array (Option Value)} {oc2 kV2 dc2 pm2 cd2 ct2 : Value}
    {f3 : Addr} {od3 an3 : Option Addr} {sl3 : Array (Option Value)} {oc3 kV3 dc3 pm3 cd3 ct3 : Value}
    {f4 : Addr} {od4 an4 : Option Addr} {sl4 : Array (Option Value)} {oc4 kV4 dc4 pm4 cd4 ct4 : Value}
    {f5 : Addr} {od5 an5 : Option Addr} {sl5 : Array (Option Value)} {oc5 kV5 dc5 pm5 cd5 ct5 : Value}
    {f6 : Addr} {od6 an6 : Option Addr} {sl6 : Array (Option Value)} {oc6 kV6 dc6 pm6 cd6 ct6 : Value}
    {f7 : Addr} {od7 an7 : Option Addr} {sl7 : Array (Option Value)} {oc7 kV7 dc7 pm7 cd7 ct7 : Value}
    {f8 : Addr} {od8 an8 : Option Addr} {sl8 : Array (Option Value)} {oc8 kV8 dc8 pm8 cd8 ct8 : Value}
    {f9 : Addr} {od9 an9 : Option Addr} {sl9 : Array (Option Value)} {oc9 kV9 dc9 pm9 cd9 ct9 : Value}
    {f10 : Addr} {od10 an10 : Option Addr} {sl10 : Array (Option Value)} {oc10 kV10 dc10 pm10 cd10 ct10 : Value}
    {f11 : Addr} {od11 an11 : Option Addr} {sl11 : Array (Option Value)} {oc11 kV11 dc11 pm11 cd11 ct11 : Value}
    {f12 : Addr} {od12 an12 : Option Addr} {sl12 : Array (Option Value)} {oc12 kV12 dc12 pm12 cd12 ct12 : Value}
    {f13 : Addr} {od13 an13 : Option Addr} {sl13 : Array (Option Value)} {oc13 kV13 dc13 pm13 cd13 ct13 : Value}
    {f14 : Addr} {od14 an14 : Option Addr} {sl14 : Array (Option Value)} {oc14 kV14 dc14 pm14 cd14 ct14 : Value}
    {f15 : Addr} {od15 an15 : Option Addr} {sl15 : Array (Option Value)} {oc15 kV15 dc15 pm15 cd15 ct15 : Value}
    {f16 : Addr} {od16 an16 : Option Addr} {sl16 : Array (Option Value)} {oc16 kV16 dc16 pm16 cd16 ct16 : Value}
    {f17 : Addr} {od17 an17 : Option Addr} {sl17 : Array (Option Value)} {oc17 kV17 dc17 pm17 cd17 ct17 : Value}
    {f18 : Addr} {od18 an18 : Option Addr} {sl18 : Array (Option Value)} {oc18 kV18 dc18 pm18 cd18 ct18 : Value}
    {f19 : Addr} {od19 an19 : Option Addr} {sl19 : Array (Option Value)} {oc19 kV19 dc19 pm19 cd19 ct19 : Value}
    {f20 : Addr} {od20 an20 : Option Addr} {sl20 : Array (Option Value)} {oc20 kV20 dc20 pm20 cd20 ct20 : Value}
    {f21 : Addr} {od21 an21 : Option Addr} {sl21 : Array (Option Value)} {oc21 kV21 dc21 pm21 cd21 ct21 : Value}
    {f22 : Addr} {od22 an22 : Option Addr} {sl22 : Array (Option Value)} {oc22 kV22 dc22 pm22 cd22 ct22 : Value}
    {f23 : Addr} {od23 an23 : Option Addr} {sl23 : Array (Option Value)} {oc23 kV23 dc23 pm23 cd23 ct23 : Value}
    {f24 : Addr} {od24 an24 : Option Addr} {sl24 : Array (Option Value)} {oc24 kV24 dc24 pm24 cd24 ct24 : Value}
    {f25 : Addr} {od25 an25 : Option Addr} {sl25 : Array (Option Value)} {oc25 kV25 dc25 pm25 cd25 ct25 : Value}
    {f26 : Addr} {od26 an26 : Option Addr} {sl26 : Array (Option Value)} {oc26 kV26 dc26 pm26 cd26 ct26 : Value}
    {f27 : Addr} {od27 an27 : Option Addr} {sl27 : Array (Option Value)} {oc27 kV27 dc27 pm27 cd27 ct27 : Value}
    {f28 : Addr} {od28 an28 : Option Addr} {sl28 : Array (Option Value)} {oc28 kV28 dc28 pm28 cd28 ct28 : Value}
    {f29 : Addr} {od29 an29 : Option Addr} {sl29 : Array (Option Value)} {oc29 kV29 dc29 pm29 cd29 ct29 : Value}
    {f30 : Addr} {od30 an30 : Option Addr} {sl30 : Array (Option Value)} {oc30 kV30 dc30 pm30 cd30 ct30 : Value}
    {f31 : Addr} {od31 an31 : Option Addr} {sl31 : Array (Option Value)} {oc31 kV31 dc31 pm31 cd31 ct31 : Value}
    {f32 : Addr} {od32 an32 : Option Addr} {sl32 : Array (Option Value)} {oc32 kV32 dc32 pm32 cd32 ct32 : Value}
    {f33 : Addr} {od33 an33 : Option Addr} {sl33 : Array (Option Value)} {oc33 kV33 dc33 pm33 cd33 ct33 : Value}
    {f34 : Addr} {od34 an34 : Option Addr} {sl34 : Array (Option Value)} {oc34 kV34 dc34 pm34 cd34 ct34 : Value}
    {f35 : Addr} {od35 an35 : Option Addr} {sl35 : Array (Option Value)} {oc35 kV35 dc35 pm35 cd35 ct35 : Value}
    {f36 : Addr} {od36 an36 : Option Addr} {sl36 : Array (Option Value)} {oc36 kV36 dc36 pm36 cd36 ct36 : Value}
    {f37 : Addr} {od37 an37 : Option Addr} {sl37 : Array (Option Value)} {oc37 kV37 dc37 pm37 cd37 ct37 : Value}
    {f38 : Addr} {od38 an38 : Option Addr} {sl38 : Array (Option Value)} {oc38 kV38 dc38 pm38 cd38 ct38 : Value}
    {f39 : Addr} {od39 an39 : Option Addr} {sl39 : Array (Option Value)} {oc39 kV39 dc39 pm39 cd39 ct39 : Value}
    {f40 : Addr} {od40 an40 : Option Addr} {sl40 : Array (Option Value)} {oc40 kV40 dc40 pm40 cd40 ct40 : Value}
    {f41 : Addr} {od41 an41 : Option Addr} {sl41 : Array (Option Value)} {oc41 kV41 dc41 pm41 cd41 ct41 : Value}
    {f42 : Addr} {od42 an42 : Option Addr} {sl42 : Array (Option Value)} {oc42 kV42 dc42 pm42 cd42 ct42 : Value}
    {A_CONTROLS : Addr} {o_CONTROLS : Obj}
    {t_FOGS : Tok}
    {t_HILLS : Tok}
    {t_LONG : Tok}
    {t_MOMENTS : Tok}
    {t_MOST : Tok}
    {t_REST : Tok}
    {t_SLIPS : Tok}
    {C_NoFog : Addr}
    {C_NoHill : Addr}
    {C_NoRow : Addr}
    {C_NoSights : Addr}
    {C_NoSlips : Addr}
    {C_NoTree : Addr}
    (a0 : PySem.W.nsIn K mainGlobals "is_whole" = some (some (.ref f0)))
    (l0 : K.lookup f0 = some ⟨oc0, od0, .func (PySem.W.fnOf "is_whole" "is_whole" (defArgs s_is_whole) (defBody s_is_whole) (defScope s_is_whole) .none kV0 dc0 pm0 an0 cd0 ct0), sl0⟩)
    (c0 : PySem.W.codeIn K cd0 "is_whole" = true)
    (k0 : PySem.W.keepIn K (.ref f0) = true)
    (a1 : PySem.W.nsIn K mainGlobals "with_rests" = some (some (.ref f1)))
    (l1 : K.lookup f1 = some ⟨oc1, od1, .func (PySem.W.fnOf "with_rests" "with_rests" (defArgs s_with_rests) (defBody s_with_rests) (defScope s_with_rests) .none kV1 dc1 pm1 an1 cd1 ct1), sl1⟩)
    (c1 : PySem.W.codeIn K cd1 "with_rests" = true)
    (k1 : PySem.W.keepIn K (.ref f1) = true)
    (a2 : PySem.W.nsIn K mainGlobals "far_of" = some (some (.ref f2)))
    (l2 : K.lookup f2 = some ⟨oc2, od2, .func (PySem.W.fnOf "far_of" "far_of" (defArgs s_far_of) (defBody s_far_of) (defScope s_far_of) .none kV2 dc2 pm2 an2 cd2 ct2), sl2⟩)
    (c2 : PySem.W.codeIn K cd2 "far_of" = true)
    (k2 : PySem.W.keepIn K (.ref f2) = true)
    (a3 : PySem.W.nsIn K mainGlobals "below" = some (some (.ref f3)))
    (l3 : K.lookup f3 = some ⟨oc3, od3, .func (PySem.W.fnOf "below" "below" (defArgs s_below) (defBody s_below) (defScope s_below) .none kV3 dc3 pm3 an3 cd3 ct3), sl3⟩)
    (c3 : PySem.W.codeIn K cd3 "below" = true)
    (k3 : PySem.W.keepIn K (.ref f3) = true)
    (a4 : PySem.W.nsIn K mainGlobals "seen_from" = some (some (.ref f4)))
    (l4 : K.lookup f4 = some ⟨oc4, od4, .func (PySem.W.fnOf "seen_from" "seen_from" (defArgs s_seen_from) (defBody s_seen_from) (defScope s_seen_from) .none kV4 dc4 pm4 an4 cd4 ct4), sl4⟩)
    (c4 : PySem.W.codeIn K cd4 "seen_from" = true)
    (k4 : PySem.W.keepIn K (.ref f4) = true)
    (a5 : PySem.W.nsIn K mainGlobals "_law_cell_at" = some (some (.ref f5)))
    (l5 : K.lookup f5 = some ⟨oc5, od5, .func (PySem.W.fnOf "_law_cell_at" "_law_cell_at" (defArgs s_law_cell_at) (defBody s_law_cell_at) (defScope s_law_cell_at) .none kV5 dc5 pm5 an5 cd5 ct5), sl5⟩)
    (c5 : PySem.W.codeIn K cd5 "_law_cell_at" = true)
    (k5 : PySem.W.keepIn K (.ref f5) = true)
    (a6 : PySem.W.nsIn K mainGlobals "_law_near" = some (some (.ref f6)))
    (l6 : K.lookup f6 = some ⟨oc6, od6, .func (PySem.W.fnOf "_law_near" "_law_near" (defArgs s_law_near) (defBody s_law_near) (defScope s_law_near) .none kV6 dc6 pm6 an6 cd6 ct6), sl6⟩)
    (c6 : PySem.W.codeIn K cd6 "_law_near" = true)
    (k6 : PySem.W.keepIn K (.ref f6) = true)
    (a7 : PySem.W.nsIn K mainGlobals "is_sign" = some (some (.ref f7)))
    (l7 : K.lookup f7 = some ⟨oc7, od7, .func (PySem.W.fnOf "is_sign" "is_sign" (defArgs s_is_sign) (defBody s_is_sign) (defScope s_is_sign) .none kV7 dc7 pm7 an7 cd7 ct7), sl7⟩)
    (c7 : PySem.W.codeIn K cd7 "is_sign" = true)
    (k7 : PySem.W.keepIn K (.ref f7) = true)
    (a8 : PySem.W.nsIn K mainGlobals "is_tree" = some (some (.ref f8)))
    (l8 : K.lookup f8 = some ⟨oc8, od8, .func (PySem.W.fnOf "is_tree" "is_tree" (defArgs s_is_tree) (defBody s_is_tree) (defScope s_is_tree) .none kV8 dc8 pm8 an8 cd8 ct8), sl8⟩)
    (c8 : PySem.W.codeIn K cd8 "is_tree" = true)
    (k8 : PySem.W.keepIn K (.ref f8) = true)
    (a9 : PySem.W.nsIn K mainGlobals "all_leaves" = some (some (.ref f9)))
    (l9 : K.lookup f9 = some ⟨oc9, od9, .func (PySem.W.fnOf "all_leaves" "all_leaves" (defArgs s_all_leaves) (defBody s_all_leaves) (defScope s_all_leaves) .none kV9 dc9 pm9 an9 cd9 ct9), sl9⟩)
    (c9 : PySem.W.codeIn K cd9 "all_leaves" = true)
    (k9 : PySem.W.keepIn K (.ref f9) = true)
    (a10 : PySem.W.nsIn K mainGlobals "greatest_far" = some (some (.ref f10)))
    (l10 : K.lookup f10 = some ⟨oc10, od10, .func (PySem.W.fnOf "greatest_far" "greatest_far" (defArgs s_greatest_far) (defBody s_greatest_far) (defScope s_greatest_far) .none kV10 dc10 pm10 an10 cd10 ct10), sl10⟩)
    (c10 : PySem.W.codeIn K cd10 "greatest_far" = true)
    (k10 : PySem.W.keepIn K (.ref f10) = true)
    (a11 : PySem.W.nsIn K mainGlobals "is_sight" = some (some (.ref f11)))
    (l11 : K.lookup f11 = some ⟨oc11, od11, .func (PySem.W.fnOf "is_sight" "is_sight" (defArgs s_is_sight) (defBody s_is_sight) (defScope s_is_sight) .none kV11 dc11 pm11 an11 cd11 ct11), sl11⟩)
    (c11 : PySem.W.codeIn K cd11 "is_sight" = true)
    (k11 : PySem.W.keepIn K (.ref f11) = true)
    (a12 : PySem.W.nsIn K mainGlobals "distances" = some (some (.ref f12)))
    (l12 : K.lookup f12 = some ⟨oc12, od12, .func (PySem.W.fnOf "distances" "distances" (defArgs s_distances) (defBody s_distances) (defScope s_distances) .none kV12 dc12 pm12 an12 cd12 ct12), sl12⟩)
    (c12 : PySem.W.codeIn K cd12 "distances" = true)
    (k12 : PySem.W.keepIn K (.ref f12) = true)
    (a13 : PySem.W.nsIn K mainGlobals "is_pair" = some (some (.ref f13)))
    (l13 : K.lookup f13 = some ⟨oc13, od13, .func (PySem.W.fnOf "is_pair" "is_pair" (defArgs s_is_pair) (defBody s_is_pair) (defScope s_is_pair) .none kV13 dc13 pm13 an13 cd13 ct13), sl13⟩)
    (c13 : PySem.W.codeIn K cd13 "is_pair" = true)
    (k13 : PySem.W.keepIn K (.ref f13) = true)
    (a14 : PySem.W.nsIn K mainGlobals "is_repeated" = some (some (.ref f14)))
    (l14 : K.lookup f14 = some ⟨oc14, od14, .func (PySem.W.fnOf "is_repeated" "is_repeated" (defArgs s_is_repeated) (defBody s_is_repeated) (defScope s_is_repeated) .none kV14 dc14 pm14 an14 cd14 ct14), sl14⟩)
    (c14 : PySem.W.codeIn K cd14 "is_repeated" = true)
    (k14 : PySem.W.keepIn K (.ref f14) = true)
    (a15 : PySem.W.nsIn K mainGlobals "_law_mixed" = some (some (.ref f15)))
    (l15 : K.lookup f15 = some ⟨oc15, od15, .func (PySem.W.fnOf "_law_mixed" "_law_mixed" (defArgs s_law_mixed) (defBody s_law_mixed) (defScope s_law_mixed) .none kV15 dc15 pm15 an15 cd15 ct15), sl15⟩)
    (c15 : PySem.W.codeIn K cd15 "_law_mixed" = true)
    (k15 : PySem.W.keepIn K (.ref f15) = true)
    (a16 : PySem.W.nsIn K mainGlobals "is_row" = some (some (.ref f16)))
    (l16 : K.lookup f16 = some ⟨oc16, od16, .func (PySem.W.fnOf "is_row" "is_row" (defArgs s_is_row) (defBody s_is_row) (defScope s_is_row) .none kV16 dc16 pm16 an16 cd16 ct16), sl16⟩)
    (c16 : PySem.W.codeIn K cd16 "is_row" = true)
    (k16 : PySem.W.keepIn K (.ref f16) = true)
    (a17 : PySem.W.nsIn K mainGlobals "need_tree" = some (some (.ref f17)))
    (l17 : K.lookup f17 = some ⟨oc17, od17, .func (PySem.W.fnOf "need_tree" "need_tree" (defArgs s_need_tree) (defBody s_need_tree) (defScope s_need_tree) .none kV17 dc17 pm17 an17 cd17 ct17), sl17⟩)
    (c17 : PySem.W.codeIn K cd17 "need_tree" = true)
    (k17 : PySem.W.keepIn K (.ref f17) = true)
    (a18 : PySem.W.nsIn K mainGlobals "need_sights" = some (some (.ref f18)))
    (l18 : K.lookup f18 = some ⟨oc18, od18, .func (PySem.W.fnOf "need_sights" "need_sights" (defArgs s_need_sights) (defBody s_need_sights) (defScope s_need_sights) .none kV18 dc18 pm18 an18 cd18 ct18), sl18⟩)
    (c18 : PySem.W.codeIn K cd18 "need_sights" = true)
    (k18 : PySem.W.keepIn K (.ref f18) = true)
    (a19 : PySem.W.nsIn K mainGlobals "is_fog" = some (some (.ref f19)))
    (l19 : K.lookup f19 = some ⟨oc19, od19, .func (PySem.W.fnOf "is_fog" "is_fog" (defArgs s_is_fog) (defBody s_is_fog) (defScope s_is_fog) .none kV19 dc19 pm19 an19 cd19 ct19), sl19⟩)
    (c19 : PySem.W.codeIn K cd19 "is_fog" = true)
    (k19 : PySem.W.keepIn K (.ref f19) = true)
    (a20 : PySem.W.nsIn K mainGlobals "is_slip" = some (some (.ref f20)))
    (l20 : K.lookup f20 = some ⟨oc20, od20, .func (PySem.W.fnOf "is_slip" "is_slip" (defArgs s_is_slip) (defBody s_is_slip) (defScope s_is_slip) .none kV20 dc20 pm20 an20 cd20 ct20), sl20⟩)
    (c20 : PySem.W.codeIn K cd20 "is_slip" = true)
    (k20 : PySem.W.keepIn K (.ref f20) = true)
    (a21 : PySem.W.nsIn K mainGlobals "next_show" = some (some (.ref f21)))
    (l21 : K.lookup f21 = some ⟨oc21, od21, .func (PySem.W.fnOf "next_show" "next_show" (defArgs s_next_show) (defBody s_next_show) (defScope s_next_show) .none kV21 dc21 pm21 an21 cd21 ct21), sl21⟩)
    (c21 : PySem.W.codeIn K cd21 "next_show" = true)
    (k21 : PySem.W.keepIn K (.ref f21) = true)
    (a22 : PySem.W.nsIn K mainGlobals "_law_draw" = some (some (.ref f22)))
    (l22 : K.lookup f22 = some ⟨oc22, od22, .func (PySem.W.fnOf "_law_draw" "_law_draw" (defArgs s_law_draw) (defBody s_law_draw) (defScope s_law_draw) .none kV22 dc22 pm22 an22 cd22 ct22), sl22⟩)
    (c22 : PySem.W.codeIn K cd22 "_law_draw" = true)
    (k22 : PySem.W.keepIn K (.ref f22) = true)
    (a23 : PySem.W.nsIn K mainGlobals "need_row" = some (some (.ref f23)))
    (l23 : K.lookup f23 = some ⟨oc23, od23, .func (PySem.W.fnOf "need_row" "need_row" (defArgs s_need_row) (defBody s_need_row) (defScope s_need_row) .none kV23 dc23 pm23 an23 cd23 ct23), sl23⟩)
    (c23 : PySem.W.codeIn K cd23 "need_row" = true)
    (k23 : PySem.W.keepIn K (.ref f23) = true)
    (a24 : PySem.W.nsIn K mainGlobals "need_hill" = some (some (.ref f24)))
    (l24 : K.lookup f24 = some ⟨oc24, od24, .func (PySem.W.fnOf "need_hill" "need_hill" (defArgs s_need_hill) (defBody s_need_hill) (defScope s_need_hill) .none kV24 dc24 pm24 an24 cd24 ct24), sl24⟩)
    (c24 : PySem.W.codeIn K cd24 "need_hill" = true)
    (k24 : PySem.W.keepIn K (.ref f24) = true)
    (a25 : PySem.W.nsIn K mainGlobals "leaves" = some (some (.ref f25)))
    (l25 : K.lookup f25 = some ⟨oc25, od25, .func (PySem.W.fnOf "leaves" "leaves" (defArgs s_leaves) (defBody s_leaves) (defScope s_leaves) .none kV25 dc25 pm25 an25 cd25 ct25), sl25⟩)
    (c25 : PySem.W.codeIn K cd25 "leaves" = true)
    (k25 : PySem.W.keepIn K (.ref f25) = true)
    (a26 : PySem.W.nsIn K mainGlobals "nearest_tree" = some (some (.ref f26)))
    (l26 : K.lookup f26 = some ⟨oc26, od26, .func (PySem.W.fnOf "nearest_tree" "nearest_tree" (defArgs s_nearest_tree) (defBody s_nearest_tree) (defScope s_nearest_tree) .none kV26 dc26 pm26 an26 cd26 ct26), sl26⟩)
    (c26 : PySem.W.codeIn K cd26 "nearest_tree" = true)
    (k26 : PySem.W.keepIn K (.ref f26) = true)
    (a27 : PySem.W.nsIn K mainGlobals "unreached" = some (some (.ref f27)))
    (l27 : K.lookup f27 = some ⟨oc27, od27, .func (PySem.W.fnOf "unreached" "unreached" (defArgs s_unreached) (defBody s_unreached) (defScope s_unreached) .none kV27 dc27 pm27 an27 cd27 ct27), sl27⟩)
    (c27 : PySem.W.codeIn K cd27 "unreached" = true)
    (k27 : PySem.W.keepIn K (.ref f27) = true)
    (a28 : PySem.W.nsIn K mainGlobals "needed_hills" = some (some (.ref f28)))
    (l28 : K.lookup f28 = some ⟨oc28, od28, .func (PySem.W.fnOf "needed_hills" "needed_hills" (defArgs s_needed_hills) (defBody s_needed_hills) (defScope s_needed_hills) .none kV28 dc28 pm28 an28 cd28 ct28), sl28⟩)
    (c28 : PySem.W.codeIn K cd28 "needed_hills" = true)
    (k28 : PySem.W.keepIn K (.ref f28) = true)
    (a29 : PySem.W.nsIn K mainGlobals "needed_sights" = some (some (.ref f29)))
    (l29 : K.lookup f29 = some ⟨oc29, od29, .func (PySem.W.fnOf "needed_sights" "needed_sights" (defArgs s_needed_sights) (defBody s_needed_sights) (defScope s_needed_sights) .none kV29 dc29 pm29 an29 cd29 ct29), sl29⟩)
    (c29 : PySem.W.codeIn K cd29 "needed_sights" = true)
    (k29 : PySem.W.keepIn K (.ref f29) = true)
    (a30 : PySem.W.nsIn K mainGlobals "is_of" = some (some (.ref f30)))
    (l30 : K.lookup f30 = some ⟨oc30, od30, .func (PySem.W.fnOf "is_of" "is_of" (defArgs s_is_of) (defBody s_is_of) (defScope s_is_of) .none kV30 dc30 pm30 an30 cd30 ct30), sl30⟩)
    (c30 : PySem.W.codeIn K cd30 "is_of" = true)
    (k30 : PySem.W.keepIn K (.ref f30) = true)
    (a31 : PySem.W.nsIn K mainGlobals "are_slips" = some (some (.ref f31)))
    (l31 : K.lookup f31 = some ⟨oc31, od31, .func (PySem.W.fnOf "are_slips" "are_slips" (defArgs s_are_slips) (defBody s_are_slips) (defScope s_are_slips) .none kV31 dc31 pm31 an31 cd31 ct31), sl31⟩)
    (c31 : PySem.W.codeIn K cd31 "are_slips" = true)
    (k31 : PySem.W.keepIn K (.ref f31) = true)
    (a32 : PySem.W.nsIn K mainGlobals "stepped" = some (some (.ref f32)))
    (l32 : K.lookup f32 = some ⟨oc32, od32, .func (PySem.W.fnOf "stepped" "stepped" (defArgs s_stepped) (defBody s_stepped) (defScope s_stepped) .none kV32 dc32 pm32 an32 cd32 ct32), sl32⟩)
    (c32 : PySem.W.codeIn K cd32 "stepped" = true)
    (k32 : PySem.W.keepIn K (.ref f32) = true)
    (a33 : PySem.W.nsIn K mainGlobals "clear_time" = some (some (.ref f33)))
    (l33 : K.lookup f33 = some ⟨oc33, od33, .func (PySem.W.fnOf "clear_time" "clear_time" (defArgs s_clear_time) (defBody s_clear_time) (defScope s_clear_time) .none kV33 dc33 pm33 an33 cd33 ct33), sl33⟩)
    (c33 : PySem.W.codeIn K cd33 "clear_time" = true)
    (k33 : PySem.W.keepIn K (.ref f33) = true)
    (a34 : PySem.W.nsIn K mainGlobals "_law_pick" = some (some (.ref f34)))
    (l34 : K.lookup f34 = some ⟨oc34, od34, .func (PySem.W.fnOf "_law_pick" "_law_pick" (defArgs s_law_pick) (defBody s_law_pick) (defScope s_law_pick) .none kV34 dc34 pm34 an34 cd34 ct34), sl34⟩)
    (c34 : PySem.W.codeIn K cd34 "_law_pick" = true)
    (k34 : PySem.W.keepIn K (.ref f34) = true)
    (a35 : PySem.W.nsIn K mainGlobals "_law_sights" = some (some (.ref f35)))
    (l35 : K.lookup f35 = some ⟨oc35, od35, .func (PySem.W.fnOf "_law_sights" "_law_sights" (defArgs s_law_sights) (defBody s_law_sights) (defScope s_law_sights) .none kV35 dc35 pm35 an35 cd35 ct35), sl35⟩)
    (c35 : PySem.W.codeIn K cd35 "_law_sights" = true)
    (k35 : PySem.W.keepIn K (.ref f35) = true)
    (a36 : PySem.W.nsIn K mainGlobals "far" = some (some (.ref f36)))
    (l36 : K.lookup f36 = some ⟨oc36, od36, .func (PySem.W.fnOf "far" "far" (defArgs s_far) (defBody s_far) (defScope s_far) .none kV36 dc36 pm36 an36 cd36 ct36), sl36⟩)
    (c36 : PySem.W.codeIn K cd36 "far" = true)
    (k36 : PySem.W.keepIn K (.ref f36) = true)
    (a37 : PySem.W.nsIn K mainGlobals "need_all" = some (some (.ref f37)))
    (l37 : K.lookup f37 = some ⟨oc37, od37, .func (PySem.W.fnOf "need_all" "need_all" (defArgs s_need_all) (defBody s_need_all) (defScope s_need_all) .none kV37 dc37 pm37 an37 cd37 ct37), sl37⟩)
    (c37 : PySem.W.codeIn K cd37 "need_all" = true)
    (k37 : PySem.W.keepIn K (.ref f37) = true)
    (a38 : PySem.W.nsIn K mainGlobals "all_shows" = some (some (.ref f38)))
    (l38 : K.lookup f38 = some ⟨oc38, od38, .func (PySem.W.fnOf "all_shows" "all_shows" (defArgs s_all_shows) (defBody s_all_shows) (defScope s_all_shows) .none kV38 dc38 pm38 an38 cd38 ct38), sl38⟩)
    (c38 : PySem.W.codeIn K cd38 "all_shows" = true)
    (k38 : PySem.W.keepIn K (.ref f38) = true)
    (a39 : PySem.W.nsIn K mainGlobals "_law_sign" = some (some (.ref f39)))
    (l39 : K.lookup f39 = some ⟨oc39, od39, .func (PySem.W.fnOf "_law_sign" "_law_sign" (defArgs s_law_sign) (defBody s_law_sign) (defScope s_law_sign) .none kV39 dc39 pm39 an39 cd39 ct39), sl39⟩)
    (c39 : PySem.W.codeIn K cd39 "_law_sign" = true)
    (k39 : PySem.W.keepIn K (.ref f39) = true)
    (a40 : PySem.W.nsIn K mainGlobals "over" = some (some (.ref f40)))
    (l40 : K.lookup f40 = some ⟨oc40, od40, .func (PySem.W.fnOf "over" "over" (defArgs s_over) (defBody s_over) (defScope s_over) .none kV40 dc40 pm40 an40 cd40 ct40), sl40⟩)
    (c40 : PySem.W.codeIn K cd40 "over" = true)
    (k40 : PySem.W.keepIn K (.ref f40) = true)
    (a41 : PySem.W.nsIn K mainGlobals "_law_row" = some (some (.ref f41)))
    (l41 : K.lookup f41 = some ⟨oc41, od41, .func (PySem.W.fnOf "_law_row" "_law_row" (defArgs s_law_row) (defBody s_law_row) (defScope s_law_row) .none kV41 dc41 pm41 an41 cd41 ct41), sl41⟩)
    (c41 : PySem.W.codeIn K cd41 "_law_row" = true)
    (k41 : PySem.W.keepIn K (.ref f41) = true)
    (a42 : PySem.W.nsIn K mainGlobals "law" = some (some (.ref f42)))
    (l42 : K.lookup f42 = some ⟨oc42, od42, .func (PySem.W.fnOf "law" "law" (defArgs s_law) (defBody s_law) (defScope s_law) .none kV42 dc42 pm42 an42 cd42 ct42), sl42⟩)
    (c42 : PySem.W.codeIn K cd42 "law" = true)
    (k42 : PySem.W.keepIn K (.ref f42) = true)
    (z_all : PySem.W.nsIn K mainGlobals "all" = some none)
    (z_bool : PySem.W.nsIn K mainGlobals "bool" = some none)
    (z_dict : PySem.W.nsIn K mainGlobals "dict" = some none)
    (z_enumerate : PySem.W.nsIn K mainGlobals "enumerate" = some none)
    (z_int : PySem.W.nsIn K mainGlobals "int" = some none)
    (z_isinstance : PySem.W.nsIn K mainGlobals "isinstance" = some none)
    (z_len : PySem.W.nsIn K mainGlobals "len" = some none)
    (z_list : PySem.W.nsIn K mainGlobals "list" = some none)
    (z_max : PySem.W.nsIn K mainGlobals "max" = some none)
    (z_min : PySem.W.nsIn K mainGlobals "min" = some none)
    (z_range : PySem.W.nsIn K mainGlobals "range" = some none)
    (z_sorted : PySem.W.nsIn K mainGlobals "sorted" = some none)
    (z_str : PySem.W.nsIn K mainGlobals "str" = some none)
    (z_sum : PySem.W.nsIn K mainGlobals "sum" = some none)
    (z_tuple : PySem.W.nsIn K mainGlobals "tuple" = some none)
    (z_zip : PySem.W.nsIn K mainGlobals "zip" = some none)
    (c_CONTROLS : PySem.W.nsIn K mainGlobals "CONTROLS" = some (some (.ref A_CONTROLS)))
    (l_CONTROLS : K.lookup A_CONTROLS = some o_CONTROLS)
    (o_CONTROLS_ok : gtup o_CONTROLS ["begin", "end", "halt", "spell", "strike", "word"] = true)
    (c_FOGS : PySem.W.nsIn K mainGlobals "FOGS" = some (some (.int 12 t_FOGS)))
    (c_HILLS : PySem.W.nsIn K mainGlobals "HILLS" = some (some (.int 8 t_HILLS)))
    (c_LONG : PySem.W.nsIn K mainGlobals "LONG" = some (some (.int 160 t_LONG)))
    (c_MOMENTS : PySem.W.nsIn K mainGlobals "MOMENTS" = some (some (.int 999 t_MOMENTS)))
    (c_MOST : PySem.W.nsIn K mainGlobals "MOST" = some (some (.int 11 t_MOST)))
    (c_REST : PySem.W.nsIn K mainGlobals "REST" = some (some (.str "rest" t_REST)))
    (c_SLIPS : PySem.W.nsIn K mainGlobals "SLIPS" = some (some (.int 6 t_SLIPS)))
    (g_NoFog : PySem.W.nsIn K mainGlobals "NoFog" = some (some (.ref C_NoFog)))
    (g_NoHill : PySem.W.nsIn K mainGlobals "NoHill" = some (some (.ref C_NoHill)))
    (g_NoRow : PySem.W.nsIn K mainGlobals "NoRow" = some (some (.ref C_NoRow)))
    (g_NoSights : PySem.W.nsIn K mainGlobals "NoSights" = some (some (.ref C_NoSights)))
    (g_NoSlips : PySem.W.nsIn K mainGlobals "NoSlips" = some (some (.ref C_NoSlips)))
    (g_NoTree : PySem.W.nsIn K mainGlobals "NoTree" = some (some (.ref C_NoTree)))
    (x_NoFog : PySem.W.excIn K C_NoFog [.type "ValueError", .type "Exception", .type "BaseException", .type "object"] "ValueError.__new__" = true)
    (k_NoFog : PySem.W.keepIn K (.ref C_NoFog) = true)
    (b_NoFog : PySem.W.subIn K (.ref C_NoFog) (.type "BaseException") = some true)
    (t_NoFog : PySem.W.typeIn K (.ref C_NoFog) = some (.type "type"))
    (x_NoHill : PySem.W.excIn K C_NoHill [.type "ValueError", .type "Exception", .type "BaseException", .type "object"] "ValueError.__new__" = true)
    (k_NoHill : PySem.W.keepIn K (.ref C_NoHill) = true)
    (b_NoHill : PySem.W.subIn K (.ref C_NoHill) (.type "BaseException") = some true)
    (t_NoHill : PySem.W.typeIn K (.ref C_NoHill) = some (.type "type"))
    (x_NoRow : PySem.W.excIn K C_NoRow [.type "ValueError", .type "Exception", .type "BaseException", .type "object"] "ValueError.__new__" = true)
    (k_NoRow : PySem.W.keepIn K (.ref C_NoRow) = true)
    (b_NoRow : PySem.W.subIn K (.ref C_NoRow) (.type "BaseException") = some true)
    (t_NoRow : PySem.W.typeIn K (.ref C_NoRow) = some (.type "type"))
    (x_NoSights : PySem.W.excIn K C_NoSights [.type "ValueError", .type "Exception", .type "BaseException", .type "object"] "ValueError.__new__" = true)
    (k_NoSights : PySem.W.keepIn K (.ref C_NoSights) = true)
    (b_NoSights : PySem.W.subIn K (.ref C_NoSights) (.type "BaseException") = some true)
    (t_NoSights : PySem.W.typeIn K (.ref C_NoSights) = some (.type "type"))
    (x_NoSlips : PySem.W.excIn K C_NoSlips [.type "ValueError", .type "Exception", .type "BaseException", .type "object"] "ValueError.__new__" = true)
    (k_NoSlips : PySem.W.keepIn K (.ref C_NoSlips) = true)
    (b_NoSlips : PySem.W.subIn K (.ref C_NoSlips) (.type "BaseException") = some true)
    (t_NoSlips : PySem.W.typeIn K (.ref C_NoSlips) = some (.type "type"))
    (x_NoTree : PySem.W.excIn K C_NoTree [.type "ValueError", .type "Exception", .type "BaseException", .type "object"] "ValueError.__new__" = true)
    (k_NoTree : PySem.W.keepIn K (.ref C_NoTree) = true)
    (b_NoTree : PySem.W.subIn K (.ref C_NoTree) (.type "BaseException") = some true)
    (t_NoTree : PySem.W.typeIn K (.ref C_NoTree) = some (.type "type"))
    : ∃ fd : FuncData, (∀ (s : Shared) (v : Value), BindsTo s fd ⟨[v], []⟩ [("script", v)]) ∧ ∀ base : Heap, K.In base → base.Ns mainGlobals mg → FnOk P w K mg base (L2N.CX P w) 8 fa fd ["script"] (spLaw K) := by
  have e := hfa.symm.trans (PySem.W.mg_of X G a42)
  cases e
  have F0 := fun_mk (st := s_is_whole) l0 c0 k0
  have F1 := fun_mk (st := s_with_rests) l1 c1 k1
  have F2 := fun_mk (st := s_far_of) l2 c2 k2
  have F3 := fun_mk (st := s_below) l3 c3 k3
  have F4 := fun_mk (st := s_seen_from) l4 c4 k4
  have F5 := fun_mk (st := s_law_cell_at) l5 c5 k5
  have F6 := fun_mk (st := s_law_near) l6 c6 k6
  have F7 := fun_mk (st := s_is_sign) l7 c7 k7
  have F8 := fun_mk (st := s_is_tree) l8 c8 k8
  have F9 := fun_mk (st := s_all_leaves) l9 c9 k9
  have F10 := fun_mk (st := s_greatest_far) l10 c10 k10
  have F11 := fun_mk (st := s_is_sight) l11 c11 k11
  have F12 := fun_mk (st := s_distances) l12 c12 k12
  have F13 := fun_mk (st := s_is_pair) l13 c13 k13
  have F14 := fun_mk (st := s_is_repeated) l14 c14 k14
  have F15 := fun_mk (st := s_law_mixed) l15 c15 k15
  have F16 := fun_mk (st := s_is_row) l16 c16 k16
  have F17 := fun_mk (st := s_need_tree) l17 c17 k17
  have F18 := fun_mk (st := s_need_sights) l18 c18 k18
  have F19 := fun_mk (st := s_is_fog) l19 c19 k19
  have F20 := fun_mk (st := s_is_slip) l20 c20 k20
  have F21 := fun_mk (st := s_next_show) l21 c21 k21
  have F22 := fun_mk (st := s_law_draw) l22 c22 k22
  have F23 := fun_mk (st := s_need_row) l23 c23 k23
  have F24 := fun_mk (st := s_need_hill) l24 c24 k24
  have F25 := fun_mk (st := s_leaves) l25 c25 k25
  have F26 := fun_mk (st := s_nearest_tree) l26 c26 k26
  have F27 := fun_mk (st := s_unreached) l27 c27 k27
  have F28 := fun_mk (st := s_needed_hills) l28 c28 k28
  have F29 := fun_mk (st := s_needed_sights) l29 c29 k29
  have F30 := fun_mk (st := s_is_of) l30 c30 k30
  have F31 := fun_mk (st := s_are_slips) l31 c31 k31
  have F32 := fun_mk (st := s_stepped) l32 c32 k32
  have F33 := fun_mk (st := s_clear_time) l33 c33 k33
  have F34 := fun_mk (st := s_law_pick) l34 c34 k34
  have F35 := fun_mk (st := s_law_sights) l35 c35 k35
  have F36 := fun_mk (st := s_far) l36 c36 k36
  have F37 := fun_mk (st := s_need_all) l37 c37 k37
  have F38 := fun_mk (st := s_all_shows) l38 c38 k38
  have F39 := fun_mk (st := s_law_sign) l39 c39 k39
  have F40 := fun_mk (st := s_over) l40 c40 k40
  have F41 := fun_mk (st := s_law_row) l41 c41 k41
  have F42 := fun_mk (st := s_law) l42 c42 k42
  have T : Tx K mg (fun k => if k = 4 then C_NoFog else if k = 7 then C_NoHill else if k = 2 then C_NoRow else if k = 9 then C_NoSights else if k = 5 then C_NoSlips else if k = 3 then C_NoTree else 0) ⟨f0, _, f1, _, f2, _, f3, _, f4, _, f5, _, f6, _, f7, _, f8, _, f9, _, f10, _, f11, _, f12, _, f13, _, f14, _, f15, _, f16, _, f17, _, f18, _, f19, _, f20, _, f21, _, f22, _, f23, _, f24, _, f25, _, f26, _, f27, _, f28, _, f29, _, f30, _, f31, _, f32, _, f33, _, f34, _, f35, _, f36, _, f37, _, f38, _, f39, _, f40, _, f41, _, fa, _, A_CONTROLS⟩ := ⟨⟨F0, F0.binds fun _ _ _ _ _ _ us hl => match us, hl with | [_, _, _], _ => rfl, PySem.W.mg_of X G a0⟩,
    ⟨F1, F1.binds fun _ _ _ _ _ _ us hl => match us, hl with | [_], _ => rfl, PySem.W.mg_of X G a1⟩,
    ⟨F2, F2.binds fun _ _ _ _ _ _ us hl => match us, hl with | [_, _], _ => rfl, PySem.W.mg_of X G a2⟩,
    ⟨F3, F3.binds fun _ _ _ _ _ _ us hl => match us, hl with | [_, _], _ => rfl, PySem.W.mg_of X G a3⟩,
    ⟨F4, F4.binds fun _ _ _ _ _ _ us hl => match us, hl with | [_, _], _ => rfl, PySem.W.mg_of X G a4⟩,
    ⟨F5, F5.binds fun _ _ _ _ _ _ us hl => match us, hl with | [_, _], _ => rfl, PySem.W.mg_of X G a5⟩,
    ⟨F6, F6.binds fun _ _ _ _ _ _ us hl => match us, hl with | [_, _], _ => rfl, PySem.W.mg_of X G a6⟩,
    ⟨F7, F7.binds fun _ _ _ _ _ _ us hl => match us, hl with | [_], _ => rfl, PySem.W.mg_of X G a7⟩,
    ⟨F8, F8.binds fun _ _ _ _ _ _ us hl => match us, hl with | [_], _ => rfl, PySem.W.mg_of X G a8⟩,
    ⟨F9, F9.binds fun _ _ _ _ _ _ us hl => match us, hl with | [_], _ => rfl, PySem.W.mg_of X G a9⟩,
    ⟨F10, F10.binds fun _ _ _ _ _ _ us hl => match us, hl with | [_], _ => rfl, PySem.W.mg_of X G a10⟩,
    ⟨F11, F11.binds fun _ _ _ _ _ _ us hl => match us, hl with | [_, _], _ => rfl, PySem.W.mg_of X G a11⟩,
    ⟨F12, F12.binds fun _ _ _ _ _ _ us hl => match us, hl with | [_, _, _], _ => rfl, PySem.W.mg_of X G a12⟩,
    ⟨F13, F13.binds fun _ _ _ _ _ _ us hl => match us, hl with | [_, _], _ => rfl, PySem.W.mg_of X G a13⟩,
    ⟨F14, F14.binds fun _ _ _ _ _ _ us hl => match us, hl with | [_, _, _, _], _ => rfl, PySem.W.mg_of X G a14⟩,
    ⟨F15, F15.binds fun _ _ _ _ _ _ us hl => match us, hl with | [_, _, _], _ => rfl, PySem.W.mg_of X G a15⟩,
    ⟨F16, F16.binds fun _ _ _ _ _ _ us hl => match us, hl with | [_], _ => rfl, PySem.W.mg_of X G a16⟩,
    ⟨F17, F17.binds fun _ _ _ _ _ _ us hl => match us, hl with | [_], _ => rfl, PySem.W.mg_of X G a17⟩,
    ⟨F18, F18.binds fun _ _ _ _ _ _ us hl => match us, hl with | [_, _], _ => rfl, PySem.W.mg_of X G a18⟩,
    ⟨F19, F19.binds fun _ _ _ _ _ _ us hl => match us, hl with | [_, _], _ => rfl, PySem.W.mg_of X G a19⟩,
    ⟨F20, F20.binds fun _ _ _ _ _ _ us hl => match us, hl with | [_, _], _ => rfl, PySem.W.mg_of X G a20⟩,
    ⟨F21, F21.binds fun _ _ _ _ _ _ us hl => match us, hl with | [_, _, _, _], _ => rfl, PySem.W.mg_of X G a21⟩,
    ⟨F22, F22.binds fun _ _ _ _ _ _ us hl => match us, hl with | [_, _, _], _ => rfl, PySem.W.mg_of X G a22⟩,
    ⟨F23, F23.binds fun _ _ _ _ _ _ us hl => match us, hl with | [_], _ => rfl, PySem.W.mg_of X G a23⟩,
    ⟨F24, F24.binds fun _ _ _ _ _ _ us hl => match us, hl with | [_, _], _ => rfl, PySem.W.mg_of X G a24⟩,
    ⟨F25, F25.binds fun _ _ _ _ _ _ us hl => match us, hl with | [_], _ => rfl, PySem.W.mg_of X G a25⟩,
    ⟨F26, F26.binds fun _ _ _ _ _ _ us hl => match us, hl with | [_, _], _ => rfl, PySem.W.mg_of X G a26⟩,
    ⟨F27, F27.binds fun _ _ _ _ _ _ us hl => match us, hl with | [_, _], _ => rfl, PySem.W.mg_of X G a27⟩,
    ⟨F28, F28.binds fun _ _ _ _ _ _ us hl => match us, hl with | [_, _], _ => rfl, PySem.W.mg_of X G a28⟩,
    ⟨F29, F29.binds fun _ _ _ _ _ _ us hl => match us, hl with | [_, _], _ => rfl, PySem.W.mg_of X G a29⟩,
    ⟨F30, F30.binds fun _ _ _ _ _ _ us hl => match us, hl with | [_, _, _], _ => rfl, PySem.W.mg_of X G a30⟩,
    ⟨F31, F31.binds fun _ _ _ _ _ _ us hl => match us, hl with | [_, _], _ => rfl, PySem.W.mg_of X G a31⟩,
    ⟨F32, F32.binds fun _ _ _ _ _ _ us hl => match us, hl with | [_, _, _, _, _], _ => rfl, PySem.W.mg_of X G a32⟩,
    ⟨F33, F33.binds fun _ _ _ _ _ _ us hl => match us, hl with | [_, _], _ => rfl, PySem.W.mg_of X G a33⟩,
    ⟨F34, F34.binds fun _ _ _ _ _ _ us hl => match us, hl with | [_, _, _], _ => rfl, PySem.W.mg_of X G a34⟩,
    ⟨F35, F35.binds fun _ _ _ _ _ _ us hl => match us, hl with | [_, _], _ => rfl, PySem.W.mg_of X G a35⟩,
    ⟨F36, F36.binds fun _ _ _ _ _ _ us hl => match us, hl with | [_, _], _ => rfl, PySem.W.mg_of X G a36⟩,
    ⟨F37, F37.binds fun _ _ _ _ _ _ us hl => match us, hl with | [_, _, _, _], _ => rfl, PySem.W.mg_of X G a37⟩,
    ⟨F38, F38.binds fun _ _ _ _ _ _ us hl => match us, hl with | [_, _, _, _], _ => rfl, PySem.W.mg_of X G a38⟩,
    ⟨F39, F39.binds fun _ _ _ _ _ _ us hl => match us, hl with | [_, _], _ => rfl, PySem.W.mg_of X G a39⟩,
    ⟨F40, F40.binds fun _ _ _ _ _ _ us hl => match us, hl with | [_, _, _, _], _ => rfl, PySem.W.mg_of X G a40⟩,
    ⟨F41, F41.binds fun _ _ _ _ _ _ us hl => match us, hl with | [_, _, _], _ => rfl, PySem.W.mg_of X G a41⟩,
    ⟨F42, F42.binds fun _ _ _ _ _ _ us hl => match us, hl with | [_], _ => rfl, PySem.W.mg_of X G a42⟩,
    PySem.W.mg_none_of X G z_all,
    PySem.W.mg_none_of X G z_bool,
    PySem.W.mg_none_of X G z_dict,
    PySem.W.mg_none_of X G z_enumerate,
    PySem.W.mg_none_of X G z_int,
    PySem.W.mg_none_of X G z_isinstance,
    PySem.W.mg_none_of X G z_len,
    PySem.W.mg_none_of X G z_list,
    PySem.W.mg_none_of X G z_max,
    PySem.W.mg_none_of X G z_min,
    PySem.W.mg_none_of X G z_range,
    PySem.W.mg_none_of X G z_sorted,
    PySem.W.mg_none_of X G z_str,
    PySem.W.mg_none_of X G z_sum,
    PySem.W.mg_none_of X G z_tuple,
    PySem.W.mg_none_of X G z_zip,
    ⟨PySem.W.mg_of X G c_CONTROLS, gtup_ok l_CONTROLS o_CONTROLS_ok⟩,
    ⟨_, PySem.W.mg_of X G c_FOGS⟩,
    ⟨_, PySem.W.mg_of X G c_HILLS⟩,
    ⟨_, PySem.W.mg_of X G c_LONG⟩,
    ⟨_, PySem.W.mg_of X G c_MOMENTS⟩,
    ⟨_, PySem.W.mg_of X G c_MOST⟩,
    ⟨_, PySem.W.mg_of X G c_REST⟩,
    ⟨_, PySem.W.mg_of X G c_SLIPS⟩,
    ⟨x_NoFog, PySem.W.mg_of X G g_NoFog, k_NoFog, b_NoFog, t_NoFog⟩,
    ⟨x_NoHill, PySem.W.mg_of X G g_NoHill, k_NoHill, b_NoHill, t_NoHill⟩,
    ⟨x_NoRow, PySem.W.mg_of X G g_NoRow, k_NoRow, b_NoRow, t_NoRow⟩,
    ⟨x_NoSights, PySem.W.mg_of X G g_NoSights, k_NoSights, b_NoSights, t_NoSights⟩,
    ⟨x_NoSlips, PySem.W.mg_of X G g_NoSlips, k_NoSlips, b_NoSlips, t_NoSlips⟩,
    ⟨x_NoTree, PySem.W.mg_of X G g_NoTree, k_NoTree, b_NoTree, t_NoTree⟩⟩
  exact ⟨_, fun s v => .of_eq rfl, fun base _ _ => (ok_law T).imp fun vs H Q E ⟨b, ns, e1, hs, e2, q⟩ => by
    subst e1
    refine ⟨H, [scrV ns], Same.refl _, .cons (.scr hs) .nil, rfl, ?_⟩
    rw [e2]
    intro G2 H2 v g r
    cases r
    exact q H2⟩
end Hz
open PySem PySem.W PyProof.Rows
set_option maxHeartbeats 0 in
theorem PySem.Challenge.cw_hillarms_k39_whole_trees_by_sight_holds : PySem.Challenge.rw_hillarms_k39_whole_trees_by_sight.Holds := by
  w_on; o_law; k_head; (case hw => w_witness2)
  k_fill
  refine L2.walk_of (l := PySem.Challenge.rw_hillarms_k39_whole_trees_by_sight) (n := 63) (k := 8) (x := "script") (CX := fun w => L2N.CX PySem.Challenge.pw_hillarms_k39_whole_trees_by_sight w) (sp := fun w => Hz.spLaw _) rfl (by decide) rfl ⟨rfl, by decide, by decide⟩ (fun w h Y => PySem.W.kIn_of Y) ?F (fun _ _ b ns hl _ hS => ⟨b, ns, rfl, hS, Hz.law_true ns hl, fun _ => rfl⟩) (fun _ _ _ _ _ ⟨_, _, _, _, _, _, _, _, _, _, _, _, h⟩ => h)
  case F =>
    intro w mg fa h KX G hmg
    refine' Hz.all_mk KX G hmg ?a0 ?l0 ?c0 ?k0 ?a1 ?l1 ?c1 ?k1 ?a2 ?l2 ?c2 ?k2 ?a3 ?l3 ?c3 ?k3 ?a4 ?l4 ?c4 ?k4 ?a5 ?l5 ?c5 ?k5 ?a6 ?l6 ?c6 ?k6 ?a7 ?l7 ?c7 ?k7 ?a8 ?l8 ?c8 ?k8 ?a9 ?l9 ?c9 ?k9 ?a10 ?l10 ?c10 ?k10 ?a11 ?l11 ?c11 ?k11 ?a12 ?l12 ?c12 ?k12 ?a13 ?l13 ?c13 ?k13 ?a14 ?l14 ?c14 ?k14 ?a15 ?l15 ?c15 ?k15 ?a16 ?l16 ?c16 ?k16 ?a17 ?l17 ?c17 ?k17 ?a18 ?l18 ?c18 ?k18 ?a19 ?l19 ?c19 ?k19 ?a20 ?l20 ?c20 ?k20 ?a21 ?l21 ?c21 ?k21 ?a22 ?l22 ?c22 ?k22 ?a23 ?l23 ?c23 ?k23 ?a24 ?l24 ?c24 ?k24 ?a25 ?l25 ?c25 ?k25 ?a26 ?l26 ?c26 ?k26 ?a27 ?l27 ?c27 ?k27 ?a28 ?l28 ?c28 ?k28 ?a29 ?l29 ?c29 ?k29 ?a30 ?l30 ?c30 ?k30 ?a31 ?l31 ?c31 ?k31 ?a32 ?l32 ?c32 ?k32 ?a33 ?l33 ?c33 ?k33 ?a34 ?l34 ?c34 ?k34 ?a35 ?l35 ?c35 ?k35 ?a36 ?l36 ?c36 ?k36 ?a37 ?l37 ?c37 ?k37 ?a38 ?l38 ?c38 ?k38 ?a39 ?l39 ?c39 ?k39 ?a40 ?l40 ?c40 ?k40 ?a41 ?l41 ?c41 ?k41 ?a42 ?l42 ?c42 ?k42 ?z_all ?z_bool ?z_dict ?z_enumerate ?z_int ?z_isinstance ?z_len ?z_list ?z_max ?z_min ?z_range ?z_sorted ?z_str ?z_sum ?z_tuple ?z_zip ?c_CONTROLS ?l_CONTROLS ?o_CONTROLS_ok ?c_FOGS ?c_HILLS ?c_LONG ?c_MOMENTS ?c_MOST ?c_REST ?c_SLIPS ?g_NoFog ?g_NoHill ?g_NoRow ?g_NoSights ?g_NoSlips ?g_NoTree ?x_NoFog ?k_NoFog ?b_NoFog ?t_NoFog ?x_NoHill ?k_NoHill ?b_NoHill ?t_NoHill ?x_NoRow ?k_NoRow ?b_NoRow ?t_NoRow ?x_NoSights ?k_NoSights ?b_NoSights ?t_NoSights ?x_NoSlips ?k_NoSlips ?b_NoSlips ?t_NoSlips ?x_NoTree ?k_NoTree ?b_NoTree ?t_NoTree
    (case a0 => k_is)
    (case l0 => k_is)
    (case c0 => k_is)
    (case k0 => k_is)
    (case a1 => k_is)
    (case l1 => k_is)
    (case c1 => k_is)
    (case k1 => k_is)
    (case a2 => k_is)
    (case l2 => k_is)
    (case c2 => k_is)
    (case k2 => k_is)
    (case a3 => k_is)
    (case l3 => k_is)
    (case c3 => k_is)
    (case k3 => k_is)
    (case a4 => k_is)
    (case l4 => k_is)
    (case c4 => k_is)
    (case k4 => k_is)
    (case a5 => k_is)
    (case l5 => k_is)
    (case c5 => k_is)
    (case k5 => k_is)
    (case a6 => k_is)
    (case l6 => k_is)
    (case c6 => k_is)
    (case k6 => k_is)
    (case a7 => k_is)
    (case l7 => k_is)
    (case c7 => k_is)
    (case k7 => k_is)
    (case a8 => k_is)
    (case l8 => k_is)
    (case c8 => k_is)
    (case k8 => k_is)
    (case a9 => k_is)
    (case l9 => k_is)
    (case c9 => k_is)
    (case k9 => k_is)
    (case a10 => k_is)
    (case l10 => k_is)
    (case c10 => k_is)
    (case k10 => k_is)
    (case a11 => k_is)
    (case l11 => k_is)
    (case c11 => k_is)
    (case k11 => k_is)
    (case a12 => k_is)
    (case l12 => k_is)
    (case c12 => k_is)
    (case k12 => k_is)
    (case a13 => k_is)
    (case l13 => k_is)
    (case c13 => k_is)
    (case k13 => k_is)
    (case a14 => k_is)
    (case l14 => k_is)
    (case c14 => k_is)
    (case k14 => k_is)
    (case a15 => k_is)
    (case l15 => k_is)
    (case c15 => k_is)
    (case k15 => k_is)
    (case a16 => k_is)
    (case l16 => k_is)
    (case c16 => k_is)
    (case k16 => k_is)
    (case a17 => k_is)
    (case l17 => k_is)
    (case c17 => k_is)
    (case k17 => k_is)
    (case a18 => k_is)
    (case l18 => k_is)
    (case c18 => k_is)
    (case k18 => k_is)
    (case a19 => k_is)
    (case l19 => k_is)
    (case c19 => k_is)
    (case k19 => k_is)
    (case a20 => k_is)
    (case l20 => k_is)
    (case c20 => k_is)
    (case k20 => k_is)
    (case a21 => k_is)
    (case l21 => k_is)
    (case c21 => k_is)
    (case k21 => k_is)
    (case a22 => k_is)
    (case l22 => k_is)
    (case c22 => k_is)
    (case k22 => k_is)
    (case a23 => k_is)
    (case l23 => k_is)
    (case c23 => k_is)
    (case k23 => k_is)
    (case a24 => k_is)
    (case l24 => k_is)
    (case c24 => k_is)
    (case k24 => k_is)
    (case a25 => k_is)
    (case l25 => k_is)
    (case c25 => k_is)
    (case k25 => k_is)
    (case a26 => k_is)
    (case l26 => k_is)
    (case c26 => k_is)
    (case k26 => k_is)
    (case a27 => k_is)
    (case l27 => k_is)
    (case c27 => k_is)
    (case k27 => k_is)
    (case a28 => k_is)
    (case l28 => k_is)
    (case c28 => k_is)
    (case k28 => k_is)
    (case a29 => k_is)
    (case l29 => k_is)
    (case c29 => k_is)
    (case k29 => k_is)
    (case a30 => k_is)
    (case l30 => k_is)
    (case c30 => k_is)
    (case k30 => k_is)
    (case a31 => k_is)
    (case l31 => k_is)
    (case c31 => k_is)
    (case k31 => k_is)
    (case a32 => k_is)
    (case l32 => k_is)
    (case c32 => k_is)
    (case k32 => k_is)
    (case a33 => k_is)
    (case l33 => k_is)
    (case c33 => k_is)
    (case k33 => k_is)
    (case a34 => k_is)
    (case l34 => k_is)
    (case c34 => k_is)
    (case k34 => k_is)
    (case a35 => k_is)
    (case l35 => k_is)
    (case c35 => k_is)
    (case k35 => k_is)
    (case a36 => k_is)
    (case l36 => k_is)
    (case c36 => k_is)
    (case k36 => k_is)
    (case a37 => k_is)
    (case l37 => k_is)
    (case c37 => k_is)
    (case k37 => k_is)
    (case a38 => k_is)
    (case l38 => k_is)
    (case c38 => k_is)
    (case k38 => k_is)
    (case a39 => k_is)
    (case l39 => k_is)
    (case c39 => k_is)
    (case k39 => k_is)
    (case a40 => k_is)
    (case l40 => k_is)
    (case c40 => k_is)
    (case k40 => k_is)
    (case a41 => k_is)
    (case l41 => k_is)
    (case c41 => k_is)
    (case k41 => k_is)
    (case a42 => k_is)
    (case l42 => k_is)
    (case c42 => k_is)
    (case k42 => k_is)
    (case z_all => k_is)
    (case z_bool => k_is)
    (case z_dict => k_is)
    (case z_enumerate => k_is)
    (case z_int => k_is)
    (case z_isinstance => k_is)
    (case z_len => k_is)
    (case z_list => k_is)
    (case z_max => k_is)
    (case z_min => k_is)
    (case z_range => k_is)
    (case z_sorted => k_is)
    (case z_str => k_is)
    (case z_sum => k_is)
    (case z_tuple => k_is)
    (case z_zip => k_is)
    (case c_CONTROLS => k_is)
    (case l_CONTROLS => k_is)
    (case o_CONTROLS_ok => decide +kernel)
    (case c_FOGS => k_is)
    (case c_HILLS => k_is)
    (case c_LONG => k_is)
    (case c_MOMENTS => k_is)
    (case c_MOST => k_is)
    (case c_REST => k_is)
    (case c_SLIPS => k_is)
    (case g_NoFog => k_is)
    (case g_NoHill => k_is)
    (case g_NoRow => k_is)
    (case g_NoSights => k_is)
    (case g_NoSlips => k_is)
    (case g_NoTree => k_is)
    (case x_NoFog => k_exc)
    (case k_NoFog => k_is)
    (case b_NoFog => k_is)
    (case t_NoFog => k_is)
    (case x_NoHill => k_exc)
    (case k_NoHill => k_is)
    (case b_NoHill => k_is)
    (case t_NoHill => k_is)
    (case x_NoRow => k_exc)
    (case k_NoRow => k_is)
    (case b_NoRow => k_is)
    (case t_NoRow => k_is)
    (case x_NoSights => k_exc)
    (case k_NoSights => k_is)
    (case b_NoSights => k_is)
    (case t_NoSights => k_is)
    (case x_NoSlips => k_exc)
    (case k_NoSlips => k_is)
    (case b_NoSlips => k_is)
    (case t_NoSlips => k_is)
    (case x_NoTree => k_exc)
    (case k_NoTree => k_is)
    (case b_NoTree => k_is)
    (case t_NoTree => k_is)
