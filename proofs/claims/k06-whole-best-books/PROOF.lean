import PyProof.Rows.All
import Wide.All
import OpenK.AllK
import Wide.FinOn
import HandS.ForMost
import HandS.Exc
import HandS.ExcOwn
import HandS.WordsExc
import HandS.IsInst
import HandS.Zip
import HandS.Conv
import HandS.Strs
import HandS.TupAny
import HandS.TupMul
import HandS.TupLe
import HandS.Deep
import HandS.ExcCtx
import HandS.HotCalls
import HandS.ExcIs
import HandS.Style
import HandS.Dict
import KE.DataFind
import HandS.Zip0
import HandS.TupSets
import PyProof.TupleOfSeq
import HandS.Text
import HandS.RaiseMore
import HandS.List
import HandS.SetTxt0
import HandS.SetFor
import PyProof.ListStr
import HandS.Replace
import HandS.Iter
import HandS.DictTup
import KE.KDictSum
import KE.KDictCopyH
import KE.KDictPairs
import KE.DataMinMax
import HandS.SortRule
import HandS.SortInts
import HandS.DeepEq
import KE.KSortTupAny
import PySem.Challenge.RW_hillarms_k06_whole_best_books
set_option Elab.async false
set_option linter.all false
set_option maxRecDepth 100000
set_option maxHeartbeats 4000000
/-! tuples of words are known to have no dict: they are laid as known objects, so that their methods may be called -/
namespace Hz
open PySem PySem.Spec PyProof.Rows L2
def resW : List Str := ["begin", "end", "halt", "spell", "strike", "word", "rest"]
def isSV : V → Bool
  | .str _ => true
  | _ => false
def needNV : List V → Bool
  | .str x :: vs => !decide (x ∈ resW) && vs.all isSV
  | _ => false
def tupO (ob : Obj) (xs : List V) : HO := if needNV xs = true then .frz ob (.tup xs) else .tup xs
theorem tupO_sq {K : PySem.W.Frag} {H : Hp} {a : Addr} {ob : Obj} {xs : List V} (h : H a = some (tupO ob xs)) : SqT K H a xs := by
  unfold tupO at h
  split at h
  · exact .inl (.inr ⟨ob, h⟩)
  · exact .inl (.inl h)
def NoD (K : PySem.W.Frag) (H : Hp) (a : Addr) : Prop := (∃ (o : Obj) (xs : List V), H a = some (.frz o (.tup xs)) ∧ o.dict = none) ∨ ∃ o : Obj, K.lookup a = some o ∧ o.cls = .type "tuple" ∧ o.dict = none
theorem tupO_nd {K : PySem.W.Frag} {H : Hp} {a : Addr} {ob : Obj} {xs : List V} (h : H a = some (tupO ob xs)) (hd : ob.dict = none) (hn : needNV xs = true) : NoD K H a := by
  unfold tupO at h
  rw [if_pos hn] at h
  exact .inl ⟨ob, _, h, hd⟩
theorem tupO_ok {P : Program} {w : World} {H : Hp} {h : Heap} {a : Addr} {ob : Obj} {xs : List V} (hg : h.get? a = some ob) (hk : ObjOk P w H h a (.tup xs)) : ObjOk P w H h a (tupO ob xs) := by
  unfold tupO
  split
  · exact ⟨hg, hk⟩
  · exact hk
section
variable {X : Cx} {es : List Expr} {t : TA} {pos : Pos}
def tTupP (t : TA) : TE := fun σ H Q => t σ H fun xs H1 => xs.length ≤ sizeLine ∧ ∀ p ob, H1 p = none → ob.dict = none → Q (.ref p) (upd H1 p (tupO ob xs))
theorem pe_tupP {k : Nat} (h : PA X es t) : PE X (.Tuple es k pos) (tTupP t) := by
  refine ⟨fun pins s σ H Q I hq => ?_⟩
  refine wpAny_Tuple_spliced (thn (h.run pos pins s σ H _ I hq) fun us s1 hx => ?_)
  obtain ⟨xs, H1, I1, r, z, q⟩ := hx
  refine ⟨by rw [← r.length]; exact z, ?_⟩
  have fresh : H1 s1.heap.objs.size = none := I1.hok.fresh (Nat.le_refl _)
  have new : (s1.heap.push { cls := .type "tuple", data := .seq us.toArray }).get? s1.heap.objs.size = some { cls := .type "tuple", data := .seq us.toArray } := Heap.get?_push_size _ rfl
  exact ⟨.ref s1.heap.objs.size, _, I1.laid (t' := s1.toks) (fun b u e => Heap.get?_push_of_some _ e) (Nat.le_refl _) (tupO_ok new ⟨z, us, r, ⟨_, new, rfl, _, rfl⟩⟩), rfl, q _ _ fresh rfl⟩
def rCatP (K : PySem.W.Frag) : R2 := fun x y H Q => ∃ a b xs ys, x = .ref a ∧ y = .ref b ∧ SqT K H a xs ∧ SqT K H b ys ∧ xs.length + ys.length ≤ sizeLine ∧
  (xs = [] → Q (.ref b) H) ∧ (xs ≠ [] → ys = [] → Q (.ref a) H) ∧ (xs ≠ [] → ys ≠ [] → ∀ p ob, H p = none → ob.dict = none → Q (.ref p) (upd H p (tupO ob (xs ++ ys))))
theorem op_catP : OpR X (binaryOp .Add) (rCatP X.K) := by
  intro pins s σ H x y v u Q I rx ry hh
  obtain ⟨a, b, xs, ys, rfl, rfl, ha, hb, hz, q0, q1, q2⟩ := hh
  by_cases hx : xs = []
  · exact op_catA pins s σ H _ _ v u Q I rx ry ⟨a, b, xs, ys, rfl, rfl, ha, hb, hz, q0, q1, fun h => absurd hx h⟩
  by_cases hy : ys = []
  · exact op_catA pins s σ H _ _ v u Q I rx ry ⟨a, b, xs, ys, rfl, rfl, ha, hb, hz, q0, q1, fun _ h => absurd hy h⟩
  cases rx
  cases ry
  obtain ⟨ia, r1, p1, _⟩ := I.tuple ha
  obtain ⟨ib, r2, p2, _⟩ := I.tuple hb
  refine HT.cat_tup p1 p2 (fun z => hx (r1.nil_iff.mp z)) (fun z => absurd (r2.nil_iff.mp z) hy) (fun z => ?_) (by rw [← r1.length, ← r2.length]; exact hz)
  have hzz : (xs ++ ys).length ≤ sizeLine := by rw [List.length_append]; exact hz
  exact ⟨.ref s.heap.objs.size, _, I.laid (t' := s.toks) (fun b ob q => Heap.get?_push_of_some _ q) (Nat.le_refl _) (tupO_ok (Heap.get?_push_size _ rfl) ⟨hzz, _, r1.append r2, IsTup.new _ _⟩), rfl, q2 hx hy _ _ (I.hok.fresh (Nat.le_refl _)) rfl⟩
def rSlP (K : PySem.W.Frag) : V → Option Int → Option Int → Hp → VK → Prop := fun x lo hi H Q => ∃ a xs, x = .ref a ∧ SqT K H a xs ∧
  (HT.sIx xs.length 0 lo = 0 ∧ HT.sIx xs.length xs.length hi = xs.length → Q (.ref a) H) ∧ (¬ (HT.sIx xs.length 0 lo = 0 ∧ HT.sIx xs.length xs.length hi = xs.length) → ∀ p ob, H p = none → ob.dict = none → Q (.ref p) (upd H p (tupO ob (cutV xs lo hi))))
theorem sl_tupP : SlR X (rSlP X.K) := by
  intro pins s σ H x v vl vu lo hi sl Q I rx hs pl pu hh
  obtain ⟨a, xs, rfl, hx, q1, q2⟩ := hh
  by_cases hw : HT.sIx xs.length 0 lo = 0 ∧ HT.sIx xs.length xs.length hi = xs.length
  · exact sl_tupA pins s σ H _ v vl vu lo hi sl Q I rx hs pl pu ⟨a, xs, rfl, hx, q1, fun z => absurd hw z⟩
  cases rx
  obtain ⟨its, r, ht, hz⟩ := I.tuple hx
  have hlen : its.toArray.size = xs.length := by rw [List.size_toArray]; exact r.length.symm
  refine ⟨"tuple", _, PyProof.Rows.slot_tuple_getitem.lookup, ht.typeIs, ?_⟩
  refine HT.getItem_tuple_cut ht hs pl pu (by rw [hlen]; exact hw) ?_ (by rw [hlen]; exact hz)
  rw [hlen]
  have hcl := cutV_length xs lo hi
  exact ⟨.ref s.heap.objs.size, _, I.laid (t' := s.toks) (fun b ob q => Heap.get?_push_of_some _ q) (Nat.le_refl _) (tupO_ok (Heap.get?_push_size _ rfl) ⟨Nat.le_trans hcl hz, _, (r.drop (HT.sIx xs.length 0 lo)).take (HT.sIx xs.length xs.length hi - HT.sIx xs.length 0 lo), IsTup.new _ _⟩), rfl, q2 hw _ _ (I.hok.fresh (Nat.le_refl _)) rfl⟩
def rTupOfP (K : PySem.W.Frag) : List V → Hp → VK → Prop := fun xs H Q => ∃ p ys, xs = [V.ref p] ∧ ((SqL K H p ys ∧ ∀ l ob, H l = none → ob.dict = none → Q (.ref l) (upd H l (tupO ob ys))) ∨ (SqT K H p ys ∧ Q (.ref p) H))
theorem call_tuple_ofP : CallR X (.type "tuple") (rTupOfP X.K) := by
  intro pins s σ H xs us Q I r hh
  obtain ⟨p, ys, rfl, hh⟩ := hh
  rcases hh with ⟨hq, q⟩ | ⟨hq, q⟩
  · obtain ⟨u, rfl, rx⟩ := vals1 r
    cases rx
    obtain ⟨its, r', pl, hz⟩ := I.list hq
    have hlen := r'.length
    refine call_tuple_list pl.isList (fun h' kp => ?_) (by simp only [List.size_toArray] <;> omega)
    have I1 : Inv X pins σ H { s with heap := h' } := I.kept (t' := s.toks) kp
    exact ⟨.ref h'.objs.size, _, I1.laid (t' := s.toks) (fun b o e => Heap.get?_push_of_some _ e) (Nat.le_refl _) (tupO_ok (Heap.get?_push_size _ rfl) ⟨hz, its, r', IsTup.new _ _⟩), rfl, q _ _ (I1.hok.fresh (Nat.le_refl _)) rfl⟩
  · exact call_tuple_of pins s σ H _ us Q I r ⟨p, ys, rfl, .inr ⟨hq, q⟩⟩
end
end Hz

/-! Hz: plain data, what stands for it in a heap, and judgements that tie a piece of text to a function on plain data. -/
namespace Hz
open PySem PySem.Spec PyProof.Rows L2

abbrev D := PyData
inductive R (α : Type) where
  | ok (a : α) | err (c : Nat) | bad
def R.bind {α β : Type} (r : R α) (k : α → R β) : R β := match r with
  | .ok a => k a
  | .err c => .err c
  | .bad => .bad
def Ans {α : Type} (r : R α) (f : α → Prop) (e : Nat → Prop) : Prop := match r with
  | .ok a => f a
  | .err c => e c
  | .bad => False
theorem Ans.bind {α β : Type} {r : R α} {k : α → R β} {f : β → Prop} {e : Nat → Prop} (h : Ans (r.bind k) f e) : Ans r (fun a => Ans (k a) f e) e := by
  cases r <;> exact h
theorem Ans.mono {α : Type} {r : R α} {f g : α → Prop} {e e' : Nat → Prop} (h : Ans r f e) (hf : ∀ a, f a → g a) (he : ∀ c, e c → e' c) : Ans r g e' := by
  cases r with
  | ok a => exact hf a h
  | err c => exact he c h
  | bad => exact h
@[simp] theorem bind_ok {α β : Type} (a : α) (k : α → R β) : (R.ok a).bind k = k a := id rfl
@[simp] theorem bind_err {α β : Type} (c : Nat) (k : α → R β) : (R.err c : R α).bind k = .err c := id rfl
@[simp] theorem bind_bad {α β : Type} (k : α → R β) : (R.bad : R α).bind k = .bad := id rfl

def kD : Key → D
  | .inl i => .int i
  | .inr x => .str x

def isSD : D → Bool
  | .str _ => true
  | _ => false
def needN : List D → Bool
  | .str x :: ds => !decide (x ∈ resW) && ds.all isSD
  | _ => false
def isPr : List D → Bool
  | [.int _, .int _] => true
  | _ => false
theorem isPr_eq {ds : List D} (h : isPr ds = true) : ∃ x y, ds = [.int x, .int y] := by
  unfold isPr at h
  split at h
  · exact ⟨_, _, rfl⟩
  · cases h
def fK (fs : List (Str × V)) : List (Key × V) := fs.map fun p => (.inr p.1, p.2)
def PostC (K : PySem.W.Frag) (C : Addr) : Prop := PySem.W.nsIn K mainGlobals "Post" = some (some (.ref C))
/-! ### what stands for plain data -/
mutual
inductive Rp (K : PySem.W.Frag) (G : Hp) : V → D → Prop
  | non : Rp K G .non .none
  | bl (b : Bool) : Rp K G (.bl b) (.bool b)
  | int (i : Int) : Rp K G (.int i) (.int i)
  | str (x : Str) : Rp K G (.str x) (.str x)
  | lst {a : Addr} {xs : List V} {ds : List D} : G a = some (.lst xs) → RpA K G xs ds → Rp K G (.ref a) (.list ds)
  | scr {a : Addr} {ns : List Int} : SqL K G a (ns.map V.int) → Rp K G (.ref a) (.dict [(.none, .list (ns.map PyData.int))])
  | tup {a : Addr} {xs : List V} {ds : List D} : SqT K G a xs → RpA K G xs ds → (needN ds = true → NoD K G a) ∧ (isPr ds = true → G a = some (.tup xs)) → Rp K G (.ref a) (.tuple ds)
  | dic {a : Addr} {kvs : List (Key × V)} {ds : List (D × D)} : Rd G a (.dK kvs) → RpK K G kvs ds → Rp K G (.ref a) (.dict ds)
  | dit {a : Addr} {kvs : List (List Key × V)} {ds : List (D × D)} : G a = some (.dT kvs) → RpT K G kvs ds → Rp K G (.ref a) (.dict ((.bool true, .none) :: ds))
  | ins {a C dx : Addr} {fs : List (Str × V)} {ds : List (D × D)} : G a = some (.ins C dx fs) → PostC K C → RpK K G (fK fs) ds → Rp K G (.ref a) (.dict [(.bool false, .dict ds)])
  | rcd {a : Addr} {kvs : List (Key × V)} {ds : List (D × D)} : Rd G a (.dK kvs) → RpK K G kvs ds → Rp K G (.ref a) (.dict ((.bool false, .int 1) :: ds))
inductive RpA (K : PySem.W.Frag) (G : Hp) : List V → List D → Prop
  | nil : RpA K G [] []
  | cons {v : V} {vs : List V} {d : D} {ds : List D} : Rp K G v d → RpA K G vs ds → RpA K G (v :: vs) (d :: ds)
inductive RpK (K : PySem.W.Frag) (G : Hp) : List (Key × V) → List (D × D) → Prop
  | nil : RpK K G [] []
  | cons {k : Key} {v : V} {kvs : List (Key × V)} {d : D} {ds : List (D × D)} : Rp K G v d → RpK K G kvs ds → RpK K G ((k, v) :: kvs) ((kD k, d) :: ds)
inductive RpT (K : PySem.W.Frag) (G : Hp) : List (List Key × V) → List (D × D) → Prop
  | nil : RpT K G [] []
  | cons {k : List Key} {v : V} {kvs : List (List Key × V)} {d : D} {ds : List (D × D)} : Rp K G v d → RpT K G kvs ds → RpT K G ((k, v) :: kvs) ((.tuple (k.map kD), d) :: ds)
end

theorem Same.rd {H H' : Hp} {a : Addr} {u : HO} (e : Same H H') (h : Rd H a u) : Rd H' a u := by
  rcases h with h | ⟨o, h⟩
  · exact .inl (e a _ h)
  · exact .inr ⟨o, e a _ h⟩
theorem Same.sqT {K : PySem.W.Frag} {H H' : Hp} {a : Addr} {xs : List V} (e : Same H H') (h : SqT K H a xs) : SqT K H' a xs := by
  rcases h with h | h
  · exact .inl (Same.rd e h)
  · exact .inr h
theorem Same.nd {K : PySem.W.Frag} {H H' : Hp} {a : Addr} (e : Same H H') (h : NoD K H a) : NoD K H' a := by
  rcases h with ⟨o, u, h, hd⟩ | h
  · exact .inl ⟨o, u, e a _ h, hd⟩
  · exact .inr h
theorem Same.new {H : Hp} {p : Addr} {o : HO} (h : H p = none) : Same H (upd H p o) := fun a u e => by
  rw [upd_ne (ne_of_none e h)]
  exact e
theorem Same.mut {H H' : Hp} {p : Addr} {o : HO} (e : Same H H') (h : H p = none) : Same H (upd H' p o) := fun a u ha => by
  rw [upd_ne (ne_of_none ha h)]
  exact e a u ha

section
variable {K : PySem.W.Frag} {G G' : Hp}
mutual
theorem Rp.mono (e : Same G G') : ∀ {v : V} {d : D}, Rp K G v d → Rp K G' v d
  | _, _, .non => .non
  | _, _, .bl b => .bl b
  | _, _, .int i => .int i
  | _, _, .str x => .str x
  | _, _, .lst h a => .lst (e _ _ h) (RpA.mono e a)
  | _, _, .scr h => .scr (e.seq h)
  | _, _, .tup h a n => .tup (Same.sqT e h) (RpA.mono e a) ⟨fun z => Same.nd e (n.1 z), fun z => e _ _ (n.2 z)⟩
  | _, _, .dic h a => .dic (Same.rd e h) (RpK.mono e a)
  | _, _, .dit h a => .dit (e _ _ h) (RpT.mono e a)
  | _, _, .ins h c a => .ins (e _ _ h) c (RpK.mono e a)
  | _, _, .rcd h a => .rcd (Same.rd e h) (RpK.mono e a)
theorem RpA.mono (e : Same G G') : ∀ {vs : List V} {ds : List D}, RpA K G vs ds → RpA K G' vs ds
  | _, _, .nil => .nil
  | _, _, .cons h a => .cons (Rp.mono e h) (RpA.mono e a)
theorem RpK.mono (e : Same G G') : ∀ {vs : List (Key × V)} {ds : List (D × D)}, RpK K G vs ds → RpK K G' vs ds
  | _, _, .nil => .nil
  | _, _, .cons h a => .cons (Rp.mono e h) (RpK.mono e a)
theorem RpT.mono (e : Same G G') : ∀ {vs : List (List Key × V)} {ds : List (D × D)}, RpT K G vs ds → RpT K G' vs ds
  | _, _, .nil => .nil
  | _, _, .cons h a => .cons (Rp.mono e h) (RpT.mono e a)
end
theorem RpA.length : ∀ {vs : List V} {ds : List D}, RpA K G vs ds → vs.length = ds.length
  | _, _, .nil => rfl
  | _, _, .cons _ a => by simp [RpA.length a]
theorem RpA.get : ∀ {vs : List V} {ds : List D} {i : Nat} {d : D}, RpA K G vs ds → ds[i]? = some d → ∃ v, vs[i]? = some v ∧ Rp K G v d
  | _, _, _, _, .nil, h => by simp at h
  | _, _, 0, _, .cons h _, e => by
    simp at e
    subst e
    exact ⟨_, rfl, h⟩
  | _, _, i + 1, _, .cons _ a, e => RpA.get (i := i) a (by simpa using e)
theorem RpA.append : ∀ {vs ws : List V} {ds es : List D}, RpA K G vs ds → RpA K G ws es → RpA K G (vs ++ ws) (ds ++ es)
  | _, _, _, _, .nil, s => s
  | _, _, _, _, .cons h a, s => .cons h (RpA.append a s)
theorem RpA.drop : ∀ {vs : List V} {ds : List D} (n : Nat), RpA K G vs ds → RpA K G (vs.drop n) (ds.drop n)
  | _, _, 0, r => r
  | _, _, _ + 1, .nil => .nil
  | _, _, n + 1, .cons _ a => RpA.drop n a
theorem RpA.take : ∀ {vs : List V} {ds : List D} (n : Nat), RpA K G vs ds → RpA K G (vs.take n) (ds.take n)
  | _, _, 0, _ => .nil
  | _, _, _ + 1, .nil => .nil
  | _, _, n + 1, .cons h a => .cons h (RpA.take n a)
theorem RpA.set : ∀ {vs : List V} {ds : List D} {v : V} {d : D} (n : Nat), RpA K G vs ds → Rp K G v d → RpA K G (vs.set n v) (ds.set n d)
  | _, _, _, _, _, .nil, _ => .nil
  | _, _, _, _, 0, .cons _ a, h => .cons h a
  | _, _, _, _, n + 1, .cons h a, k => .cons h (RpA.set n a k)
theorem RpA.erase : ∀ {vs : List V} {ds : List D} (n : Nat), RpA K G vs ds → RpA K G (vs.eraseIdx n) (ds.eraseIdx n)
  | _, _, _, .nil => .nil
  | _, _, 0, .cons _ a => a
  | _, _, n + 1, .cons h a => .cons h (RpA.erase n a)
theorem RpA.flat {vs : List V} {ds : List D} (h : RpA K G vs ds) : ∀ k : Nat, RpA K G (List.replicate k vs).flatten (List.replicate k ds).flatten
  | 0 => .nil
  | k + 1 => by
    rw [List.replicate_succ, List.replicate_succ, List.flatten_cons, List.flatten_cons]
    exact h.append (RpA.flat h k)
theorem RpA.ints : ∀ {vs : List V} {ns : List Int}, RpA K G vs (ns.map PyData.int) → vs = ns.map V.int
  | _, [], h => by cases h; rfl
  | _, n :: ns, h => by
    cases h with
    | cons h a =>
      cases h
      rw [RpA.ints a]
      rfl
theorem RpA.strs : ∀ {vs : List V} {ns : List Str}, RpA K G vs (ns.map PyData.str) → vs = ns.map V.str
  | _, [], h => by cases h; rfl
  | _, n :: ns, h => by
    cases h with
    | cons h a =>
      cases h
      rw [RpA.strs a]
      rfl
theorem RpA.bools : ∀ {vs : List V} {ns : List Bool}, RpA K G vs (ns.map PyData.bool) → vs = ns.map V.bl
  | _, [], h => by cases h; rfl
  | _, n :: ns, h => by
    cases h with
    | cons h a =>
      cases h
      rw [RpA.bools a]
      rfl
theorem RpA.of_ints : ∀ (ns : List Int), RpA K G (ns.map V.int) (ns.map PyData.int)
  | [] => .nil
  | n :: ns => .cons (.int n) (RpA.of_ints ns)
theorem RpA.of_strs : ∀ (ns : List Str), RpA K G (ns.map V.str) (ns.map PyData.str)
  | [] => .nil
  | n :: ns => .cons (.str n) (RpA.of_strs ns)
theorem Rp.dp : ∀ {v : V} {d : D}, Rp K G v d → d.canLay0 = true → Dp K G v d := by
  have go : ∀ (n : Nat) (v : V) (d : D), sizeOf d < n → Rp K G v d → d.canLay0 = true → Dp K G v d := by
    intro n
    induction n with
    | zero => intro v d h; omega
    | succ n ih =>
      have all : ∀ (vs : List V) (ds : List D), sizeOf ds < n + 1 → RpA K G vs ds → PyData.canLayAll0 ds = true → DpAll K G vs ds := by
        intro vs
        induction vs with
        | nil => intro ds _ h _; cases h; exact .nil
        | cons v vs ihv =>
          intro ds hs h hc
          cases h with
          | @cons _ _ d ds h a =>
            have hc' : d.canLay0 = true ∧ PyData.canLayAll0 ds = true := by simpa [PyData.canLayAll0] using hc
            have hs' : 1 + sizeOf d + sizeOf ds < n + 1 := by simpa using hs
            exact .cons (ih v d (by omega) h hc'.1) (ihv ds (by omega) a hc'.2)
      intro v d hs h hc
      cases h with
      | non => exact .non
      | bl b => exact .bl b
      | int i => exact .int i
      | str x => exact .str x
      | @lst a xs ds h a =>
        have hs' : 1 + sizeOf ds < n + 1 := by simpa using hs
        exact .lst (SqL.of h) (all _ _ (by omega) a (by simpa [PyData.canLay0] using hc))
      | @tup a xs ds h a _ =>
        have hs' : 1 + sizeOf ds < n + 1 := by simpa using hs
        exact .tup h (all _ _ (by omega) a (by simpa [PyData.canLay0] using hc))
      | scr h => simp [PyData.canLay0] at hc
      | dic h a => simp [PyData.canLay0] at hc
      | dit h a => simp [PyData.canLay0] at hc
      | ins h c a => simp [PyData.canLay0] at hc
      | rcd h a => simp [PyData.canLay0] at hc
  intro v d h hc
  exact go (sizeOf d + 1) v d (Nat.lt_succ_self _) h hc
theorem RpA.isS : ∀ {vs : List V} {ds : List D}, RpA K G vs ds → vs.all isSV = ds.all isSD
  | _, _, .nil => rfl
  | _, _, .cons h a => by
    rw [List.all_cons, List.all_cons, RpA.isS a]
    cases h <;> rfl
theorem RpA.need {vs : List V} {ds : List D} (r : RpA K G vs ds) : needNV vs = needN ds := by
  cases r with
  | nil => rfl
  | cons h a =>
    cases h <;> first | rfl | skip
    show (_ && _) = (_ && _)
    rw [RpA.isS a]
theorem Rp.lay {ob : Obj} {a : Addr} {xs : List V} {ds : List D} (h : G a = some (tupO ob xs)) (hd : ob.dict = none) (r : RpA K G xs ds) : Rp K G (.ref a) (.tuple ds) :=
  .tup (tupO_sq h) r ⟨fun z => tupO_nd h hd (r.need.trans z), fun z => by
    obtain ⟨x, y, rfl⟩ := isPr_eq z
    rw [h]
    unfold tupO
    rw [if_neg (by rw [r.need]; simp [needN])]⟩
end
end Hz

namespace Hz
open PySem PySem.Spec PyProof.Rows L2

abbrev Env := List (Option D)
abbrev Os := List (Addr × HO)
def dm (os : Os) : List Addr := os.map (·.1)
def addO (G : Hp) : Os → Hp
  | [] => G
  | p :: os => upd (addO G os) p.1 p.2
theorem dm_mem {os : Os} {x : Addr} : x ∈ dm os ↔ ∃ o, (x, o) ∈ os := by
  unfold dm
  rw [List.mem_map]
  exact ⟨fun ⟨p, h, e⟩ => ⟨p.2, by rw [← e]; exact h⟩, fun ⟨o, h⟩ => ⟨_, h, rfl⟩⟩
theorem addO_out {G : Hp} {x : Addr} : ∀ {os : Os}, x ∉ dm os → addO G os x = G x
  | [], _ => rfl
  | p :: os, h => by
    unfold addO
    unfold dm at h
    rw [List.map_cons, List.mem_cons, not_or] at h
    rw [upd_ne h.1]
    exact addO_out h.2
theorem addO_in {G : Hp} {x : Addr} {o : HO} : ∀ {os : Os}, (dm os).Nodup → (x, o) ∈ os → addO G os x = some o
  | [], _, h => by cases h
  | p :: os, n, h => by
    unfold addO
    unfold dm at n
    rw [List.map_cons, List.nodup_cons] at n
    rcases List.mem_cons.mp h with h | h
    · rw [← h]
      exact upd_same
    · have ne : x ≠ p.1 := fun z => n.1 (z ▸ List.mem_map.mpr ⟨_, h, rfl⟩)
      rw [upd_ne ne]
      exact addO_in n.2 h
theorem addO_append (G : Hp) (b : Os) : ∀ a : Os, addO G (a ++ b) = addO (addO G b) a
  | [] => rfl
  | p :: a => by
    show upd (addO G (a ++ b)) p.1 p.2 = upd (addO (addO G b) a) p.1 p.2
    rw [addO_append G b a]
theorem dm_append (a b : Os) : dm (a ++ b) = dm a ++ dm b := List.map_append
theorem addO_comm {G : Hp} {a b : Os} (n : (dm (a ++ b)).Nodup) : addO (addO G a) b = addO G (a ++ b) := by
  rw [addO_append]
  rw [dm_append, List.nodup_append] at n
  funext x
  by_cases ha : x ∈ dm a
  · have hb : x ∉ dm b := fun z => n.2.2 x ha x z rfl
    obtain ⟨o, ho⟩ := dm_mem.mp ha
    rw [addO_out hb, addO_in n.1 ho, addO_in n.1 ho]
  · by_cases hb : x ∈ dm b
    · obtain ⟨o, ho⟩ := dm_mem.mp hb
      rw [addO_in n.2.1 ho, addO_out ha, addO_in n.2.1 ho]
    · rw [addO_out hb, addO_out ha, addO_out ha, addO_out hb]
def NT (o : HO) : Prop := ∀ xs, o ≠ .tup xs

def Cell (K : PySem.W.Frag) (G H : Hp) (p : Addr) (d : D) : Prop := G p = none ∧
  ((∃ vs ds, d = .list ds ∧ H p = some (.lst vs) ∧ RpA K G vs ds) ∨
   (∃ kvs ds, d = .dict ds ∧ H p = some (.dK kvs) ∧ RpK K G kvs ds) ∨
   (∃ kvs ds, d = .dict ((.bool true, .none) :: ds) ∧ H p = some (.dT kvs) ∧ RpT K G kvs ds))
theorem Cell.mono {K : PySem.W.Frag} {G G' H H' : Hp} {p : Addr} {d : D} (c : Cell K G H p d) (e : Same G G') (hp : G' p = none) (hH : ∀ o, H p = some o → H' p = some o) : Cell K G' H' p d := by
  obtain ⟨_, c⟩ := c
  refine ⟨hp, ?_⟩
  rcases c with ⟨vs, ds, e1, e2, r⟩ | ⟨vs, ds, e1, e2, r⟩ | ⟨vs, ds, e1, e2, r⟩
  · exact .inl ⟨vs, ds, e1, hH _ e2, r.mono e⟩
  · exact .inr (.inl ⟨vs, ds, e1, hH _ e2, r.mono e⟩)
  · exact .inr (.inr ⟨vs, ds, e1, hH _ e2, r.mono e⟩)
theorem Cell.there2 {K : PySem.W.Frag} {G H : Hp} {p : Addr} {d : D} (c : Cell K G H p d) : ∃ o, H p = some o ∧ ∀ xs, o ≠ .tup xs := by
  obtain ⟨_, c⟩ := c
  rcases c with ⟨vs, ds, e1, e2, r⟩ | ⟨vs, ds, e1, e2, r⟩ | ⟨vs, ds, e1, e2, r⟩ <;> exact ⟨_, e2, fun xs z => by cases z⟩
theorem Cell.nt {K : PySem.W.Frag} {G H : Hp} {p : Addr} {d : D} {o : HO} (c : Cell K G H p d) (h : H p = some o) : NT o := by
  obtain ⟨u, hu, n⟩ := c.there2
  rw [h] at hu
  cases hu
  exact n
theorem Cell.there {K : PySem.W.Frag} {G H : Hp} {p : Addr} {d : D} (c : Cell K G H p d) : ∃ o, H p = some o := by
  obtain ⟨_, c⟩ := c
  rcases c with ⟨vs, ds, e1, e2, r⟩ | ⟨vs, ds, e1, e2, r⟩ | ⟨vs, ds, e1, e2, r⟩ <;> exact ⟨_, e2⟩

/-! ### objects with objects in them -/
def fk (f : Str) : Nat := if f ∈ (["told", "fogs", "wrong", "rows", "fog", "slips", "log", "items"] : List Str) then 1 else if f ∈ (["tellings", "books", "got_there", "heard"] : List Str) then 2 else 0
section
variable (K : PySem.W.Frag) (G : Hp)
inductive Fl1 : V → D → Os → Prop
  | lst {p : Addr} {vs : List V} {ds : List D} : RpA K G vs ds → Fl1 (.ref p) (.list ds) [(p, .lst vs)]
  | dic {p : Addr} {kvs : List (Key × V)} {ds : List (D × D)} : RpK K G kvs ds → Fl1 (.ref p) (.dict ds) [(p, .dK kvs)]
inductive FlA : List V → List D → Os → Prop
  | nil : FlA [] [] []
  | cons {v : V} {d : D} {o1 o2 : Os} {vs : List V} {ds : List D} : Fl1 K G v d o1 → FlA vs ds o2 → FlA (v :: vs) (d :: ds) (o1 ++ o2)
inductive FlK : List (Key × V) → List (D × D) → Os → Prop
  | nil : FlK [] [] []
  | cons {k : Key} {v : V} {d : D} {o1 o2 : Os} {kvs : List (Key × V)} {ds : List (D × D)} : Fl1 K G v d o1 → FlK kvs ds o2 → FlK ((k, v) :: kvs) ((kD k, d) :: ds) (o1 ++ o2)
inductive Fd : Nat → V → D → Os → Prop
  | fz {v : V} {d : D} : Rp K G v d → Fd 0 v d []
  | fl {v : V} {d : D} {os : Os} : Fl1 K G v d os → Fd 1 v d os
  | ll {p : Addr} {vs : List V} {ds : List D} {os : Os} : FlA K G vs ds os → Fd 2 (.ref p) (.list ds) ((p, .lst vs) :: os)
  | dl {p : Addr} {kvs : List (Key × V)} {ds : List (D × D)} {os : Os} : FlK K G kvs ds os → Fd 2 (.ref p) (.dict ds) ((p, .dK kvs) :: os)
inductive DFs : List (Str × V) → List (D × D) → Os → Prop
  | nil : DFs [] [] []
  | cons {f : Str} {v : V} {d : D} {o1 o2 : Os} {fs : List (Str × V)} {ds : List (D × D)} : Fd K G (fk f) v d o1 → DFs fs ds o2 → DFs ((f, v) :: fs) ((.str f, d) :: ds) (o1 ++ o2)
inductive CellO (p : Addr) : D → Os → Prop
  | lst {vs : List V} {ds : List D} : RpA K G vs ds → CellO p (.list ds) [(p, .lst vs)]
  | dic {kvs : List (Key × V)} {ds : List (D × D)} : RpK K G kvs ds → CellO p (.dict ds) [(p, .dK kvs)]
  | dit {kvs : List (List Key × V)} {ds : List (D × D)} : RpT K G kvs ds → CellO p (.dict ((.bool true, .none) :: ds)) [(p, .dT kvs)]
  | ins {C dx : Addr} {fs : List (Str × V)} {ds : List (D × D)} {os : Os} : PostC K C → DFs K G fs ds os → CellO p (.dict [(.bool false, .dict ds)]) ((p, .ins C dx fs) :: (dx, .own p) :: os)
  | rcd {fs : List (Str × V)} {ds : List (D × D)} {os : Os} : DFs K G fs ds os → CellO p (.dict ((.bool false, .int 1) :: ds)) ((p, .dK (fK fs)) :: os)
end
section
variable {K : PySem.W.Frag} {G G' H H' : Hp}
theorem Fl1.mono (e : Same G G') {v : V} {d : D} {os : Os} (h : Fl1 K G v d os) : Fl1 K G' v d os := by
  cases h with
  | lst r => exact .lst (r.mono e)
  | dic r => exact .dic (r.mono e)
theorem FlA.mono (e : Same G G') : ∀ {vs : List V} {ds : List D} {os : Os}, FlA K G vs ds os → FlA K G' vs ds os
  | _, _, _, .nil => .nil
  | _, _, _, .cons h t => .cons (h.mono e) (FlA.mono e t)
theorem FlK.mono (e : Same G G') : ∀ {vs : List (Key × V)} {ds : List (D × D)} {os : Os}, FlK K G vs ds os → FlK K G' vs ds os
  | _, _, _, .nil => .nil
  | _, _, _, .cons h t => .cons (h.mono e) (FlK.mono e t)
theorem Fd.mono (e : Same G G') {n : Nat} {v : V} {d : D} {os : Os} (h : Fd K G n v d os) : Fd K G' n v d os := by
  cases h with
  | fz r => exact .fz (r.mono e)
  | fl r => exact .fl (r.mono e)
  | ll r => exact .ll (r.mono e)
  | dl r => exact .dl (r.mono e)
theorem DFs.mono (e : Same G G') : ∀ {fs : List (Str × V)} {ds : List (D × D)} {os : Os}, DFs K G fs ds os → DFs K G' fs ds os
  | _, _, _, .nil => .nil
  | _, _, _, .cons h t => .cons (h.mono e) (DFs.mono e t)
theorem CellO.mono (e : Same G G') {p : Addr} {d : D} {os : Os} (h : CellO K G p d os) : CellO K G' p d os := by
  cases h with
  | lst r => exact .lst (r.mono e)
  | dic r => exact .dic (r.mono e)
  | dit r => exact .dit (r.mono e)
  | ins c r => exact .ins c (r.mono e)
  | rcd r => exact .rcd (r.mono e)
theorem Fl1.rp (e : Same G G') {v : V} {d : D} {os : Os} (h : Fl1 K G v d os) (g : ∀ x o, (x, o) ∈ os → G' x = some o) : Rp K G' v d := by
  cases h with
  | lst r => exact .lst (g _ _ (List.mem_singleton.mpr rfl)) (r.mono e)
  | dic r => exact .dic (.inl (g _ _ (List.mem_singleton.mpr rfl))) (r.mono e)
theorem FlA.rp (e : Same G G') : ∀ {vs : List V} {ds : List D} {os : Os}, FlA K G vs ds os → (∀ x o, (x, o) ∈ os → G' x = some o) → RpA K G' vs ds
  | _, _, _, .nil, _ => .nil
  | _, _, _, .cons h t, g => .cons (h.rp e fun x o m => g x o (List.mem_append_left _ m)) (FlA.rp e t fun x o m => g x o (List.mem_append_right _ m))
theorem FlK.rp (e : Same G G') : ∀ {vs : List (Key × V)} {ds : List (D × D)} {os : Os}, FlK K G vs ds os → (∀ x o, (x, o) ∈ os → G' x = some o) → RpK K G' vs ds
  | _, _, _, .nil, _ => .nil
  | _, _, _, .cons h t, g => .cons (h.rp e fun x o m => g x o (List.mem_append_left _ m)) (FlK.rp e t fun x o m => g x o (List.mem_append_right _ m))
theorem Fd.rp (e : Same G G') {n : Nat} {v : V} {d : D} {os : Os} (h : Fd K G n v d os) (g : ∀ x o, (x, o) ∈ os → G' x = some o) : Rp K G' v d := by
  cases h with
  | fz r => exact r.mono e
  | fl r => exact r.rp e g
  | ll r => exact .lst (g _ _ List.mem_cons_self) (r.rp e fun x o m => g x o (List.mem_cons_of_mem _ m))
  | dl r => exact .dic (.inl (g _ _ List.mem_cons_self)) (r.rp e fun x o m => g x o (List.mem_cons_of_mem _ m))
theorem DFs.rp (e : Same G G') : ∀ {fs : List (Str × V)} {ds : List (D × D)} {os : Os}, DFs K G fs ds os → (∀ x o, (x, o) ∈ os → G' x = some o) → RpK K G' (fK fs) ds
  | _, _, _, .nil, _ => .nil
  | _, _, _, .cons (f := f) h t, g => RpK.cons (k := .inr f) (h.rp e fun x o m => g x o (List.mem_append_left _ m)) (DFs.rp e t fun x o m => g x o (List.mem_append_right _ m))
theorem CellO.rp (e : Same G G') {p : Addr} {d : D} {os : Os} (h : CellO K G p d os) (g : ∀ x o, (x, o) ∈ os → G' x = some o) : Rp K G' (.ref p) d := by
  cases h with
  | lst r => exact .lst (g _ _ (List.mem_singleton.mpr rfl)) (r.mono e)
  | dic r => exact .dic (.inl (g _ _ (List.mem_singleton.mpr rfl))) (r.mono e)
  | dit r => exact .dit (g _ _ (List.mem_singleton.mpr rfl)) (r.mono e)
  | ins c r => exact .ins (g _ _ List.mem_cons_self) c (r.rp e fun x o m => g x o (List.mem_cons_of_mem _ (List.mem_cons_of_mem _ m)))
  | rcd r => exact .rcd (.inl (g _ _ List.mem_cons_self)) (r.rp e fun x o m => g x o (List.mem_cons_of_mem _ m))
theorem CellO.self {p : Addr} {d : D} {os : Os} (h : CellO K G p d os) : p ∈ dm os := by
  cases h <;> exact List.mem_cons_self
structure Held (G H : Hp) (os : Os) : Prop where
  at_ : ∀ x o, (x, o) ∈ os → H x = some o ∧ G x = none ∧ NT o
  nd : (dm os).Nodup
theorem Held.there {os : Os} (h : Held G H os) {x : Addr} (m : x ∈ dm os) : ∃ o, H x = some o ∧ G x = none ∧ NT o := by
  obtain ⟨o, ho⟩ := dm_mem.mp m
  exact ⟨o, h.at_ x o ho⟩
theorem Held.mono {os : Os} (h : Held G H os) (hg : ∀ x ∈ dm os, G' x = none) (hh : ∀ x o, (x, o) ∈ os → H' x = some o) : Held G' H' os :=
  ⟨fun x o m => ⟨hh x o m, hg x (dm_mem.mpr ⟨o, m⟩), (h.at_ x o m).2.2⟩, h.nd⟩
theorem Held.one {p : Addr} {o : HO} (h : H p = some o) (hg : G p = none) (n : NT o) : Held G H [(p, o)] :=
  ⟨fun x u m => by cases List.mem_singleton.mp m; exact ⟨h, hg, n⟩, List.nodup_cons.mpr ⟨List.not_mem_nil, List.nodup_nil⟩⟩
def flatD : D → Bool
  | .dict ((.bool false, _) :: _) => false
  | _ => true
theorem Cell.os {p : Addr} {d : D} (c : Cell K G H p d) : ∃ o, CellO K G p d [(p, o)] ∧ Held G H [(p, o)] := by
  have n := fun o h => c.nt (o := o) h
  obtain ⟨g, c⟩ := c
  rcases c with ⟨vs, ds, e1, e2, r⟩ | ⟨vs, ds, e1, e2, r⟩ | ⟨vs, ds, e1, e2, r⟩
  · exact ⟨_, by rw [e1]; exact .lst r, .one e2 g (n _ e2)⟩
  · exact ⟨_, by rw [e1]; exact .dic r, .one e2 g (n _ e2)⟩
  · exact ⟨_, by rw [e1]; exact .dit r, .one e2 g (n _ e2)⟩
theorem CellO.flat {p : Addr} {d : D} {os : Os} (c : CellO K G p d os) (h : Held G H os) (hf : flatD d = true) : Cell K G H p d ∧ ∃ o, os = [(p, o)] := by
  cases c with
  | lst r =>
    obtain ⟨h1, h2, _⟩ := h.at_ p _ (List.mem_singleton.mpr rfl)
    exact ⟨⟨h2, .inl ⟨_, _, rfl, h1, r⟩⟩, _, rfl⟩
  | dic r =>
    obtain ⟨h1, h2, _⟩ := h.at_ p _ (List.mem_singleton.mpr rfl)
    exact ⟨⟨h2, .inr (.inl ⟨_, _, rfl, h1, r⟩)⟩, _, rfl⟩
  | dit r =>
    obtain ⟨h1, h2, _⟩ := h.at_ p _ (List.mem_singleton.mpr rfl)
    exact ⟨⟨h2, .inr (.inr ⟨_, _, rfl, h1, r⟩)⟩, _, rfl⟩
  | ins _ _ => cases hf
  | rcd _ => cases hf
end

abbrev Par := List (Nat × Addr × List Addr) × Nat
def Par.at (P : Par) (i : Nat) (a : Addr) : Prop := ∃ q ∈ P.1, q.1 = i ∧ a ∈ q.2.2
def Par.is (P : Par) (a : Addr) : Prop := ∃ q ∈ P.1, a ∈ q.2.2
theorem Par.at.is {P : Par} {i : Nat} {a : Addr} (h : P.at i a) : P.is a := by
  obtain ⟨q, h1, _, h2⟩ := h
  exact ⟨q, h1, h2⟩
def Frm (H0 : Hp) (P : Par) (H : Hp) : Prop := ∀ a o, H0 a = some o → ¬ P.is a → H a = some o
def Gr (H0 G G' : Hp) : Prop := Same G G' ∧ ∀ a o, H0 a = some o → NT o → G' a = G a
theorem Gr.refl {H0 G : Hp} : Gr H0 G G := ⟨Same.refl _, fun _ _ _ _ => rfl⟩
theorem Gr.trans {H0 G G1 G2 : Hp} (a : Gr H0 G G1) (b : Gr H0 G1 G2) : Gr H0 G G2 := ⟨a.1.trans b.1, fun c o h n => (b.2 c o h n).trans (a.2 c o h n)⟩
structure Grow (G H G' H' : Hp) : Prop where
  gg : Same G G'
  gh : Same G' H'
  hh : Same H H'
  new : ∀ a o, H a = some o → NT o → G' a = G a
theorem Grow.refl {G H : Hp} (e : Same G H) : Grow G H G H := ⟨Same.refl _, e, Same.refl _, fun _ _ _ _ => rfl⟩
theorem Grow.trans {G H G1 H1 G2 H2 : Hp} (a : Grow G H G1 H1) (b : Grow G1 H1 G2 H2) : Grow G H G2 H2 :=
  ⟨a.gg.trans b.gg, b.gh, a.hh.trans b.hh, fun c o h n => (b.new c o (a.hh c o h) n).trans (a.new c o h n)⟩
theorem Grow.lay {G H : Hp} {p : Addr} {o : HO} (e : Same G H) (h : H p = none) : Grow G H (upd G p o) (upd H p o) := by
  have hg : G p = none := e.free h
  refine ⟨Same.new hg, fun a u ha => ?_, Same.new h, fun a u ha _ => upd_ne (ne_of_none ha h)⟩
  by_cases q : a = p
  · subst q
    rw [upd_same] at ha ⊢
    exact ha
  · rw [upd_ne q] at ha ⊢
    exact e a u ha
theorem Grow.drop {G H : Hp} {p : Addr} {o : HO} (e : Same G H) (h : H p = none) : Grow G H G (upd H p o) :=
  ⟨Same.refl _, Same.mut e (e.free h), Same.new h, fun _ _ _ _ => rfl⟩

def swO (f : Nat → Os) (i : Nat) (os : Os) (j : Nat) : Os := if j = i then os else f j
theorem swO_pos {f : Nat → Os} {i j : Nat} {os : Os} (h : j = i) : swO f i os j = os := if_pos h
theorem swO_neg {f : Nat → Os} {i j : Nat} {os : Os} (h : j ≠ i) : swO f i os j = f j := if_neg h
structure StOk (K : PySem.W.Frag) (H0 : Hp) (P : Par) (own : List Nat) (G : Hp) (env : Env) (σ : L2.St) (H : Hp) : Prop where
  sub : Same G H
  fr : Frm H0 P H
  dom : ∀ a o, H0 a = some o → ∃ u, H a = some u ∧ (NT o → NT u)
  len : env.length = σ.length
  val : ∀ i d, env[i]? = some (some d) → i ∉ own → ∃ v, σ[i]? = some (some v) ∧ Rp K G v d
  cel : ∃ f : Nat → Os, (∀ i ∈ own, ∃ p d, env[i]? = some (some d) ∧ σ[i]? = some (some (.ref p)) ∧ CellO K G p d (f i) ∧ Held G H (f i) ∧ ∀ x ∈ dm (f i), H0 x = none ∨ P.at i x) ∧
    ∀ i ∈ own, ∀ j ∈ own, i ≠ j → ∀ x ∈ dm (f i), x ∉ dm (f j)
  par : ∀ q ∈ P.1, q.1 ∈ own ∧ σ[q.1]? = some (some (.ref q.2.1))
  isd : ∀ x, P.is x → (∃ o, H0 x = some o ∧ NT o) ∧ G x = none
  ln : σ.length = P.2

section
variable {K : PySem.W.Frag} {H0 : Hp} {P : Par} {own : List Nat} {G G' H H' : Hp} {env : Env} {σ : L2.St}
theorem StOk.all (s : StOk K H0 P own G env σ H) (i : Nat) (hi : i ∈ own) : ∃ d, env[i]? = some (some d) := by
  obtain ⟨f, h, _⟩ := s.cel
  obtain ⟨p, d, e, _⟩ := h i hi
  exact ⟨d, e⟩
theorem StOk.adr (s : StOk K H0 P own G env σ H) {i : Nat} (hi : i ∈ own) : ∃ p, σ[i]? = some (some (.ref p)) := by
  obtain ⟨f, h, _⟩ := s.cel
  obtain ⟨p, d, _, e, _⟩ := h i hi
  exact ⟨p, e⟩
theorem StOk.domN (s : StOk K H0 P own G env σ H) {a : Addr} {o : HO} (h : H0 a = some o) (n : NT o) : ∃ u, H a = some u ∧ NT u := by
  obtain ⟨u, hu, hn⟩ := s.dom a o h
  exact ⟨u, hu, hn n⟩
theorem StOk.noP (s : StOk K H0 P own G env σ H) {p : Addr} (h : H0 p = none) : ¬ P.is p := fun z => by
  obtain ⟨⟨o, ho, _⟩, _⟩ := s.isd p z
  rw [h] at ho
  cases ho
theorem StOk.h0 (s : StOk K H0 P own G env σ H) {p : Addr} (h : H p = none) : H0 p = none := by
  cases hq : H0 p with
  | none => rfl
  | some o =>
    obtain ⟨u, hu, _⟩ := s.dom p o hq
    rw [h] at hu
    cases hu
theorem StOk.congr {own' : List Nat} (s : StOk K H0 P own G env σ H) (e : ∀ i, i ∈ own ↔ i ∈ own') : StOk K H0 P own' G env σ H := by
  refine ⟨s.sub, s.fr, s.dom, s.len, fun i d h n => s.val i d h fun z => n ((e i).mp z), ?_, fun q hq => ⟨(e _).mp (s.par q hq).1, (s.par q hq).2⟩, s.isd, s.ln⟩
  obtain ⟨f, h1, h2⟩ := s.cel
  exact ⟨f, fun i hi => h1 i ((e i).mpr hi), fun i hi j hj => h2 i ((e i).mpr hi) j ((e j).mpr hj)⟩
theorem StOk.grow (s : StOk K H0 P own G env σ H) (g : Grow G H G' H') : StOk K H0 P own G' env σ H' := by
  refine ⟨g.gh, fun a o h n => g.hh a o (s.fr a o h n), fun a o h => ?_, s.len, fun i d e n => ?_, ?_, s.par, fun x hx => ?_, s.ln⟩
  · obtain ⟨u, hu, hn⟩ := s.dom a o h
    exact ⟨u, g.hh a u hu, hn⟩
  · obtain ⟨v, e1, r⟩ := s.val i d e n
    exact ⟨v, e1, r.mono g.gg⟩
  · obtain ⟨f, h1, h2⟩ := s.cel
    refine ⟨f, fun i hi => ?_, h2⟩
    obtain ⟨p, d, e1, e2, c, h, z⟩ := h1 i hi
    refine ⟨p, d, e1, e2, c.mono g.gg, h.mono (fun x m => ?_) fun x o m => g.hh x o (h.at_ x o m).1, z⟩
    obtain ⟨o, h3, h4, h5⟩ := h.there m
    exact (g.new x o h3 h5).trans h4
  · obtain ⟨⟨o, ho, n⟩, hg⟩ := s.isd x hx
    obtain ⟨u, hu, hn⟩ := s.domN ho n
    exact ⟨⟨o, ho, n⟩, (g.new x u hu hn).trans hg⟩
theorem Grow.gr (s : StOk K H0 P own G env σ H) (g : Grow G H G' H') : Gr H0 G G' :=
  ⟨g.gg, fun a o h n => by
    obtain ⟨u, hu, hn⟩ := s.domN h n
    exact g.new a u hu hn⟩
theorem mem_set {α : Type} {l : List α} {i j : Nat} {x y : α} (h : (l.set i x)[j]? = some y) : (j = i ∧ y = x) ∨ (j ≠ i ∧ l[j]? = some y) := by
  by_cases q : i = j
  · subst q
    by_cases z : i < l.length
    · rw [List.getElem?_set_self z] at h
      exact .inl ⟨rfl, (Option.some.inj h).symm⟩
    · rw [List.getElem?_eq_none (by simpa using z)] at h
      cases h
  · rw [List.getElem?_set_ne q] at h
    exact .inr ⟨fun e => q e.symm, h⟩
theorem lt_of_get {α : Type} {l : List α} {i : Nat} {x : α} (h : l[i]? = some x) : i < l.length := (List.getElem?_eq_some_iff.mp h).1
theorem StOk.set {i : Nat} {v : V} {d : D} (s : StOk K H0 P own G env σ H) (r : Rp K G v d) (ho : i ∉ own) : StOk K H0 P own G (env.set i (some d)) (σ.set i (some v)) H := by
  have ne : ∀ j ∈ own, i ≠ j := fun j hj z => ho (z ▸ hj)
  refine ⟨s.sub, s.fr, s.dom, by simpa using s.len, fun j e h n => ?_, ?_, fun q hq => ?_, s.isd, by simpa using s.ln⟩
  · rcases mem_set h with ⟨rfl, q⟩ | ⟨q, h⟩
    · cases q
      refine ⟨v, ?_, r⟩
      have z := lt_of_get h
      rw [List.length_set] at z
      rw [List.getElem?_set_self (by rw [← s.len]; exact z)]
    · obtain ⟨w, e1, r1⟩ := s.val j e h n
      exact ⟨w, by rw [List.getElem?_set_ne (Ne.symm q)]; exact e1, r1⟩
  · obtain ⟨f, h1, h2⟩ := s.cel
    refine ⟨f, fun j hj => ?_, h2⟩
    obtain ⟨p, d, e1, e2, c⟩ := h1 j hj
    exact ⟨p, d, by rw [List.getElem?_set_ne (ne j hj)]; exact e1, by rw [List.getElem?_set_ne (ne j hj)]; exact e2, c⟩
  · obtain ⟨h1, h2⟩ := s.par q hq
    exact ⟨h1, by rw [List.getElem?_set_ne (ne _ h1)]; exact h2⟩
theorem StOk.giveO {i : Nat} {p : Addr} {d : D} {os : Os} (s : StOk K H0 P own G env σ H) (g : Grow G H G' H') (hf : ∀ x ∈ dm os, H x = none) (c : CellO K G' p d os) (hd : Held G' H' os) (ht : i ∉ P.1.map (·.1)) (hil : i < env.length) :
    StOk K H0 P (i :: own) G' (env.set i (some d)) (σ.set i (some (.ref p))) H' := by
  have s1 := s.grow g
  refine ⟨s1.sub, s1.fr, s1.dom, by simpa using s.len, fun j e h n => ?_, ?_, fun q hq => ?_, s1.isd, by simpa using s.ln⟩
  · rcases mem_set h with ⟨rfl, q⟩ | ⟨q, h⟩
    · exact absurd List.mem_cons_self n
    · obtain ⟨w, e1, r1⟩ := s1.val j e h fun z => n (List.mem_cons_of_mem _ z)
      exact ⟨w, by rw [List.getElem?_set_ne (Ne.symm q)]; exact e1, r1⟩
  · obtain ⟨f, h1, h2⟩ := s.cel
    have old : ∀ j ∈ own, ∀ x ∈ dm (f j), x ∉ dm os := fun j hj x hx hz => by
      obtain ⟨_, _, _, _, _, h, _⟩ := h1 j hj
      obtain ⟨o, h3, _⟩ := h.there hx
      rw [hf x hz] at h3
      cases h3
    refine ⟨swO f i os, fun j hj => ?_, fun j hj k hk jk x hx => ?_⟩
    · by_cases z : j = i
      · subst z
        rw [swO_pos rfl]
        exact ⟨p, d, by rw [List.getElem?_set_self hil], by rw [List.getElem?_set_self (by rw [← s.len]; exact hil)], c, hd, fun x hx => .inl (s.h0 (hf x hx))⟩
      · rw [swO_neg z]
        obtain ⟨p', d', e1, e2, c', h, y⟩ := h1 j ((List.mem_cons.mp hj).resolve_left z)
        refine ⟨p', d', by rw [List.getElem?_set_ne (Ne.symm z)]; exact e1, by rw [List.getElem?_set_ne (Ne.symm z)]; exact e2, c'.mono g.gg, h.mono (fun x m => ?_) fun x o m => g.hh x o (h.at_ x o m).1, y⟩
        obtain ⟨o, h3, h4, h5⟩ := h.there m
        exact (g.new x o h3 h5).trans h4
    · by_cases z : j = i
      · rw [swO_pos z] at hx
        by_cases y : k = i
        · exact absurd (z.trans y.symm) jk
        · rw [swO_neg y]
          exact fun w => old k ((List.mem_cons.mp hk).resolve_left y) x w hx
      · rw [swO_neg z] at hx
        by_cases y : k = i
        · rw [swO_pos y]
          exact old j ((List.mem_cons.mp hj).resolve_left z) x hx
        · rw [swO_neg y]
          exact h2 j ((List.mem_cons.mp hj).resolve_left z) k ((List.mem_cons.mp hk).resolve_left y) jk x hx
  · obtain ⟨h1, h2⟩ := s.par q hq
    have z : i ≠ q.1 := fun z => ht (List.mem_map.mpr ⟨q, hq, z.symm⟩)
    exact ⟨List.mem_cons_of_mem _ h1, by rw [List.getElem?_set_ne z]; exact h2⟩
theorem StOk.give {i : Nat} {p : Addr} {d : D} (s : StOk K H0 P own G env σ H) (hp : H p = none) (c : Cell K G H' p d) (hh : Same H H') (ht : i ∉ P.1.map (·.1)) (hil : i < env.length) : StOk K H0 P (i :: own) G (env.set i (some d)) (σ.set i (some (.ref p))) H' := by
  obtain ⟨o, c1, h1⟩ := c.os
  refine s.giveO ⟨Same.refl _, s.sub.trans hh, hh, fun _ _ _ _ => rfl⟩ (fun x hx => ?_) c1 h1 ht hil
  rw [List.mem_singleton.mp hx]
  exact hp
theorem StOk.open {i : Nat} (s : StOk K H0 P own G env σ H) (hi : i ∈ own) : ∃ p d os, env[i]? = some (some d) ∧ σ[i]? = some (some (.ref p)) ∧ CellO K G p d os ∧ Held G H os ∧ (∀ x ∈ dm os, H0 x = none ∨ P.at i x) ∧
    ∀ (G' H' : Hp) (d' : D) (os' : Os), Same G G' → Same G' H' → (∀ x o, H x = some o → x ∉ dm os → H' x = some o) → (∀ x o, H x = some o → ∃ u, H' x = some u ∧ (NT o → NT u)) → (∀ x o, H x = some o → NT o → G' x = G x) →
      CellO K G' p d' os' → Held G' H' os' → (∀ x ∈ dm os', x ∈ dm os ∨ H x = none) → StOk K H0 P own G' (env.set i (some d')) σ H' := by
  obtain ⟨f, h1, h2⟩ := s.cel
  obtain ⟨p, d, e1, e2, c, h, z⟩ := h1 i hi
  refine ⟨p, d, f i, e1, e2, c, h, z, fun G' H' d' os' gg gh kp dm' gn c' hd' sb => ?_⟩
  have hil := lt_of_get e1
  have out : ∀ j ∈ own, j ≠ i → ∀ x ∈ dm (f j), x ∉ dm os' := fun j hj ji x hx hz => by
    rcases sb x hz with y | y
    · exact h2 j hj i hi ji x hx y
    · obtain ⟨_, _, _, _, _, hh, _⟩ := h1 j hj
      obtain ⟨o, h3, _⟩ := hh.there hx
      rw [y] at h3
      cases h3
  refine ⟨gh, fun a o h0 n => kp a o (s.fr a o h0 n) fun y => ?_, fun a o h0 => ?_, by simpa using s.len, fun j e he n => ?_, ⟨swO f i os', fun j hj => ?_, fun j hj k hk jk x hx => ?_⟩, s.par, fun x hx => ?_, s.ln⟩
  · rcases z a y with y | y
    · rw [y] at h0
      cases h0
    · exact n y.is
  · obtain ⟨u, hu, hn⟩ := s.dom a o h0
    obtain ⟨w, hw, hn'⟩ := dm' a u hu
    exact ⟨w, hw, fun y => hn' (hn y)⟩
  · rcases mem_set he with ⟨rfl, q⟩ | ⟨q, he⟩
    · exact absurd hi n
    · obtain ⟨v, e3, r⟩ := s.val j e he n
      exact ⟨v, e3, r.mono gg⟩
  · by_cases y : j = i
    · subst y
      rw [swO_pos rfl]
      refine ⟨p, d', by rw [List.getElem?_set_self hil], e2, c', hd', fun x hx => ?_⟩
      rcases sb x hx with w | w
      · exact z x w
      · exact .inl (s.h0 w)
    · rw [swO_neg y]
      obtain ⟨p', d2, e3, e4, c2, hh, w⟩ := h1 j hj
      refine ⟨p', d2, by rw [List.getElem?_set_ne (Ne.symm y)]; exact e3, e4, c2.mono gg, hh.mono (fun x m => ?_) (fun x o m => kp x o (hh.at_ x o m).1 fun v => ?_), w⟩
      · obtain ⟨o, h3, h4, h5⟩ := hh.there m
        exact (gn x o h3 h5).trans h4
      · exact h2 j hj i hi y x (dm_mem.mpr ⟨o, m⟩) v
  · by_cases y : j = i
    · rw [swO_pos y] at hx
      by_cases w : k = i
      · exact absurd (y.trans w.symm) jk
      · rw [swO_neg w]
        exact fun v => out k hk w x v hx
    · rw [swO_neg y] at hx
      by_cases w : k = i
      · rw [swO_pos w]
        exact out j hj y x hx
      · rw [swO_neg w]
        exact h2 j hj k hk jk x hx
  · obtain ⟨⟨o, ho, n⟩, hg⟩ := s.isd x hx
    obtain ⟨u, hu, hn⟩ := s.domN ho n
    exact ⟨⟨o, ho, n⟩, (gn x u hu hn).trans hg⟩
theorem StOk.celF {i : Nat} {d : D} (s : StOk K H0 P own G env σ H) (he : env[i]? = some (some d)) (hi : i ∈ own) (hf : flatD d = true) : ∃ p, σ[i]? = some (some (.ref p)) ∧ Cell K G H p d := by
  obtain ⟨p, d', os, e1, e2, c, h, _⟩ := s.open hi
  rw [he] at e1
  cases e1
  exact ⟨p, e2, (c.flat h hf).1⟩
theorem StOk.write {i : Nat} {p : Addr} {d d' : D} {o : HO} (s : StOk K H0 P own G env σ H) (hi : env[i]? = some (some d)) (ho : i ∈ own) (hp : σ[i]? = some (some (.ref p))) (hf : flatD d = true) (c : Cell K G (upd H p o) p d') :
    StOk K H0 P own G (env.set i (some d')) σ (upd H p o) := by
  obtain ⟨p', d1, os, e1, e2, c1, h, _, cl⟩ := s.open ho
  rw [hi] at e1
  cases e1
  rw [hp] at e2
  cases e2
  obtain ⟨c2, o1, rfl⟩ := c1.flat h hf
  obtain ⟨o2, c3, h3⟩ := c.os
  have no : NT o := c.nt upd_same
  refine cl G _ d' _ (Same.refl _) (fun a u ha => ?_) (fun x u hx n => ?_) (fun x u hx => ?_) (fun _ _ _ _ => rfl) c3 h3 fun x hx => .inl hx
  · rw [upd_ne (ne_of_none ha c2.1)]
    exact s.sub a u ha
  · rw [upd_ne fun z => n (List.mem_singleton.mpr z)]
    exact hx
  · by_cases z : x = p
    · exact ⟨o, by rw [z, upd_same], fun _ => no⟩
    · exact ⟨u, by rw [upd_ne z]; exact hx, id⟩
theorem StOk.freeze {i : Nat} (s : StOk K H0 P own G env σ H) (ht : i ∉ P.1.map (·.1)) : ∃ G', Gr H0 G G' ∧ StOk K H0 P (own.filter (· != i)) G' env σ H := by
  have inn : ∀ j, j ∈ own.filter (· != i) → j ∈ own ∧ j ≠ i := fun j h => by
    obtain ⟨h1, h2⟩ := List.mem_filter.mp h
    exact ⟨h1, by simpa using h2⟩
  have inm : ∀ j, j ∈ own → j ≠ i → j ∈ own.filter (· != i) := fun j h1 h2 => List.mem_filter.mpr ⟨h1, by simpa using h2⟩
  have pin : ∀ q ∈ P.1, q.1 ≠ i := fun q hq z => ht (List.mem_map.mpr ⟨q, hq, z⟩)
  by_cases hi : i ∈ own
  · obtain ⟨f, h1, h2⟩ := s.cel
    obtain ⟨p, d, e1, e2, c, h, z⟩ := h1 i hi
    have z0 : ∀ x ∈ dm (f i), H0 x = none := fun x hx => (z x hx).resolve_right fun ⟨q, hq, y, _⟩ => pin q hq y
    have gg : Same G (addO G (f i)) := fun a u ha => by
      rw [addO_out fun m => ?_]
      · exact ha
      · obtain ⟨o, _, hg, _⟩ := h.there m
        rw [hg] at ha
        cases ha
    have gr : Gr H0 G (addO G (f i)) := ⟨gg, fun a u ha _ => addO_out fun m => by rw [z0 a m] at ha; cases ha⟩
    refine ⟨addO G (f i), gr, fun a u ha => ?_, s.fr, s.dom, s.len, fun j e he n => ?_, ⟨f, fun j hj => ?_, fun j hj k hk => h2 j (inn j hj).1 k (inn k hk).1⟩, fun q hq => ?_, fun x hx => ?_, s.ln⟩
    · by_cases m : a ∈ dm (f i)
      · obtain ⟨o, ho⟩ := dm_mem.mp m
        rw [addO_in h.nd ho] at ha
        cases ha
        exact (h.at_ a _ ho).1
      · rw [addO_out m] at ha
        exact s.sub a u ha
    · by_cases hj : j ∈ own
      · by_cases ji : j = i
        · subst ji
          rw [e1] at he
          cases he
          exact ⟨.ref p, e2, c.rp gg fun x o m => addO_in h.nd m⟩
        · exact absurd (inm j hj ji) n
      · obtain ⟨v, e3, r⟩ := s.val j e he hj
        exact ⟨v, e3, r.mono gg⟩
    · obtain ⟨hj1, ji⟩ := inn j hj
      obtain ⟨p', d', e3, e4, c', hh, y⟩ := h1 j hj1
      refine ⟨p', d', e3, e4, c'.mono gg, hh.mono (fun x m => ?_) fun x o m => (hh.at_ x o m).1, y⟩
      rw [addO_out (h2 j hj1 i hi ji x m)]
      exact (hh.there m).choose_spec.2.1
    · obtain ⟨h3, h4⟩ := s.par q hq
      exact ⟨inm _ h3 (pin q hq), h4⟩
    · obtain ⟨⟨o, ho, n⟩, hg⟩ := s.isd x hx
      refine ⟨⟨o, ho, n⟩, ?_⟩
      rw [addO_out fun m => ?_]
      · exact hg
      · rw [z0 x m] at ho
        cases ho
  · refine ⟨G, Gr.refl, s.congr fun j => ⟨fun hj => inm j hj fun z => hi (z ▸ hj), fun hj => (inn j hj).1⟩⟩
/-! what stands beside ours: held in the frame -/
theorem StOk.lay {p : Addr} {o : HO} (s : StOk K H0 P own G env σ H) (h : H p = none) : StOk K (upd H0 p o) P own G env σ (upd H p o) := by
  have h0 := s.h0 h
  have s1 := s.grow (Grow.drop (o := o) s.sub h)
  refine ⟨s1.sub, fun a u ha n => ?_, fun a u ha => ?_, s.len, s1.val, ?_, s.par, fun x hx => ?_, s.ln⟩
  · by_cases z : a = p
    · subst z
      rw [upd_same] at ha ⊢
      exact ha
    · rw [upd_ne z] at ha
      exact s1.fr a u ha n
  · by_cases z : a = p
    · subst z
      rw [upd_same] at ha
      cases ha
      exact ⟨o, upd_same, id⟩
    · rw [upd_ne z] at ha
      exact s1.dom a u ha
  · obtain ⟨f, h1, h2⟩ := s.cel
    refine ⟨f, fun i hi => ?_, h2⟩
    obtain ⟨q, d, e1, e2, c, hh, z⟩ := h1 i hi
    have ne : ∀ x ∈ dm (f i), x ≠ p := fun x hx y => by
      obtain ⟨u, hu, _⟩ := hh.there hx
      rw [y, h] at hu
      cases hu
    refine ⟨q, d, e1, e2, c, hh.mono (fun x m => (hh.there m).choose_spec.2.1) (fun x u m => by rw [upd_ne (ne x (dm_mem.mpr ⟨u, m⟩))]; exact (hh.at_ x u m).1), fun x hx => ?_⟩
    rw [upd_ne (ne x hx)]
    exact z x hx
  · obtain ⟨⟨u, hu, n⟩, hg⟩ := s.isd x hx
    exact ⟨⟨u, by rw [upd_ne (ne_of_none hu h0)]; exact hu, n⟩, hg⟩
theorem StOk.loose {p : Addr} {o : HO} (s : StOk K (upd H0 p o) P own G env σ H) (h : H0 p = none) (nP : ¬ P.is p) : StOk K H0 P own G env σ H := by
  have up : ∀ a u, H0 a = some u → upd H0 p o a = some u := fun a u e => by
    rw [upd_ne (ne_of_none e h)]
    exact e
  refine ⟨s.sub, fun a u e n => s.fr a u (up a u e) n, fun a u e => s.dom a u (up a u e), s.len, s.val, ?_, s.par, fun x hx => ?_, s.ln⟩
  · obtain ⟨f, h1, h2⟩ := s.cel
    refine ⟨f, fun i hi => ?_, h2⟩
    obtain ⟨q, d, e1, e2, c, hh, z⟩ := h1 i hi
    refine ⟨q, d, e1, e2, c, hh, fun x hx => ?_⟩
    rcases z x hx with z | z
    · by_cases y : x = p
      · exact .inl (y ▸ h)
      · rw [upd_ne y] at z
        exact .inl z
    · exact .inr z
  · obtain ⟨⟨u, hu, n⟩, hg⟩ := s.isd x hx
    have ne : x ≠ p := fun z => nP (z ▸ hx)
    rw [upd_ne ne] at hu
    exact ⟨⟨u, hu, n⟩, hg⟩
theorem StOk.apart {p : Addr} {o : HO} (s : StOk K (upd H0 p o) P own G env σ H) (nP : ¬ P.is p) {f : Nat → Os} (h1 : ∀ i ∈ own, ∃ p' d, env[i]? = some (some d) ∧ σ[i]? = some (some (.ref p')) ∧ CellO K G p' d (f i) ∧ Held G H (f i) ∧ ∀ x ∈ dm (f i), upd H0 p o x = none ∨ P.at i x) :
    ∀ i ∈ own, ∀ x ∈ dm (f i), x ≠ p := fun i hi x hx y => by
  obtain ⟨_, _, _, _, _, _, z⟩ := h1 i hi
  rcases z x hx with z | z
  · rw [y, upd_same] at z
    cases z
  · exact nP (y ▸ z.is)
theorem StOk.side {p : Addr} {o o' : HO} (s : StOk K (upd H0 p o) P own G env σ H) (hg : G p = none) (nP : ¬ P.is p) (n' : NT o') : StOk K (upd H0 p o') P own G env σ (upd H p o') := by
  refine ⟨fun a u e => ?_, fun a u e n => ?_, fun a u e => ?_, s.len, s.val, ?_, s.par, fun x hx => ?_, s.ln⟩
  · rw [upd_ne (ne_of_none e hg)]
    exact s.sub a u e
  · by_cases z : a = p
    · subst z
      rw [upd_same] at e ⊢
      exact e
    · rw [upd_ne z] at e ⊢
      exact s.fr a u (by rw [upd_ne z]; exact e) n
  · by_cases z : a = p
    · subst z
      exact ⟨o', upd_same, fun _ => n'⟩
    · rw [upd_ne z] at e ⊢
      exact s.dom a u (by rw [upd_ne z]; exact e)
  · obtain ⟨f, h1, h2⟩ := s.cel
    have ap := s.apart nP h1
    refine ⟨f, fun i hi => ?_, h2⟩
    obtain ⟨q, d, e1, e2, c, hh, z⟩ := h1 i hi
    refine ⟨q, d, e1, e2, c, hh.mono (fun x m => (hh.there m).choose_spec.2.1) (fun x u m => by rw [upd_ne (ap i hi x (dm_mem.mpr ⟨u, m⟩))]; exact (hh.at_ x u m).1), fun x hx => ?_⟩
    have := z x hx
    rw [upd_ne (ap i hi x hx)] at this ⊢
    exact this
  · obtain ⟨⟨u, hu, n⟩, hg'⟩ := s.isd x hx
    have ne : x ≠ p := fun z => nP (z ▸ hx)
    rw [upd_ne ne] at hu
    exact ⟨⟨u, by rw [upd_ne ne]; exact hu, n⟩, hg'⟩
def del (H : Hp) (p : Addr) : Hp := fun a => if a = p then none else H a
theorem del_same {p : Addr} : del H p p = none := by unfold del; rw [if_pos rfl]
theorem del_ne {p a : Addr} (h : a ≠ p) : del H p a = H a := by unfold del; rw [if_neg h]
theorem upd_del {p : Addr} {o : HO} (h : H p = some o) : upd (del H p) p o = H := by
  funext a
  by_cases z : a = p
  · subst z
    rw [upd_same, h]
  · rw [upd_ne z, del_ne z]
theorem StOk.del {p : Addr} {o : HO} (s : StOk K (upd H0 p o) P own G env σ H) (hg : G p = none) (h : H0 p = none) (nP : ¬ P.is p) : StOk K H0 P own G env σ (Hz.del H p) := by
  obtain ⟨f, h1, h2⟩ := s.cel
  have ap := s.apart nP h1
  have s1 := s.loose h nP
  refine ⟨fun a u e => ?_, fun a u e n => ?_, fun a u e => ?_, s.len, s.val, ⟨f, fun i hi => ?_, h2⟩, s.par, s1.isd, s.ln⟩
  · rw [del_ne (ne_of_none e hg)]
    exact s.sub a u e
  · rw [del_ne (ne_of_none e h)]
    exact s1.fr a u e n
  · rw [del_ne (ne_of_none e h)]
    exact s1.dom a u e
  · obtain ⟨q, d, e1, e2, c, hh, z⟩ := h1 i hi
    refine ⟨q, d, e1, e2, c, hh.mono (fun x m => (hh.there m).choose_spec.2.1) (fun x u m => by rw [del_ne (ap i hi x (dm_mem.mpr ⟨u, m⟩))]; exact (hh.at_ x u m).1), fun x hx => ?_⟩
    have := z x hx
    rw [upd_ne (ap i hi x hx)] at this
    exact this
theorem StOk.layO {os : Os} (s : StOk K H0 P own G env σ H) (g : Grow G H G' H') (hf : ∀ x ∈ dm os, H x = none) (hd : Held G' H' os) : StOk K (addO H0 os) P own G' env σ H' := by
  have s1 := s.grow g
  have h0 : ∀ x ∈ dm os, H0 x = none := fun x hx => s.h0 (hf x hx)
  refine ⟨s1.sub, fun a u ha n => ?_, fun a u ha => ?_, s.len, s1.val, ?_, s.par, fun x hx => ?_, s.ln⟩
  · by_cases z : a ∈ dm os
    · obtain ⟨o, ho⟩ := dm_mem.mp z
      rw [addO_in hd.nd ho] at ha
      cases ha
      exact (hd.at_ _ _ ho).1
    · rw [addO_out z] at ha
      exact s1.fr a u ha n
  · by_cases z : a ∈ dm os
    · obtain ⟨o, ho⟩ := dm_mem.mp z
      rw [addO_in hd.nd ho] at ha
      cases ha
      exact ⟨_, (hd.at_ _ _ ho).1, id⟩
    · rw [addO_out z] at ha
      exact s1.dom a u ha
  · obtain ⟨f, h1, h2⟩ := s.cel
    refine ⟨f, fun i hi => ?_, h2⟩
    obtain ⟨q, d, e1, e2, c, hh, z⟩ := h1 i hi
    have ne : ∀ x ∈ dm (f i), x ∉ dm os := fun x hx y => by
      obtain ⟨u, hu, _⟩ := hh.there hx
      rw [hf x y] at hu
      cases hu
    refine ⟨q, d, e1, e2, c.mono g.gg, hh.mono (fun x m => ?_) (fun x u m => g.hh x u (hh.at_ x u m).1), fun x hx => ?_⟩
    · obtain ⟨u, h3, h4, h5⟩ := hh.there m
      exact (g.new x u h3 h5).trans h4
    · rw [addO_out (ne x hx)]
      exact z x hx
  · obtain ⟨⟨u, hu, n⟩, hg⟩ := s1.isd x hx
    exact ⟨⟨u, by rw [addO_out fun z => (by rw [h0 x z] at hu; cases hu)]; exact hu, n⟩, hg⟩
theorem StOk.looseO {os : Os} (s : StOk K (addO H0 os) P own G env σ H) (nd : (dm os).Nodup) (h : ∀ x ∈ dm os, H0 x = none ∧ ¬ P.is x) : StOk K H0 P own G env σ H := by
  have up : ∀ a u, H0 a = some u → addO H0 os a = some u := fun a u e => by
    rw [addO_out fun z => (by rw [(h a z).1] at e; cases e)]
    exact e
  refine ⟨s.sub, fun a u e n => s.fr a u (up a u e) n, fun a u e => s.dom a u (up a u e), s.len, s.val, ?_, s.par, fun x hx => ?_, s.ln⟩
  · obtain ⟨f, h1, h2⟩ := s.cel
    refine ⟨f, fun i hi => ?_, h2⟩
    obtain ⟨q, d, e1, e2, c, hh, z⟩ := h1 i hi
    refine ⟨q, d, e1, e2, c, hh, fun x hx => ?_⟩
    rcases z x hx with z | z
    · by_cases y : x ∈ dm os
      · exact .inl (h x y).1
      · rw [addO_out y] at z
        exact .inl z
    · exact .inr z
  · obtain ⟨⟨u, hu, n⟩, hg⟩ := s.isd x hx
    rw [addO_out fun z => (h x z).2 hx] at hu
    exact ⟨⟨u, hu, n⟩, hg⟩
theorem StOk.takeO {i : Nat} {p : Addr} {d : D} {os : Os} (s : StOk K (addO H0 os) P own G env σ H) (c : CellO K G p d os) (hd : Held G H os) (h : ∀ x ∈ dm os, H0 x = none ∧ ¬ P.is x) (hi : i ∉ own) (ht : i ∉ P.1.map (·.1)) (hil : i < env.length) :
    StOk K H0 P (i :: own) G (env.set i (some d)) (σ.set i (some (.ref p))) H := by
  obtain ⟨f, h1, h2⟩ := s.cel
  have ap : ∀ j ∈ own, ∀ x ∈ dm (f j), x ∉ dm os := fun j hj x hx y => by
    obtain ⟨_, _, _, _, _, _, z⟩ := h1 j hj
    rcases z x hx with z | z
    · obtain ⟨o, ho⟩ := dm_mem.mp y
      rw [addO_in hd.nd ho] at z
      cases z
    · exact (h x y).2 z.is
  have s1 := s.looseO hd.nd h
  refine ⟨s1.sub, s1.fr, s1.dom, by simpa using s.len, fun j e h n => ?_, ⟨swO f i os, fun j hj => ?_, fun j hj k hk jk x hx => ?_⟩, fun q hq => ?_, s1.isd, by simpa using s.ln⟩
  · rcases mem_set h with ⟨rfl, q⟩ | ⟨q, h⟩
    · exact absurd List.mem_cons_self n
    · obtain ⟨w, e1, r1⟩ := s.val j e h fun z => n (List.mem_cons_of_mem _ z)
      exact ⟨w, by rw [List.getElem?_set_ne (Ne.symm q)]; exact e1, r1⟩
  · by_cases z : j = i
    · subst z
      rw [swO_pos rfl]
      exact ⟨p, d, by rw [List.getElem?_set_self hil], by rw [List.getElem?_set_self (by rw [← s.len]; exact hil)], c, hd, fun x hx => .inl (h x hx).1⟩
    · rw [swO_neg z]
      have hj' := (List.mem_cons.mp hj).resolve_left z
      obtain ⟨p', d', e1, e2, c', hh, y⟩ := h1 j hj'
      refine ⟨p', d', by rw [List.getElem?_set_ne (Ne.symm z)]; exact e1, by rw [List.getElem?_set_ne (Ne.symm z)]; exact e2, c', hh, fun x hx => ?_⟩
      have := y x hx
      rw [addO_out (ap j hj' x hx)] at this
      exact this
  · by_cases z : j = i
    · rw [swO_pos z] at hx
      by_cases y : k = i
      · exact absurd (z.trans y.symm) jk
      · rw [swO_neg y]
        intro w
        exact ap k ((List.mem_cons.mp hk).resolve_left y) x w hx
    · rw [swO_neg z] at hx
      by_cases y : k = i
      · rw [swO_pos y]
        exact ap j ((List.mem_cons.mp hj).resolve_left z) x hx
      · rw [swO_neg y]
        exact h2 j ((List.mem_cons.mp hj).resolve_left z) k ((List.mem_cons.mp hk).resolve_left y) jk x hx
  · obtain ⟨h1, h2⟩ := s.par q hq
    have z : i ≠ q.1 := fun z => ht (List.mem_map.mpr ⟨q, hq, z.symm⟩)
    exact ⟨List.mem_cons_of_mem _ h1, by rw [List.getElem?_set_ne z]; exact h2⟩
end
/-! ### the judgements -/
def EvI (K : PySem.W.Frag) (tw : List Nat) (own : List Nat) (W : WX) (cl : Nat → Addr) (t : TE) (f : Env → R (D × Env)) : Prop :=
  ∀ (H0 : Hp) (P : Par) (G : Hp) (env : Env) (σ : L2.St) (H : Hp) (Q : VK), P.1.map (·.1) = tw → StOk K H0 P own G env σ H →
    Ans (f env) (fun a => ∀ G' H' v, Gr H0 G G' → StOk K H0 P own G' a.2 σ H' → Rp K G' v a.1 → Q v H') (fun c => ∀ H', Frm H0 P H' → W (.ref (cl c)) none σ H') → t σ H Q
def EvT (K : PySem.W.Frag) (tw : List Nat) (own : List Nat) (W : WX) (cl : Nat → Addr) (t : TT) (f : Env → R (Bool × Env)) : Prop :=
  ∀ (H0 : Hp) (P : Par) (G : Hp) (env : Env) (σ : L2.St) (H : Hp) (Q : Bool → Hp → Prop), P.1.map (·.1) = tw → StOk K H0 P own G env σ H →
    Ans (f env) (fun a => ∀ G' H', Gr H0 G G' → StOk K H0 P own G' a.2 σ H' → Q a.1 H') (fun c => ∀ H', Frm H0 P H' → W (.ref (cl c)) none σ H') → t σ H Q
def EvA (K : PySem.W.Frag) (tw : List Nat) (own : List Nat) (W : WX) (cl : Nat → Addr) (t : TA) (f : Env → R (List D × Env)) : Prop :=
  ∀ (H0 : Hp) (P : Par) (G : Hp) (env : Env) (σ : L2.St) (H : Hp) (Q : List V → Hp → Prop), P.1.map (·.1) = tw → StOk K H0 P own G env σ H →
    Ans (f env) (fun a => ∀ G' H' vs, Gr H0 G G' → StOk K H0 P own G' a.2 σ H' → RpA K G' vs a.1 → Q vs H') (fun c => ∀ H', Frm H0 P H' → W (.ref (cl c)) none σ H') → t σ H Q
inductive Fl where
  | nx | rt (d : D) | bk | ct
def EvS (K : PySem.W.Frag) (tw : List Nat) (own oN oL : List Nat) (W : WX) (cl : Nat → Addr) (t : TS) (f : Env → R (Fl × Env)) : Prop :=
  ∀ (H0 : Hp) (P : Par) (G : Hp) (env : Env) (σ : L2.St) (H : Hp) (E : Ends), P.1.map (·.1) = tw → StOk K H0 P own G env σ H →
    Ans (f env) (fun a => match a.1 with
      | .nx => ∀ G' σ' H', Gr H0 G G' → StOk K H0 P oN G' a.2 σ' H' → E.nx σ' H'
      | .rt d => ∀ G' σ' H' v, Gr H0 G G' → StOk K H0 P tw G' a.2 σ' H' → Rp K G' v d → E.rt v H'
      | .bk => ∀ G' σ' H', Gr H0 G G' → StOk K H0 P oL G' a.2 σ' H' → E.bk σ' H'
      | .ct => ∀ G' σ' H', Gr H0 G G' → StOk K H0 P oL G' a.2 σ' H' → E.ct σ' H')
      (fun c => ∀ σ' H', σ'.length = P.2 → Frm H0 P H' → W (.ref (cl c)) none σ' H') → t E σ H

structure DI (X : Cx) (tw : List Nat) (own : List Nat) (W : WX) (cl : Nat → Addr) (e : Expr) (t : TE) (f : Env → R (D × Env)) : Prop where
  pe : PE X e t
  ev : EvI X.K tw own W cl t f
structure DT (X : Cx) (tw : List Nat) (own : List Nat) (W : WX) (cl : Nat → Addr) (e : Expr) (t : TT) (f : Env → R (Bool × Env)) : Prop where
  pe : PT X e t
  ev : EvT X.K tw own W cl t f
structure DA (X : Cx) (tw : List Nat) (own : List Nat) (W : WX) (cl : Nat → Addr) (es : List Expr) (t : TA) (f : Env → R (List D × Env)) : Prop where
  pe : PA X es t
  ev : EvA X.K tw own W cl t f
structure DS (X : Cx) (tw : List Nat) (own oN oL : List Nat) (W : WX) (cl : Nat → Addr) (s : Stmt) (t : TS) (f : Env → R (Fl × Env)) : Prop where
  pe : PS X s t
  ev : EvS X.K tw own oN oL W cl t f
structure DSs (X : Cx) (tw : List Nat) (own oN oL : List Nat) (W : WX) (cl : Nat → Addr) (s : List Stmt) (t : TS) (f : Env → R (Fl × Env)) : Prop where
  pe : PSs X s t
  ev : EvS X.K tw own oN oL W cl t f

def spP (K : PySem.W.Frag) (cl : Nat → Addr) (n : Nat) (F : List D → R D) : Sp := fun vs H Q E => ∃ G ds, Same G H ∧ RpA K G vs ds ∧ ds.length = n ∧
  Ans (F ds) (fun d => ∀ G' H' v, Grow G H G' H' → Rp K G' v d → Q v H') (fun c => ∀ H', Same H H' → E (.ref (cl c)) none H')
structure Does (K : PySem.W.Frag) (G H : Hp) (os : Os) (G' H' : Hp) (p : Addr) (d : D) (os' : Os) : Prop where
  gg : Same G G'
  gh : Same G' H'
  kp : ∀ x o, H x = some o → x ∉ dm os → H' x = some o
  dm : ∀ x o, H x = some o → ∃ u, H' x = some u ∧ (NT o → NT u)
  gn : ∀ x o, H x = some o → NT o → G' x = G x
  c : CellO K G' p d os'
  hd : Held G' H' os'
  sb : ∀ x ∈ Hz.dm os', x ∈ Hz.dm os ∨ H x = none
def spT (K : PySem.W.Frag) (cl : Nat → Addr) (k n : Nat) (F : List D → R (D × D)) : Sp := fun vs H Q E => ∃ G va p vb da dt db os, vs = va ++ .ref p :: vb ∧ va.length = k ∧ Same G H ∧ RpA K G va da ∧ CellO K G p dt os ∧ Held G H os ∧ RpA K G vb db ∧ da.length + db.length + 1 = n ∧
  Ans (F (da ++ dt :: db)) (fun a => ∀ G' H' v os', Does K G H os G' H' p a.2 os' → Rp K G' v a.1 → Q v H')
    (fun c => ∀ H', (∀ b o, b ∉ dm os → H b = some o → H' b = some o) → E (.ref (cl c)) none H')
theorem spP.len {K : PySem.W.Frag} {cl : Nat → Addr} {n : Nat} {F : List D → R D} (vs : List V) (H : Hp) (Q : VK) (E : XK) (h : spP K cl n F vs H Q E) : vs.length = n := by
  obtain ⟨G, ds, _, r, e, _⟩ := h
  rw [r.length]
  exact e
theorem spT.len {K : PySem.W.Frag} {cl : Nat → Addr} {k n : Nat} {F : List D → R (D × D)} (vs : List V) (H : Hp) (Q : VK) (E : XK) (h : spT K cl k n F vs H Q E) : vs.length = n := by
  obtain ⟨G, va, p, vb, da, dt, db, os, rfl, _, _, ra, _, _, rb, e, _⟩ := h
  rw [← e, ← ra.length, ← rb.length, List.length_append, List.length_cons]
  omega
theorem StOk.does {K : PySem.W.Frag} {H0 : Hp} {P : Par} {own : List Nat} {G H : Hp} {env : Env} {σ : L2.St} {i : Nat} (s : StOk K H0 P own G env σ H) (hi : i ∈ own) : ∃ p d os, env[i]? = some (some d) ∧ σ[i]? = some (some (.ref p)) ∧ CellO K G p d os ∧ Held G H os ∧
    (∀ H', (∀ b o, b ∉ dm os → H b = some o → H' b = some o) → Frm H0 P H') ∧ ∀ (G' H' : Hp) (d' : D) (os' : Os), Does K G H os G' H' p d' os' → Gr H0 G G' ∧ StOk K H0 P own G' (env.set i (some d')) σ H' := by
  obtain ⟨p, d, os, e1, e2, c, h, z, cl⟩ := s.open hi
  refine ⟨p, d, os, e1, e2, c, h, fun H' kp a o h0 n => ?_, fun G' H' d' os' x => ⟨⟨x.gg, fun b o h' n' => ?_⟩, cl G' H' d' os' x.gg x.gh x.kp x.dm x.gn x.c x.hd x.sb⟩⟩
  · refine kp a o (fun y => ?_) (s.fr a o h0 n)
    rcases z a y with y | y
    · rw [y] at h0
      cases h0
    · exact n y.is
  · obtain ⟨u, hu, hn⟩ := s.domN h' n'
    exact x.gn b u hu hn
end Hz

namespace Hz
open PySem PySem.Spec PyProof.Rows L2

theorem Ans.monoE {α : Type} {r : R α} {f g : α → Prop} {e e' : Nat → Prop} (h : Ans r f e) (hf : ∀ a, r = .ok a → f a → g a) (he : ∀ c, e c → e' c) : Ans r g e' := by
  cases r with
  | ok a => exact hf a rfl h
  | err c => exact he c h
  | bad => exact h
theorem sz100 {n : Nat} (h : n ≤ 1000000) : n ≤ sizeLine := Nat.le_trans h (by rw [sizeLine_eq]; decide)
theorem sz100l {n : Nat} (h : n < 1000000) : n < sizeLine := Nat.lt_of_lt_of_le h (by rw [sizeLine_eq]; decide)

/-! ### the functions that pieces of text are worth -/
def cD (d : D) : Env → R (D × Env) := fun e => .ok (d, e)
def varD (i : Nat) : Env → R (D × Env) := fun e => match e[i]? with
  | some (some d) => .ok (d, e)
  | _ => .bad
def lift {α : Type} : Option α → R α
  | some a => .ok a
  | none => .bad
def op2 (g : D → D → Option D) (a b : Env → R (D × Env)) : Env → R (D × Env) := fun e => (a e).bind fun x => (b x.2).bind fun y => (lift (g x.1 y.1)).bind fun d => .ok (d, y.2)
def op1 (g : D → Option D) (a : Env → R (D × Env)) : Env → R (D × Env) := fun e => (a e).bind fun x => (lift (g x.1)).bind fun d => .ok (d, x.2)
def opN (g : List D → Option D) (a : Env → R (List D × Env)) : Env → R (D × Env) := fun e => (a e).bind fun x => (lift (g x.1)).bind fun d => .ok (d, x.2)
def nilA : Env → R (List D × Env) := fun e => .ok ([], e)
def consA (a : Env → R (D × Env)) (b : Env → R (List D × Env)) : Env → R (List D × Env) := fun e => (a e).bind fun x => (b x.2).bind fun y => .ok (x.1 :: y.1, y.2)
def lstD (a : Env → R (List D × Env)) : Env → R (D × Env) := fun e => (a e).bind fun x => .ok (.list x.1, x.2)
def tupD (a : Env → R (List D × Env)) : Env → R (D × Env) := fun e => (a e).bind fun x => .ok (.tuple x.1, x.2)
def callP (F : List D → R D) (a : Env → R (List D × Env)) : Env → R (D × Env) := fun e => (a e).bind fun x => (F x.1).bind fun d => .ok (d, x.2)
def callT (F : List D → R (D × D)) (i : Nat) (a0 : Env → R (D × Env)) (ar : Env → R (List D × Env)) : Env → R (D × Env) := fun e => (a0 e).bind fun x => (ar x.2).bind fun y => match y.2[i]? with
  | some (some t) => (F (x.1 :: t :: y.1)).bind fun r => .ok (r.1, y.2.set i (some r.2))
  | _ => .bad
def tstD (a : Env → R (D × Env)) : Env → R (Bool × Env) := fun e => (a e).bind fun x => match x.1 with
  | .bool b => .ok (b, x.2)
  | _ => .bad
def andT (a b : Env → R (Bool × Env)) : Env → R (Bool × Env) := fun e => (a e).bind fun x => if x.1 = true then b x.2 else .ok (false, x.2)
def orT (a b : Env → R (Bool × Env)) : Env → R (Bool × Env) := fun e => (a e).bind fun x => if x.1 = true then .ok (true, x.2) else b x.2
def notT (a : Env → R (Bool × Env)) : Env → R (Bool × Env) := fun e => (a e).bind fun x => .ok (!x.1, x.2)
def andV (a b : Env → R (D × Env)) : Env → R (D × Env) := fun e => (a e).bind fun x => match x.1 with
  | .bool true => b x.2
  | .bool false => .ok (.bool false, x.2)
  | _ => .bad
def orV (a b : Env → R (D × Env)) : Env → R (D × Env) := fun e => (a e).bind fun x => match x.1 with
  | .bool true => .ok (.bool true, x.2)
  | .bool false => b x.2
  | _ => .bad
def notV (a : Env → R (D × Env)) : Env → R (D × Env) := fun e => (a e).bind fun x => match x.1 with
  | .bool b => .ok (.bool (!b), x.2)
  | _ => .bad
def ifD (c : Env → R (Bool × Env)) (a b : Env → R (D × Env)) : Env → R (D × Env) := fun e => (c e).bind fun x => if x.1 = true then a x.2 else b x.2
def chainD (g h : D → D → Option D) (a b c : Env → R (D × Env)) : Env → R (D × Env) := fun e => (a e).bind fun x => (b x.2).bind fun y => match g x.1 y.1 with
  | some (.bool true) => (c y.2).bind fun z => (lift (h y.1 z.1)).bind fun d => .ok (d, z.2)
  | some (.bool false) => .ok (.bool false, y.2)
  | _ => .bad

section
variable {K : PySem.W.Frag} {tw : List Nat} {own : List Nat} {W : WX} {cl : Nat → Addr} {ta tb tc : TE} {tA tr : TA} {t u : TT} {fa fb fc : Env → R (D × Env)} {fA : Env → R (List D × Env)} {ft fu : Env → R (Bool × Env)}
def Op2 (K : PySem.W.Frag) (r : R2) (g : D → D → Option D) : Prop := ∀ (G H : Hp) (x y : V) (dx dy d : D) (Q : VK), Same G H → Rp K G x dx → Rp K G y dy → g dx dy = some d → (∀ G' H' v, Grow G H G' H' → Rp K G' v d → Q v H') → r x y H Q
def Op1 (K : PySem.W.Frag) (r : V → Hp → VK → Prop) (g : D → Option D) : Prop := ∀ (G H : Hp) (x : V) (dx d : D) (Q : VK), Same G H → Rp K G x dx → g dx = some d → (∀ G' H' v, Grow G H G' H' → Rp K G' v d → Q v H') → r x H Q
def OpN (K : PySem.W.Frag) (r : List V → Hp → VK → Prop) (g : List D → Option D) : Prop := ∀ (G H : Hp) (xs : List V) (ds : List D) (d : D) (Q : VK), Same G H → RpA K G xs ds → g ds = some d → (∀ G' H' v, Grow G H G' H' → Rp K G' v d → Q v H') → r xs H Q
theorem ans_lift {α β : Type} {o : Option α} {k : α → R β} {f : β → Prop} {e : Nat → Prop} (h : Ans ((lift o).bind k) f e) : ∃ a, o = some a ∧ Ans (k a) f e := by
  cases o with
  | none => exact h.elim
  | some a => exact ⟨a, rfl, h⟩
theorem EvI.c {d : D} {v : V} (h : ∀ G, Rp K G v d) : EvI K tw own W cl (tC v) (cD d) := fun H0 P G env σ H Q hp ok ans => ans G H v Gr.refl ok (h G)
theorem EvI.v {i : Nat} (hi : i ∉ own) : EvI K tw own W cl (tVar i) (varD i) := fun H0 P G env σ H Q hp ok ans => by
  unfold varD at ans
  split at ans
  · rename_i d e
    obtain ⟨v, e1, r⟩ := ok.val i d e hi
    exact ⟨v, e1, ans G H v Gr.refl ok r⟩
  · exact ans.elim
theorem EvI.op2 {r : R2} {g : D → D → Option D} (ho : Op2 K r g) (ha : EvI K tw own W cl ta fa) (hb : EvI K tw own W cl tb fb) : EvI K tw own W cl (tOp r ta tb) (op2 g fa fb) := fun H0 P G env σ H Q hp ok ans => by
  refine ha H0 P G env σ H _ hp ok (ans.bind.mono (fun a ha' G1 H1 x g1 ok1 rx => ?_) fun _ h => h)
  refine hb H0 P G1 a.2 σ H1 _ hp ok1 (ha'.bind.mono (fun b hb' G2 H2 y g2 ok2 ry => ?_) fun _ h => h)
  obtain ⟨d, e, q⟩ := ans_lift hb'
  exact ho G2 H2 x y a.1 b.1 d Q ok2.sub (rx.mono g2.1) ry e fun G' H' v gg rv => q G' H' v ((g1.trans g2).trans (gg.gr ok2)) (ok2.grow gg) rv
theorem EvI.op1 {r : V → Hp → VK → Prop} {g : D → Option D} (ho : Op1 K r g) (ha : EvI K tw own W cl ta fa) : EvI K tw own W cl (tUn r ta) (op1 g fa) := fun H0 P G env σ H Q hp ok ans => by
  refine ha H0 P G env σ H _ hp ok (ans.bind.mono (fun a ha' G1 H1 x g1 ok1 rx => ?_) fun _ h => h)
  obtain ⟨d, e, q⟩ := ans_lift ha'
  exact ho G1 H1 x a.1 d Q ok1.sub rx e fun G' H' v gg rv => q G' H' v (g1.trans (gg.gr ok1)) (ok1.grow gg) rv
theorem EvI.opN {r : List V → Hp → VK → Prop} {g : List D → Option D} (ho : OpN K r g) (ha : EvA K tw own W cl tA fA) : EvI K tw own W cl (tCB r tA) (opN g fA) := fun H0 P G env σ H Q hp ok ans => by
  refine ha H0 P G env σ H _ hp ok (ans.bind.mono (fun a ha' G1 H1 x g1 ok1 rx => ?_) fun _ h => h)
  obtain ⟨d, e, q⟩ := ans_lift ha'
  exact ho G1 H1 x a.1 d Q ok1.sub rx e fun G' H' v gg rv => q G' H' v (g1.trans (gg.gr ok1)) (ok1.grow gg) rv
theorem EvA.nil : EvA K tw own W cl tNil nilA := fun H0 P G env σ H Q hp ok ans => ans G H [] Gr.refl ok .nil
theorem EvA.cons (ha : EvI K tw own W cl ta fa) (hb : EvA K tw own W cl tA fA) : EvA K tw own W cl (tCons ta tA) (consA fa fA) := fun H0 P G env σ H Q hp ok ans => by
  refine ha H0 P G env σ H _ hp ok (ans.bind.mono (fun a ha' G1 H1 x g1 ok1 rx => ?_) fun _ h => h)
  refine hb H0 P G1 a.2 σ H1 _ hp ok1 (ha'.bind.mono (fun b hb' G2 H2 y g2 ok2 ry => ?_) fun _ h => h)
  exact hb' G2 H2 (x :: y) (g1.trans g2) ok2 (.cons (rx.mono g2.1) ry)
theorem EvI.lst (ha : EvA K tw own W cl tA fA) (hl : ∀ env r, fA env = .ok r → r.1.length ≤ 1000) : EvI K tw own W cl (tLst tA) (lstD fA) := fun H0 P G env σ H Q hp ok ans => by
  refine ha H0 P G env σ H _ hp ok (ans.bind.monoE (fun a e ha' G1 H1 vs g1 ok1 rx => ?_) fun _ h => h)
  refine ⟨by rw [rx.length]; exact sz100 (Nat.le_trans (hl env a e) (by decide)), fun p np => ?_⟩
  have gg : Grow G1 H1 (upd G1 p (.lst vs)) (upd H1 p (.lst vs)) := Grow.lay ok1.sub np
  exact ha' _ _ (.ref p) (g1.trans (gg.gr ok1)) (ok1.grow gg) (.lst upd_same (rx.mono gg.gg))
theorem EvI.tup (ha : EvA K tw own W cl tA fA) (hl : ∀ env r, fA env = .ok r → r.1.length ≤ 1000) : EvI K tw own W cl (tTupP tA) (tupD fA) := fun H0 P G env σ H Q hp ok ans => by
  refine ha H0 P G env σ H _ hp ok (ans.bind.monoE (fun a e ha' G1 H1 vs g1 ok1 rx => ?_) fun _ h => h)
  refine ⟨by rw [rx.length]; exact sz100 (Nat.le_trans (hl env a e) (by decide)), fun p ob np hd => ?_⟩
  have gg : Grow G1 H1 (upd G1 p (tupO ob vs)) (upd H1 p (tupO ob vs)) := Grow.lay ok1.sub np
  exact ha' _ _ (.ref p) (g1.trans (gg.gr ok1)) (ok1.grow gg) (Rp.lay upd_same hd (rx.mono gg.gg))
theorem EvI.callP {n : Nat} {F : List D → R D} (ha : EvA K tw own W cl tA fA) (hl : ∀ env r, fA env = .ok r → r.1.length = n) : EvI K tw own W cl (tCallS (spP K cl n F) (WE W) tA) (callP F fA) := fun H0 P G env σ H Q hp ok ans => by
  refine ha H0 P G env σ H _ hp ok (ans.bind.monoE (fun a e ha' G1 H1 vs g1 ok1 rx => ?_) fun _ h => h)
  refine ⟨G1, a.1, ok1.sub, rx, hl env a e, ha'.bind.mono (fun d q G' H' v gg rv => ?_) fun c h H' hs => ?_⟩
  · exact q G' H' v (g1.trans (gg.gr ok1)) (ok1.grow gg) rv
  · exact h H' fun a o h1 h2 => hs a o (ok1.fr a o h1 h2)
theorem EvI.callT {n i : Nat} {F : List D → R (D × D)} (hi : i ∈ own) (ha : EvI K tw own W cl ta fa) (hb : EvA K tw own W cl tA fA) (hl : ∀ env r, fA env = .ok r → r.1.length + 2 = n) :
    EvI K tw own W cl (tCallS (spT K cl 1 n F) (WE W) (tCons ta (tCons (tVar i) tA))) (callT F i fa fA) := fun H0 P G env σ H Q hp ok ans => by
  refine ha H0 P G env σ H _ hp ok (ans.bind.mono (fun a ha' G1 H1 x g1 ok1 rx => ?_) fun _ h => h)
  obtain ⟨p, e1⟩ := ok1.adr hi
  refine ⟨.ref p, e1, hb H0 P G1 a.2 σ H1 _ hp ok1 (ha'.bind.monoE (fun b eb hb' G2 H2 ys g2 ok2 ry => ?_) fun _ h => h)⟩
  obtain ⟨p', dt, os, hd, e2, c, h, fr, cls⟩ := ok2.does hi
  rw [e1] at e2
  cases e2
  rw [hd] at hb'
  refine ⟨G2, [x], p, ys, [a.1], dt, b.1, os, rfl, rfl, ok2.sub, .cons (rx.mono g2.1) .nil, c, h, ry, ?_, (Ans.bind hb').mono (fun r q G' H' v os' dd rv => ?_) fun k q H' s3 => q H' (fr H' s3)⟩
  · have := hl a.2 b eb
    simp only [List.length_cons, List.length_nil]
    omega
  · obtain ⟨gr, ok3⟩ := cls G' H' r.2 os' dd
    exact q G' H' v ((g1.trans g2).trans gr) ok3 rv
def EvH (K : PySem.W.Frag) (tw : List Nat) (own : List Nat) (W : WX) (cl : Nat → Addr) (i k : Nat) (t : TA) (f : Env → R ((List D × List D) × Env)) : Prop :=
  ∀ (H0 : Hp) (P : Par) (G : Hp) (env : Env) (σ : L2.St) (H : Hp) (Q : List V → Hp → Prop), P.1.map (·.1) = tw → StOk K H0 P own G env σ H →
    Ans (f env) (fun a => ∀ G' H' va vb p, Gr H0 G G' → StOk K H0 P own G' a.2 σ H' → RpA K G' va a.1.1 → RpA K G' vb a.1.2 → va.length = k → σ[i]? = some (some (.ref p)) → Q (va ++ .ref p :: vb) H') (fun c => ∀ H', Frm H0 P H' → W (.ref (cl c)) none σ H') → t σ H Q
def hereH (b : Env → R (List D × Env)) : Env → R ((List D × List D) × Env) := fun e => (b e).bind fun y => .ok (([], y.1), y.2)
def consH (a : Env → R (D × Env)) (h : Env → R ((List D × List D) × Env)) : Env → R ((List D × List D) × Env) := fun e => (a e).bind fun x => (h x.2).bind fun y => .ok ((x.1 :: y.1.1, y.1.2), y.2)
theorem EvH.here {i : Nat} (hi : i ∈ own) (hb : EvA K tw own W cl tA fA) : EvH K tw own W cl i 0 (tCons (tVar i) tA) (hereH fA) := fun H0 P G env σ H Q hp ok ans => by
  obtain ⟨p, e1⟩ := ok.adr hi
  refine ⟨.ref p, e1, hb H0 P G env σ H _ hp ok (ans.bind.mono (fun b hb' G2 H2 ys g2 ok2 ry => ?_) fun _ h => h)⟩
  exact hb' G2 H2 [] ys p g2 ok2 .nil ry rfl e1
theorem EvH.cons {i k : Nat} {fH : Env → R ((List D × List D) × Env)} (ha : EvI K tw own W cl ta fa) (hb : EvH K tw own W cl i k tA fH) : EvH K tw own W cl i (k + 1) (tCons ta tA) (consH fa fH) := fun H0 P G env σ H Q hp ok ans => by
  refine ha H0 P G env σ H _ hp ok (ans.bind.mono (fun a ha' G1 H1 x g1 ok1 rx => ?_) fun _ h => h)
  refine hb H0 P G1 a.2 σ H1 _ hp ok1 (ha'.bind.mono (fun b hb' G2 H2 va vb p g2 ok2 ra rb hl e => ?_) fun _ h => h)
  exact hb' G2 H2 (x :: va) vb p (g1.trans g2) ok2 (.cons (rx.mono g2.1) ra) rb (by rw [List.length_cons, hl]) e
/-! ### tests, and, or, not, if -/
theorem EvT.tst (ha : EvI K tw own W cl ta fa) : EvT K tw own W cl (tTest ta) (tstD fa) := fun H0 P G env σ H Q hp ok ans => by
  refine ha H0 P G env σ H _ hp ok (ans.bind.mono (fun a ha' G1 H1 x g1 ok1 rx => ?_) fun _ h => h)
  obtain ⟨d, e2⟩ := a
  cases d with
  | bool b =>
    cases rx
    exact ⟨b, rfl, ha' G1 H1 g1 ok1⟩
  | _ => exact ha'.elim
theorem EvT.tB (ha : EvI K tw own W cl ta fa) : EvT K tw own W cl (L2.tB ta) (tstD fa) := EvT.tst ha
theorem EvT.and (ha : EvT K tw own W cl t ft) (hb : EvT K tw own W cl u fu) : EvT K tw own W cl (tAnd t u) (andT ft fu) := fun H0 P G env σ H Q hp ok ans => by
  refine ha H0 P G env σ H _ hp ok (ans.bind.mono (fun a ha' G1 H1 g1 ok1 => ?_) fun _ h => h)
  obtain ⟨b, e⟩ := a
  cases b with
  | true => exact hb H0 P G1 e σ H1 Q hp ok1 (Ans.mono ha' (fun a h G' H' g2 => h G' H' (g1.trans g2)) fun _ h => h)
  | false => exact ha' G1 H1 g1 ok1
theorem EvT.or (ha : EvT K tw own W cl t ft) (hb : EvT K tw own W cl u fu) : EvT K tw own W cl (tOr t u) (orT ft fu) := fun H0 P G env σ H Q hp ok ans => by
  refine ha H0 P G env σ H _ hp ok (ans.bind.mono (fun a ha' G1 H1 g1 ok1 => ?_) fun _ h => h)
  obtain ⟨b, e⟩ := a
  cases b with
  | false => exact hb H0 P G1 e σ H1 Q hp ok1 (Ans.mono ha' (fun a h G' H' g2 => h G' H' (g1.trans g2)) fun _ h => h)
  | true => exact ha' G1 H1 g1 ok1
theorem EvT.not (ha : EvT K tw own W cl t ft) : EvT K tw own W cl (tNot t) (notT ft) := fun H0 P G env σ H Q hp ok ans => by
  exact ha H0 P G env σ H _ hp ok (ans.bind.mono (fun a ha' G1 H1 g1 ok1 => ha' G1 H1 g1 ok1) fun _ h => h)
theorem EvI.and (ha : EvI K tw own W cl ta fa) (hb : EvI K tw own W cl tb fb) : EvI K tw own W cl (tAndV ta tb) (andV fa fb) := fun H0 P G env σ H Q hp ok ans => by
  refine ha H0 P G env σ H _ hp ok (ans.bind.mono (fun a ha' G1 H1 x g1 ok1 rx => ?_) fun _ h => h)
  obtain ⟨d, e⟩ := a
  cases d with
  | bool b =>
    cases rx
    refine ⟨b, rfl, ?_⟩
    cases b with
    | true => exact hb H0 P G1 e σ H1 Q hp ok1 (Ans.mono ha' (fun a h G' H' v g2 => h G' H' v (g1.trans g2)) fun _ h => h)
    | false => exact ha' G1 H1 _ g1 ok1 (.bl false)
  | _ => exact ha'.elim
theorem EvI.or (ha : EvI K tw own W cl ta fa) (hb : EvI K tw own W cl tb fb) : EvI K tw own W cl (tOrV ta tb) (orV fa fb) := fun H0 P G env σ H Q hp ok ans => by
  refine ha H0 P G env σ H _ hp ok (ans.bind.mono (fun a ha' G1 H1 x g1 ok1 rx => ?_) fun _ h => h)
  obtain ⟨d, e⟩ := a
  cases d with
  | bool b =>
    cases rx
    refine ⟨b, rfl, ?_⟩
    cases b with
    | false => exact hb H0 P G1 e σ H1 Q hp ok1 (Ans.mono ha' (fun a h G' H' v g2 => h G' H' v (g1.trans g2)) fun _ h => h)
    | true => exact ha' G1 H1 _ g1 ok1 (.bl true)
  | _ => exact ha'.elim
theorem EvI.not (ha : EvI K tw own W cl ta fa) : EvI K tw own W cl (tNotV ta) (notV fa) := fun H0 P G env σ H Q hp ok ans => by
  refine ha H0 P G env σ H _ hp ok (ans.bind.mono (fun a ha' G1 H1 x g1 ok1 rx => ?_) fun _ h => h)
  obtain ⟨d, e⟩ := a
  cases d with
  | bool b =>
    cases rx
    exact ⟨b, rfl, ha' G1 H1 _ g1 ok1 (.bl (!b))⟩
  | _ => exact ha'.elim
theorem EvI.chain {r r' : R2} {g h : D → D → Option D} (ho : Op2 K r g) (ho' : Op2 K r' h) (ha : EvI K tw own W cl ta fa) (hb : EvI K tw own W cl tb fb) (hc : EvI K tw own W cl tc fc) :
    EvI K tw own W cl (tChain r r' ta tb tc) (chainD g h fa fb fc) := fun H0 P G env σ H Q hp ok ans => by
  refine ha H0 P G env σ H _ hp ok (ans.bind.mono (fun a ha' G1 H1 x g1 ok1 rx => ?_) fun _ h => h)
  refine hb H0 P G1 a.2 σ H1 _ hp ok1 (ha'.bind.mono (fun b hb' G2 H2 y g2 ok2 ry => ?_) fun _ h => h)
  cases e : g a.1 b.1 with
  | none => rw [e] at hb'; exact hb'.elim
  | some d =>
    rw [e] at hb'
    cases d with
    | bool k =>
      refine ho G2 H2 x y a.1 b.1 (.bool k) _ ok2.sub (rx.mono g2.1) ry e fun G3 H3 v gg rv => ?_
      cases rv
      refine ⟨k, rfl, ?_⟩
      have ok3 := ok2.grow gg
      have g3 := (g1.trans g2).trans (gg.gr ok2)
      cases k with
      | true =>
        refine hc H0 P G3 b.2 σ H3 _ hp ok3 ((Ans.bind hb').mono (fun c hc' G4 H4 z g4 ok4 rz => ?_) fun _ h => h)
        obtain ⟨d, e, q⟩ := ans_lift hc'
        exact ho' G4 H4 y z b.1 c.1 d Q ok4.sub ((ry.mono gg.gg).mono g4.1) rz e fun G' H' v gg2 rv => q G' H' v ((g3.trans g4).trans (gg2.gr ok4)) (ok4.grow gg2) rv
      | false => exact hb' G3 H3 _ g3 ok3 (.bl false)
    | _ => exact hb'.elim
end

/-! ### with the rules of the text -/
section
variable {X : Cx} {tw : List Nat} {own : List Nat} {W : WX} {cl : Nat → Addr} {a b c e : Expr} {es : List Expr} {pos p : Pos} {ta tb tc : TE} {tA tr : TA} {t u : TT} {fa fb fc : Env → R (D × Env)} {fA : Env → R (List D × Env)} {ft fu : Env → R (Bool × Env)}
theorem de_int {i j} : DI X tw own W cl (.Constant (.int i) j pos) (tC (.int i)) (cD (.int i)) := ⟨pe_int, EvI.c fun _ => .int i⟩
theorem de_str {i j} : DI X tw own W cl (.Constant (.str i) j pos) (tC (.str i)) (cD (.str i)) := ⟨pe_str, EvI.c fun _ => .str i⟩
theorem de_bl {i j} : DI X tw own W cl (.Constant (.bool i) j pos) (tC (.bl i)) (cD (.bool i)) := ⟨pe_bl, EvI.c fun _ => .bl i⟩
theorem de_non {j} : DI X tw own W cl (.Constant .none j pos) (tC .non) (cD .none) := ⟨pe_non, EvI.c fun _ => .non⟩
theorem de_v (i : Nat) {x : Str} (hi : i ∉ own := by decide) (hN : X.N[i]? = some x := by rfl) (hv : Vis X.env.scope x := by first | exact Or.inl rfl | exact Or.inr (Or.inl rfl) | exact Or.inr (Or.inr rfl)) (hd : (x == ("__debug__" : Str)) = false := by decide)
    (hcd : (x == ("__classdict__" : Str)) = false := by decide) : DI X tw own W cl (.Name x pos) (tVar i) (varD i) := ⟨pe_var hN hv hd hcd, EvI.v hi⟩
theorem de_glob {x : Str} {v : V} {d : D} {u : Value} (hm : X.mg x = some u) (r : RelV v u) (rp : ∀ G, Rp X.K G v d) (hg : Gl X x := by rfl) (hd : (x == ("__debug__" : Str)) = false := by decide) : DI X tw own W cl (.Name x pos) (tC v) (cD d) :=
  ⟨pe_glob hg hm r hd, EvI.c rp⟩
theorem da_nil : DA X tw own W cl [] tNil nilA := ⟨pa_nil, EvA.nil⟩
theorem da_cons (ha : DI X tw own W cl e ta fa) (hb : DA X tw own W cl es tA fA) (hs : starEach (e :: es) X.env = (false, eval e X.env) :: starEach es X.env := by rfl) : DA X tw own W cl (e :: es) (tCons ta tA) (consA fa fA) :=
  ⟨pa_cons ha.pe hb.pe hs, EvA.cons ha.ev hb.ev⟩
theorem de_bin {op : Operator} {r : R2} {g : D → D → Option D} (ho : OpR X (binaryOp op) r) (hv : Op2 X.K r g) (ha : DI X tw own W cl a ta fa) (hb : DI X tw own W cl b tb fb) : DI X tw own W cl (.BinOp a op b pos) (tOp r ta tb) (op2 g fa fb) :=
  ⟨pe_op ho ha.pe hb.pe, EvI.op2 hv ha.ev hb.ev⟩
theorem de_cmp {op : CmpOp} {r : R2} {g : D → D → Option D} (ho : OpR X (compareOp op) r) (hv : Op2 X.K r g) (ha : DI X tw own W cl a ta fa) (hb : DI X tw own W cl b tb fb) (hm : behindInMarks op b = false := by first | exact nomark _ | rfl) : DI X tw own W cl (.Compare a [op] [b] pos) (tOp r ta tb) (op2 g fa fb) :=
  ⟨pe_cmpR ho ha.pe hb.pe hm, EvI.op2 hv ha.ev hb.ev⟩
theorem dt_cmp {op : CmpOp} {r : R2} {g : D → D → Option D} (ho : OpR X (compareOp op) r) (hv : Op2 X.K r g) (ha : DI X tw own W cl a ta fa) (hb : DI X tw own W cl b tb fb) (hm : behindInMarks op b = false := by first | exact nomark _ | rfl) : DT X tw own W cl (.Compare a [op] [b] pos) (tTest (tOp r ta tb)) (tstD (op2 g fa fb)) :=
  ⟨pt_cmpR ho ha.pe hb.pe hm, EvT.tst (EvI.op2 hv ha.ev hb.ev)⟩
theorem de_chain {op op' : CmpOp} {r r' : R2} {g h : D → D → Option D} (ho : OpR X (compareOp op) r) (hv : Op2 X.K r g) (ho' : OpR X (compareOp op') r') (hv' : Op2 X.K r' h) (ha : DI X tw own W cl a ta fa) (hb : DI X tw own W cl b tb fb) (hc : DI X tw own W cl c tc fc)
    (hm : lastMarks [op, op'] [b, c] = false := by with_unfolding_all rfl) : DI X tw own W cl (.Compare a [op, op'] [b, c] pos) (tChain r r' ta tb tc) (chainD g h fa fb fc) := ⟨pe_chain ho ho' ha.pe hb.pe hc.pe hm, EvI.chain hv hv' ha.ev hb.ev hc.ev⟩
theorem dt_chain {op op' : CmpOp} {r r' : R2} {g h : D → D → Option D} (ho : OpR X (compareOp op) r) (hv : Op2 X.K r g) (ho' : OpR X (compareOp op') r') (hv' : Op2 X.K r' h) (ha : DI X tw own W cl a ta fa) (hb : DI X tw own W cl b tb fb) (hc : DI X tw own W cl c tc fc)
    (hm : lastMarks [op, op'] [b, c] = false := by with_unfolding_all rfl) : DT X tw own W cl (.Compare a [op, op'] [b, c] pos) (tTest (tChain r r' ta tb tc)) (tstD (chainD g h fa fb fc)) := ⟨pt_chain ho ho' ha.pe hb.pe hc.pe hm, EvT.tst (EvI.chain hv hv' ha.ev hb.ev hc.ev)⟩
theorem de_lst (ha : DA X tw own W cl es tA fA) (hl : ∀ env r, fA env = .ok r → r.1.length ≤ 1000) : DI X tw own W cl (.List es pos) (tLst tA) (lstD fA) := ⟨pe_lst ha.pe, EvI.lst ha.ev hl⟩
theorem de_tup {k} (ha : DA X tw own W cl es tA fA) (hl : ∀ env r, fA env = .ok r → r.1.length ≤ 1000) : DI X tw own W cl (.Tuple es k pos) (tTupP tA) (tupD fA) := ⟨pe_tupP ha.pe, EvI.tup ha.ev hl⟩
theorem de_callP {k n : Nat} {f : Addr} {fd : FuncData} {ps : List Str} {x : Str} {F : List D → R D} (G : FnOk X.prog X.w X.K X.mg X.base (L2N.CX X.prog X.w) k f fd ps (spP X.K cl n F)) (hr : Room k X.A) (hm : X.mg x = some (.ref f)) (hk : PySem.W.keepIn X.K (.ref f) = true) (hb : Binds X.K fd ps []) (tk : L2N.Takes X W)
    (ha : DA X tw own W cl (e :: es) tA fA) (hl : ∀ env r, fA env = .ok r → r.1.length = n) (hg : Gl X x := by rfl) (hdb : (x == ("__debug__" : Str)) = false := by decide) (he : starEach (e :: es) X.env = (false, eval e X.env) :: starEach es X.env := by rfl) (hpl : (backTo pos (starEach es X.env)).any (·.1) = false := by rfl) :
    DI X tw own W cl (.Call (.Name x p) (e :: es) [] pos) (tCallS (spP X.K cl n F) (WE W) tA) (callP F fA) :=
  ⟨pe_callS G hr hg hm hk hb (fun σ => L2N.passAt tk σ) ha.pe hdb he hpl, EvI.callP ha.ev hl⟩
theorem de_callT {k n i : Nat} {f : Addr} {fd : FuncData} {ps : List Str} {x y : Str} {q : Pos} {F : List D → R (D × D)} (G : FnOk X.prog X.w X.K X.mg X.base (L2N.CX X.prog X.w) k f fd ps (spT X.K cl 1 n F)) (hr : Room k X.A) (hm : X.mg x = some (.ref f)) (hk : PySem.W.keepIn X.K (.ref f) = true) (hb : Binds X.K fd ps []) (tk : L2N.Takes X W)
    (hi : i ∈ own) (ha : DI X tw own W cl e ta fa) (hr' : DA X tw own W cl es tA fA) (hl : ∀ env r, fA env = .ok r → r.1.length + 2 = n)
    (hN : X.N[i]? = some y := by rfl) (hv : Vis X.env.scope y := by first | exact Or.inl rfl | exact Or.inr (Or.inl rfl) | exact Or.inr (Or.inr rfl)) (hd : (y == ("__debug__" : Str)) = false := by decide) (hcd : (y == ("__classdict__" : Str)) = false := by decide)
    (hg : Gl X x := by rfl) (hdb : (x == ("__debug__" : Str)) = false := by decide) (hs2 : starEach (.Name y q :: es) X.env = (false, eval (.Name y q) X.env) :: starEach es X.env := by rfl) (he : starEach (e :: .Name y q :: es) X.env = (false, eval e X.env) :: starEach (.Name y q :: es) X.env := by rfl) (hpl : (backTo pos (starEach (.Name y q :: es) X.env)).any (·.1) = false := by rfl) :
    DI X tw own W cl (.Call (.Name x p) (e :: .Name y q :: es) [] pos) (tCallS (spT X.K cl 1 n F) (WE W) (tCons ta (tCons (tVar i) tA))) (callT F i fa fA) :=
  ⟨pe_callS G hr hg hm hk hb (fun σ => L2N.passAt tk σ) (pa_cons ha.pe (pa_cons (pe_var hN hv hd hcd) hr'.pe hs2) he) hdb he hpl, EvI.callT hi ha.ev hr'.ev hl⟩
theorem dt_val (ha : DI X tw own W cl e ta fa) (he : ∀ whole, isTrue e X.env whole = (do let v ← whole; standAt e.pos; holding [v] (truthy v)) := by intro _; rfl) : DT X tw own W cl e (tB ta) (tstD fa) := ⟨pt_val ha.pe he, EvT.tB ha.ev⟩
theorem dt_not (ha : DT X tw own W cl a t ft) : DT X tw own W cl (.UnaryOp .Not a pos) (tNot t) (notT ft) := ⟨pt_not ha.pe, EvT.not ha.ev⟩
structure DW (X : Cx) (tw : List Nat) (own : List Nat) (W : WX) (cl : Nat → Addr) (e : Expr) (t : TT) (f : Env → R (Bool × Env)) : Prop where
  pe : PW X e t
  ev : EvT X.K tw own W cl t f
theorem dw_or1 (ha : DT X tw own W cl a t ft) : DW X tw own W cl (.BoolOp .Or [a] pos) t ft := ⟨pw_or1 ha.pe, ha.ev⟩
theorem dw_or (ha : DT X tw own W cl a t ft) (hb : DW X tw own W cl (.BoolOp .Or (b :: es) pos) u fu) : DW X tw own W cl (.BoolOp .Or (a :: b :: es) pos) (tOr t u) (orT ft fu) := ⟨pw_or ha.pe hb.pe, EvT.or ha.ev hb.ev⟩
theorem dt_w (h : DW X tw own W cl e t ft) : DT X tw own W cl e t ft := ⟨h.pe.pt, h.ev⟩
theorem de_one {op} (h : DI X tw own W cl a ta fa) : DI X tw own W cl (.BoolOp op [a] pos) ta fa := ⟨pe_one h.pe, h.ev⟩
theorem de_and (ha : DI X tw own W cl a ta fa) (hb : DI X tw own W cl (.BoolOp .And (b :: es) pos) tb fb) : DI X tw own W cl (.BoolOp .And (a :: b :: es) pos) (tAndV ta tb) (andV fa fb) := ⟨pe_and ha.pe hb.pe, EvI.and ha.ev hb.ev⟩
theorem de_not (ha : DI X tw own W cl a ta fa) : DI X tw own W cl (.UnaryOp .Not a pos) (tNotV ta) (notV fa) := ⟨pe_not ha.pe, EvI.not ha.ev⟩
theorem de_blt {x : Str} {id : String} {r : List V → Hp → VK → Prop} {g : List D → Option D} (hc : CallR X (.builtin id) r) (hv : OpN X.K r g) (hm : X.mg x = none) (hbt : bootBuiltins x = some (.builtin id)) (ha : DA X tw own W cl (e :: es) tA fA) (hg : Gl X x := by rfl) (hn : x ≠ "__name__" := by decide) (hdb : (x == ("__debug__" : Str)) = false := by decide)
    (he : starEach (e :: es) X.env = (false, eval e X.env) :: starEach es X.env := by rfl) (hpl : (backTo pos (starEach es X.env)).any (·.1) = false := by rfl) : DI X tw own W cl (.Call (.Name x p) (e :: es) [] pos) (tCB r tA) (opN g fA) :=
  ⟨pe_callB hc hg hm hbt ha.pe hn hdb he hpl, EvI.opN hv ha.ev⟩
theorem de_bty {x : Str} {T : String} {r : List V → Hp → VK → Prop} {g : List D → Option D} (hc : CallR X (.type T) r) (hv : OpN X.K r g) (hm : X.mg x = none) (hbt : bootBuiltins x = some (.type T)) (ha : DA X tw own W cl (e :: es) tA fA) (hg : Gl X x := by rfl) (hn : x ≠ "__name__" := by decide) (hdb : (x == ("__debug__" : Str)) = false := by decide)
    (he : starEach (e :: es) X.env = (false, eval e X.env) :: starEach es X.env := by rfl) (hpl : (backTo pos (starEach es X.env)).any (·.1) = false := by rfl) : DI X tw own W cl (.Call (.Name x p) (e :: es) [] pos) (tCB r tA) (opN g fA) :=
  ⟨pe_callTy hc hg hm hbt ha.pe hn hdb he hpl, EvI.opN hv ha.ev⟩
end
end Hz

namespace Hz
open PySem PySem.Spec PyProof.Rows L2

/-! ### data that may be compared: no dicts, not deep -/
def dep : Nat → D → Bool
  | _, .none => true
  | _, .bool _ => true
  | _, .int _ => true
  | _, .str x => PyData.canLay0 (.str x)
  | 0, .list _ => false
  | 0, .tuple _ => false
  | n + 1, .list xs => xs.all (dep n)
  | n + 1, .tuple xs => xs.all (dep n)
  | _, .dict _ => false
theorem dep_shape : ∀ (n : Nat) (d : D), dep n d = true → d.canLay0 = true ∧ d.depth ≤ n := by
  intro n
  induction n with
  | zero =>
    intro d h
    cases d <;> first | (simp [dep] at h; done) | exact ⟨by first | exact h | rfl, by simp [PyData.depth]⟩
  | succ n ih =>
    have all : ∀ xs : List D, xs.all (dep n) = true → PyData.canLayAll0 xs = true ∧ PyData.depthAll xs ≤ n := by
      intro xs
      induction xs with
      | nil => intro _; exact ⟨rfl, by simp [PyData.depthAll]⟩
      | cons x xs ihx =>
        intro h
        simp only [List.all_cons, Bool.and_eq_true] at h
        obtain ⟨h1, h2⟩ := ih x h.1
        obtain ⟨h3, h4⟩ := ihx h.2
        exact ⟨by simp [PyData.canLayAll0, h1, h3], by simp only [PyData.depthAll]; omega⟩
    intro d h
    cases d with
    | list xs =>
      obtain ⟨h1, h2⟩ := all xs h
      exact ⟨by simpa [PyData.canLay0] using h1, by simp only [PyData.depth]; omega⟩
    | tuple xs =>
      obtain ⟨h1, h2⟩ := all xs h
      exact ⟨by simpa [PyData.canLay0] using h1, by simp only [PyData.depth]; omega⟩
    | dict _ => simp [dep] at h
    | _ => exact ⟨by first | exact h | rfl, by simp [PyData.depth]⟩
theorem dep_shaped {d : D} (h : dep 9 d = true) : SeqAt.shaped d = true := by
  obtain ⟨h1, h2⟩ := dep_shape 9 d h
  unfold SeqAt.shaped
  rw [h1, decide_eq_true (by omega)]
  rfl
theorem dep_all {xs : List D} (h : dep 9 (.list xs) = true) : PyData.canLayAll0 xs = true := by
  obtain ⟨h1, _⟩ := dep_shape 9 _ h
  simpa [PyData.canLay0] using h1
theorem dep_allT {xs : List D} (h : dep 9 (.tuple xs) = true) : PyData.canLayAll0 xs = true := by
  obtain ⟨h1, _⟩ := dep_shape 9 _ h
  simpa [PyData.canLay0] using h1
theorem Rp.dep {K : PySem.W.Frag} {G : Hp} {v : V} {d : D} (r : Rp K G v d) (h : Hz.dep 9 d = true) : Dp K G v d := r.dp (dep_shape 9 d h).1
def scrD : D → Option (List D)
  | .dict [(.none, .list xs)] => some xs
  | _ => none

/-! ### what the operators are worth -/
def addD : D → D → Option D
  | .int i, .int j => some (.int (i + j))
  | .str x, .str y => if x.length + y.length ≤ 1000000 then some (.str (x ++ y)) else none
  | .list xs, .list ys => if xs.length + ys.length ≤ 1000000 then some (.list (xs ++ ys)) else none
  | .tuple xs, .tuple ys => if xs.length + ys.length ≤ 1000000 then some (.tuple (xs ++ ys)) else none
  | _, _ => none
def subD : D → D → Option D
  | .int i, .int j => some (.int (i - j))
  | _, _ => none
def mulD : D → D → Option D
  | .int i, .int j => if (-(2 ^ 64) < i ∧ i < 2 ^ 64) ∨ (-(2 ^ 64) < j ∧ j < 2 ^ 64) then some (.int (i * j)) else none
  | .list xs, .int k => if k ≤ 1000000 ∧ -1000000 ≤ k ∧ xs.length * k.toNat ≤ 1000000 then some (.list (List.replicate k.toNat xs).flatten) else none
  | .tuple xs, .int k => if xs ≠ [] ∧ 2 ≤ k ∧ k ≤ 1000 ∧ xs.length ≤ 1000 ∧ needN (List.replicate k.toNat xs).flatten = false then some (.tuple (List.replicate k.toNat xs).flatten) else none
  | _, _ => none
def modD : D → D → Option D
  | .int i, .int j => if 0 < j then some (.int (i % j)) else none
  | _, _ => none
def fdivD : D → D → Option D
  | .int i, .int j => if 0 < j ∧ j < 1073741824 then some (.int (i / j)) else none
  | _, _ => none
def powD : D → D → Option D
  | .int i, .int j => if 0 ≤ j ∧ j ≤ 1000000 ∧ i.natAbs < 2 ^ 64 then some (.int (i ^ j.toNat)) else none
  | _, _ => none
def eqD (d e : D) : Option D := match scrD d with
  | some xs => if dep 9 (.list xs) = true ∧ dep 9 e = true then some (.bool (PyData.eqv (.list xs) e)) else none
  | none => if dep 9 d = true ∧ dep 9 e = true then some (.bool (PyData.eqv d e)) else none
def neD (d e : D) : Option D := match eqD d e with
  | some (.bool b) => some (.bool (!b))
  | _ => none
def intsOf : List D → Option (List Int)
  | [] => some []
  | .int i :: r => (intsOf r).map (i :: ·)
  | _ => none
theorem intsOf_eq : ∀ {ds : List D} {ns : List Int}, intsOf ds = some ns → ds = ns.map PyData.int
  | [], ns, h => by
    cases h
    rfl
  | d :: ds, ns, h => by
    cases d with
    | int i =>
      simp only [intsOf, Option.map_eq_some_iff] at h
      obtain ⟨ms, h1, rfl⟩ := h
      rw [intsOf_eq h1]
      rfl
    | _ => cases h
def ltD : D → D → Option D
  | .int i, .int j => some (.bool (decide (i < j)))
  | .tuple xs, .tuple ys => match intsOf xs, intsOf ys with
    | some ns, some ms => some (.bool (HT.lexLt ns ms))
    | _, _ => none
  | _, _ => none
def leD : D → D → Option D
  | .int i, .int j => some (.bool (decide (i ≤ j)))
  | _, _ => none
def gtD : D → D → Option D
  | .int i, .int j => some (.bool (decide (j < i)))
  | _, _ => none
def geD : D → D → Option D
  | .int i, .int j => some (.bool (decide (j ≤ i)))
  | _, _ => none
def negD : D → Option D
  | .int i => some (.int (-i))
  | _ => none
def signOf (x : Str) : Option Nat := match x.cps.toList with
  | [c] => some c
  | _ => none
theorem signOf_eq {x : Str} {c : Nat} (h : signOf x = some c) : x = ⟨#[c]⟩ := by
  unfold signOf at h
  split at h
  · rename_i c' e
    cases h
    obtain ⟨a⟩ := x
    have : a = #[c] := by
      apply Array.toList_inj.mp
      simpa using e
    rw [this]
  · cases h
def inSeq (x : D) (ds : List D) : Bool := ds.any fun z => PyData.eqv z x
def inD (x c : D) : Option D := match c with
  | .list ds => if dep 9 x = true ∧ dep 9 (.list ds) = true then some (.bool (inSeq x ds)) else none
  | .tuple ds => if dep 9 x = true ∧ dep 9 (.tuple ds) = true then some (.bool (inSeq x ds)) else none
  | .str z => match x with
    | .str y => (signOf y).map fun c => .bool (decide (c ∈ z.cps.toList))
    | _ => none
  | _ => none
def notInD (x c : D) : Option D := match inD x c with
  | some (.bool b) => some (.bool (!b))
  | _ => none
def isD : D → D → Option D
  | x, .none => some (.bool (match x with | .none => true | _ => false))
  | .bool a, .bool b => some (.bool (decide (a = b)))
  | _, _ => none
def isNotD : D → D → Option D
  | x, .none => some (.bool (match x with | .none => false | _ => true))
  | .bool a, .bool b => some (.bool (!decide (a = b)))
  | _, _ => none

section
variable {K : PySem.W.Frag} {X : Cx}
def rAdd2 (K : PySem.W.Frag) : R2 := fun x y H Q => (∃ i j, x = V.int i ∧ y = V.int j ∧ Q (.int (i + j)) H) ∨ (∃ i j, x = V.str i ∧ y = V.str j ∧ i.length + j.length ≤ sizeLine ∧ Q (.str (i ++ j)) H) ∨ rCat x y H Q ∨ rCatP K x y H Q
theorem op_add2 : OpR X (binaryOp .Add) (rAdd2 X.K) := op_add.or (op_add_str.or (op_cat.or op_catP))
theorem v_add2 : Op2 K (rAdd2 K) addD := fun G H x y dx dy d Q sub rx ry e q => by
  cases rx with
  | int i =>
    cases ry with
    | int j =>
      cases e
      exact .inl ⟨i, j, rfl, rfl, q G H _ (Grow.refl sub) (.int _)⟩
    | _ => cases e
  | str i =>
    cases ry with
    | str j =>
      simp only [addD] at e
      split at e
      · cases e
        exact .inr (.inl ⟨i, j, rfl, rfl, sz100 (by assumption), q G H _ (Grow.refl sub) (.str _)⟩)
      · cases e
    | _ => cases e
  | @lst a xs ds h1 a1 =>
    cases ry with
    | @lst b ys es h2 a2 =>
      simp only [addD] at e
      split at e
      · rename_i hz
        cases e
        refine .inr (.inr (.inl ⟨a, b, xs, ys, rfl, rfl, sub _ _ h1, sub _ _ h2, sz100 (by rw [a1.length, a2.length]; exact hz), fun p np => ?_⟩))
        have gg : Grow G H (upd G p (.lst (xs ++ ys))) (upd H p (.lst (xs ++ ys))) := Grow.lay sub np
        exact q _ _ _ gg (.lst upd_same ((a1.append a2).mono gg.gg))
      · cases e
    | _ => cases e
  | @tup a xs ds h1 a1 n1 =>
    cases ry with
    | @tup b ys es h2 a2 n2 =>
      simp only [addD] at e
      split at e
      · rename_i hz
        cases e
        refine .inr (.inr (.inr ⟨a, b, xs, ys, rfl, rfl, Same.sqT sub h1, Same.sqT sub h2, sz100 (by rw [a1.length, a2.length]; exact hz), fun ex => ?_, fun _ ey => ?_, fun _ _ p ob np hd => ?_⟩))
        · subst ex
          cases a1
          exact q G H _ (Grow.refl sub) (.tup h2 a2 n2)
        · subst ey
          cases a2
          rw [List.append_nil] at q
          exact q G H _ (Grow.refl sub) (.tup h1 a1 n1)
        · have gg : Grow G H (upd G p (tupO ob (xs ++ ys))) (upd H p (tupO ob (xs ++ ys))) := Grow.lay sub np
          exact q _ _ _ gg (Rp.lay upd_same hd ((a1.append a2).mono gg.gg))
      · cases e
    | _ => cases e
  | _ => cases ry <;> cases e
theorem v_sub : Op2 K (rI0 fun i j => V.int (i - j)) subD := fun G H x y dx dy d Q sub rx ry e q => by
  cases rx <;> cases ry <;> first | (cases e; done) | skip
  cases e
  exact ⟨_, _, rfl, rfl, q G H _ (Grow.refl sub) (.int _)⟩
def rMul2 (K : PySem.W.Frag) : R2 := fun x y H Q => (rI CMul fun i j => V.int (i * j)) x y H Q ∨ rRep x y H Q ∨ rRepT K x y H Q
theorem op_mul2 : OpR X (binaryOp .Mult) (rMul2 X.K) := op_mul.or (op_rep.or op_repT)
theorem v_mul2 : Op2 K (rMul2 K) mulD := fun G H x y dx dy d Q sub rx ry e q => by
  cases ry with
  | int j =>
    cases rx with
    | int i =>
      simp only [mulD] at e
      split at e
      · rename_i hz
        cases e
        exact .inl ⟨i, j, rfl, rfl, hz, q G H _ (Grow.refl sub) (.int _)⟩
      · cases e
    | @lst a xs ds h1 a1 =>
      simp only [mulD] at e
      split at e
      · rename_i hz
        cases e
        refine .inr (.inl ⟨a, j, xs, rfl, rfl, sub _ _ h1, by omega, by omega, sz100 (by rw [a1.length]; exact hz.2.2), fun p np => ?_⟩)
        have gg : Grow G H (upd G p (.lst (List.replicate j.toNat xs).flatten)) (upd H p (.lst (List.replicate j.toNat xs).flatten)) := Grow.lay sub np
        exact q _ _ _ gg (.lst upd_same ((a1.flat j.toNat).mono gg.gg))
      · cases e
    | @tup a xs ds h1 a1 n1 =>
      simp only [mulD] at e
      split at e
      · rename_i hz
        cases e
        refine .inr (.inr ⟨a, j, xs, rfl, rfl, Same.sqT sub h1, fun z => hz.1 ?_, hz.2.1, hz.2.2.1, by rw [a1.length]; exact hz.2.2.2.1, fun p np => ?_⟩)
        · subst z
          cases a1
          rfl
        · have gg : Grow G H (upd G p (.tup (List.replicate j.toNat xs).flatten)) (upd H p (.tup (List.replicate j.toNat xs).flatten)) := Grow.lay sub np
          exact q _ _ _ gg (.tup (SqT.of upd_same) ((a1.flat j.toNat).mono gg.gg) ⟨fun z => (by rw [hz.2.2.2.2] at z; cases z), fun _ => upd_same⟩)
      · cases e
    | _ => cases e
  | _ => cases rx <;> cases e
theorem v_mod : Op2 K (rI (fun _ j => 0 < j) fun i j => V.int (i % j)) modD := fun G H x y dx dy d Q sub rx ry e q => by
  cases rx <;> cases ry <;> first | (cases e; done) | skip
  simp only [modD] at e
  split at e
  · cases e
    exact ⟨_, _, rfl, rfl, by assumption, q G H _ (Grow.refl sub) (.int _)⟩
  · cases e
theorem v_fdiv : Op2 K (rI CDiv fun i j => V.int (i / j)) fdivD := fun G H x y dx dy d Q sub rx ry e q => by
  cases rx <;> cases ry <;> first | (cases e; done) | skip
  simp only [fdivD] at e
  split at e
  · cases e
    exact ⟨_, _, rfl, rfl, by assumption, q G H _ (Grow.refl sub) (.int _)⟩
  · cases e
theorem v_pow : Op2 K (rI CPow fun i j => V.int (i ^ j.toNat)) powD := fun G H x y dx dy d Q sub rx ry e q => by
  cases rx <;> cases ry <;> first | (cases e; done) | skip
  simp only [powD] at e
  split at e
  · cases e
    exact ⟨_, _, rfl, rfl, by assumption, q G H _ (Grow.refl sub) (.int _)⟩
  · cases e
theorem dpm {G H : Hp} {v : V} {d : D} (h : Dp K G v d) (s : Same G H) : Dp K H v d := by
  have go : ∀ (n : Nat) (v : V) (d : D), sizeOf d < n → Dp K G v d → Dp K H v d := by
    intro n
    induction n with
    | zero => intro v d h; omega
    | succ n ih =>
      have all : ∀ (vs : List V) (ds : List D), sizeOf ds < n + 1 → DpAll K G vs ds → DpAll K H vs ds := by
        intro vs
        induction vs with
        | nil => intro ds _ h; cases h; exact .nil
        | cons v vs ihv =>
          intro ds hs h
          cases h with
          | @cons _ _ d ds h a =>
            have hs' : 1 + sizeOf d + sizeOf ds < n + 1 := by simpa using hs
            exact .cons (ih v d (by omega) h) (ihv ds (by omega) a)
      intro v d hs h
      cases h with
      | non => exact .non
      | bl b => exact .bl b
      | int i => exact .int i
      | str x => exact .str x
      | @lst a xs ds h a =>
        have hs' : 1 + sizeOf ds < n + 1 := by simpa using hs
        exact .lst (s.seq h) (all _ _ (by omega) a)
      | @tup a xs ds h a =>
        have hs' : 1 + sizeOf ds < n + 1 := by simpa using hs
        exact .tup (Same.sqT s h) (all _ _ (by omega) a)
  exact go (sizeOf d + 1) v d (Nat.lt_succ_self _) h
theorem dpAll_ints {G : Hp} : ∀ ns : List Int, DpAll K G (ns.map V.int) (ns.map PyData.int)
  | [] => .nil
  | n :: ns => .cons (.int n) (dpAll_ints ns)
theorem kD_ne (k : Key) : kD k ≠ .none := by
  cases k <;> exact fun h => nomatch h
theorem rpk_no {G : Hp} {kvs : List (Key × V)} {ds : List (D × D)} {d : D} (h : RpK K G kvs ((.none, d) :: ds)) : False := by
  generalize e : ((PyData.none, d) :: ds : List (D × D)) = l at h
  cases h with
  | nil => cases e
  | @cons k v kvs d' ds' h1 h2 =>
    injection e with e1 _
    injection e1 with e2 _
    exact kD_ne k e2.symm
theorem eq_shape {d e : D} {r : D} (h : eqD d e = some r) : ∃ b, r = .bool b ∧ ∀ {G H : Hp} {x y : V}, Same G H → Rp K G x d → Rp K G y e → ∃ d', Dp K H x d' ∧ Dp K H y e ∧ SeqAt.shaped d' = true ∧ SeqAt.shaped e = true ∧ b = PyData.eqv d' e := by
  unfold eqD at h
  split at h
  · rename_i xs hx
    split at h
    · rename_i hz
      cases h
      refine ⟨_, rfl, fun {G H x y} s rx ry => ⟨.list xs, ?_, dpm (ry.dep hz.2) s, dep_shaped hz.1, dep_shaped hz.2, rfl⟩⟩
      unfold scrD at hx
      split at hx
      · cases hx
        cases rx with
        | scr h => exact .lst (s.seq h) (dpAll_ints _)
        | dic h a => exact (rpk_no a).elim
      · cases hx
    · cases h
  · split at h
    · rename_i hz
      cases h
      exact ⟨_, rfl, fun {G H x y} s rx ry => ⟨d, dpm (rx.dep hz.1) s, dpm (ry.dep hz.2) s, dep_shaped hz.1, dep_shaped hz.2, rfl⟩⟩
    · cases h
theorem v_eq : Op2 K (rEqD K) eqD := fun G H x y dx dy d Q sub rx ry e q => by
  obtain ⟨b, rfl, h⟩ := eq_shape (K := K) e
  obtain ⟨d', h1, h2, h3, h4, rfl⟩ := h sub rx ry
  exact ⟨d', dy, h1, h2, h3, h4, q G H _ (Grow.refl sub) (.bl _)⟩
theorem v_ne : Op2 K (rNeD K) neD := fun G H x y dx dy d Q sub rx ry e q => by
  unfold neD at e
  split at e
  · rename_i b eb
    cases e
    obtain ⟨b', hb, h⟩ := eq_shape (K := K) eb
    cases hb
    obtain ⟨d', h1, h2, h3, h4, rfl⟩ := h sub rx ry
    exact ⟨d', dy, h1, h2, h3, h4, q G H _ (Grow.refl sub) (.bl _)⟩
  · cases e
def rLt2 (K : PySem.W.Frag) : R2 := fun x y H Q => (rI0 fun i j => V.bl (decide (i < j))) x y H Q ∨ rLtT K x y H Q
theorem op_lt2 (hu : X.A.units < cLine) : OpR X (compareOp .Lt) (rLt2 X.K) := op_lt.or (op_ltT hu)
theorem v_lt2 : Op2 K (rLt2 K) ltD := fun G H x y dx dy d Q sub rx ry e q => by
  cases rx with
  | int i =>
    cases ry with
    | int j =>
      cases e
      exact .inl ⟨i, j, rfl, rfl, q G H _ (Grow.refl sub) (.bl _)⟩
    | _ => cases e
  | @tup a xs ds h1 a1 n1 =>
    cases ry with
    | @tup b ys es h2 a2 n2 =>
      simp only [ltD] at e
      split at e
      · rename_i ns ms e1 e2
        cases e
        cases intsOf_eq e1
        cases intsOf_eq e2
        cases a1.ints
        cases a2.ints
        exact .inr ⟨a, b, ns, ms, rfl, rfl, Same.sqT sub h1, Same.sqT sub h2, q G H _ (Grow.refl sub) (.bl _)⟩
      · cases e
    | _ => cases e
  | _ => cases ry <;> cases e
theorem v_le : Op2 K (rI0 fun i j => V.bl (decide (i ≤ j))) leD := fun G H x y dx dy d Q sub rx ry e q => by
  cases rx <;> cases ry <;> first | (cases e; done) | skip
  cases e
  exact ⟨_, _, rfl, rfl, q G H _ (Grow.refl sub) (.bl _)⟩
theorem v_gt : Op2 K (rI0 fun i j => V.bl (decide (j < i))) gtD := fun G H x y dx dy d Q sub rx ry e q => by
  cases rx <;> cases ry <;> first | (cases e; done) | skip
  cases e
  exact ⟨_, _, rfl, rfl, q G H _ (Grow.refl sub) (.bl _)⟩
def rInA (K : PySem.W.Frag) (neg : Bool) : R2 := fun x y H Q => (∃ d ds, Dp K H x d ∧ (Dp K H y (.list ds) ∨ Dp K H y (.tuple ds)) ∧ SeqAt.shaped d = true ∧ PyData.canLayAll0 ds = true ∧ Q (.bl (if neg then !inSeq d ds else inSeq d ds)) H) ∨
  (∃ (c : Nat) (z : Str), x = V.str ⟨#[c]⟩ ∧ y = V.str z ∧ Q (.bl (if neg then !decide (c ∈ z.cps.toList) else decide (c ∈ z.cps.toList))) H)
theorem room_shaped {A : Around} {xs : List D} {d : D} (hd : SeqAt.shaped d = true) (hu : A.units + 65 < cLine) : A.units + 1 + min (PyData.depthAll xs) d.depth < cLine := by
  have h1 := SeqAt.depth_of_shaped hd
  have h2 : min (PyData.depthAll xs) d.depth ≤ d.depth := Nat.min_le_right _ _
  omega
theorem op_inA (hu : X.A.units + 65 < cLine) : OpR X (compareOp .In) (rInA X.K false) := by
  intro pins s σ H x y v u Q I rx ry h
  rcases h with ⟨d, ds, hd, hy, sd, sc, q⟩ | ⟨c, z, h1, h2, q⟩
  · obtain ⟨as, r1⟩ := Dp.reads I d x v hd rx
    rcases hy with hy | hy
    · obtain ⟨bs, r2⟩ := Dp.reads I _ y u hy ry
      exact SeqAt.in_list_reads r2 r1 sc (SeqAt.canLay_of_shaped sd) (room_shaped sd hu) ⟨.bl _, H, I, rfl, q⟩
    · obtain ⟨bs, r2⟩ := Dp.reads I _ y u hy ry
      exact SeqAt.in_tuple_reads r2 r1 sc (SeqAt.canLay_of_shaped sd) (room_shaped sd hu) ⟨.bl _, H, I, rfl, q⟩
  · exact op_in_sign pins s σ H x y v u Q I rx ry ⟨c, z, h1, h2, q⟩
theorem op_notInA (hu : X.A.units + 65 < cLine) : OpR X (compareOp .NotIn) (rInA X.K true) := by
  intro pins s σ H x y v u Q I rx ry h
  rcases h with ⟨d, ds, hd, hy, sd, sc, q⟩ | ⟨c, z, h1, h2, q⟩
  · obtain ⟨as, r1⟩ := Dp.reads I d x v hd rx
    rcases hy with hy | hy
    · obtain ⟨bs, r2⟩ := Dp.reads I _ y u hy ry
      exact SeqAt.notIn_list_reads r2 r1 sc (SeqAt.canLay_of_shaped sd) (room_shaped sd hu) ⟨.bl _, H, I, rfl, q⟩
    · obtain ⟨bs, r2⟩ := Dp.reads I _ y u hy ry
      exact SeqAt.notIn_tuple_reads r2 r1 sc (SeqAt.canLay_of_shaped sd) (room_shaped sd hu) ⟨.bl _, H, I, rfl, q⟩
  · exact op_notIn_sign pins s σ H x y v u Q I rx ry ⟨c, z, h1, h2, q⟩
theorem in_shape {x c r : D} (neg : Bool) (h : inD x c = some r) : ∃ b, r = .bool b ∧ ∀ {G H : Hp} {xv y : V} {Q : VK}, Same G H → Rp K G xv x → Rp K G y c → Q (.bl (if neg then !b else b)) H → rInA K neg xv y H Q := by
  unfold inD at h
  split at h
  · rename_i ds
    split at h
    · rename_i hz
      cases h
      exact ⟨_, rfl, fun {G H xv y Q} s rx ry q => .inl ⟨x, ds, dpm (rx.dep hz.1) s, .inl (dpm (ry.dep hz.2) s), dep_shaped hz.1, dep_all hz.2, q⟩⟩
    · cases h
  · rename_i ds
    split at h
    · rename_i hz
      cases h
      exact ⟨_, rfl, fun {G H xv y Q} s rx ry q => .inl ⟨x, ds, dpm (rx.dep hz.1) s, .inr (dpm (ry.dep hz.2) s), dep_shaped hz.1, dep_allT hz.2, q⟩⟩
    · cases h
  · rename_i z
    split at h
    · rename_i y
      rw [Option.map_eq_some_iff] at h
      obtain ⟨c, hc, rfl⟩ := h
      refine ⟨_, rfl, fun {G H xv y' Q} s rx ry q => ?_⟩
      cases rx
      cases ry
      rw [signOf_eq hc]
      exact .inr ⟨c, z, rfl, rfl, q⟩
    · cases h
  · cases h
theorem v_in : Op2 K (rInA K false) inD := fun G H x y dx dy d Q sub rx ry e q => by
  obtain ⟨b, rfl, h⟩ := in_shape (K := K) false e
  exact h sub rx ry (q G H _ (Grow.refl sub) (.bl _))
theorem v_notIn : Op2 K (rInA K true) notInD := fun G H x y dx dy d Q sub rx ry e q => by
  unfold notInD at e
  split at e
  · rename_i b eb
    cases e
    obtain ⟨b', hb, h⟩ := in_shape (K := K) true eb
    cases hb
    exact h sub rx ry (q G H _ (Grow.refl sub) (.bl _))
  · cases e
end
end Hz

namespace Hz
open PySem PySem.Spec PyProof.Rows L2

/-! ### what is walked -/
def Items (K : PySem.W.Frag) (G0 : Hp) (J : It) (items : List D) : Prop := ∀ (i : Nat) (G H : Hp), Same G0 G → Same G H →
  (∀ d, items[i]? = some d → J.go i H ∧ ∀ x H', J.yld i H x H' → ∃ G2, Grow G H G2 H' ∧ Rp K G2 x d) ∧ (items[i]? = none → J.stop i H)
theorem Items.mono {K : PySem.W.Frag} {G0 G1 : Hp} {J : It} {items : List D} (h : Items K G0 J items) (e : Same G0 G1) : Items K G1 J items := fun i G H s1 s2 => h i G H (e.trans s1) s2
def EvIt (K : PySem.W.Frag) (tw : List Nat) (own : List Nat) (W : WX) (cl : Nat → Addr) (t : TI) (f : Env → R (List D × Env)) : Prop :=
  ∀ (H0 : Hp) (P : Par) (G : Hp) (env : Env) (σ : L2.St) (H : Hp) (Q : It → Hp → Prop), P.1.map (·.1) = tw → StOk K H0 P own G env σ H →
    Ans (f env) (fun a => ∀ G' H' J, Gr H0 G G' → StOk K H0 P own G' a.2 σ H' → Items K G' J a.1 → Q J H') (fun c => ∀ H', Frm H0 P H' → W (.ref (cl c)) none σ H') → t σ H Q
structure DIt (X : Cx) (tw : List Nat) (own : List Nat) (W : WX) (cl : Nat → Addr) (tg iter : Expr) (t : TI) (f : Env → R (List D × Env)) : Prop where
  pi : PI X tg iter t
  ev : EvIt X.K tw own W cl t f
def EvG (K : PySem.W.Frag) (own sl : List Nat) (g : TG) (b : D → Env → Option Env) : Prop :=
  ∀ (H0 : Hp) (P : Par) (G : Hp) (env : Env) (σ : L2.St) (H : Hp) (v : V) (d : D) (env' : Env) (Q : L2.St → Hp → Prop), StOk K H0 P own G env σ H → Rp K G v d → b d env = some env' →
    (∀ σ', StOk K H0 P own G env' σ' H → σ'.length = σ.length → (∀ j, j ∉ sl → σ'[j]? = σ[j]?) → Q σ' H) → g v σ H Q
def EvGs (K : PySem.W.Frag) (own sl : List Nat) (g : TGs) (b : List D → Env → Option Env) : Prop :=
  ∀ (H0 : Hp) (P : Par) (G : Hp) (env : Env) (σ : L2.St) (H : Hp) (vs : List V) (ds : List D) (env' : Env) (Q : L2.St → Hp → Prop), StOk K H0 P own G env σ H → RpA K G vs ds → b ds env = some env' →
    (∀ σ', StOk K H0 P own G env' σ' H → σ'.length = σ.length → (∀ j, j ∉ sl → σ'[j]? = σ[j]?) → Q σ' H) → g vs σ H Q
structure DG (X : Cx) (own sl : List Nat) (tg : Expr) (g : TG) (b : D → Env → Option Env) : Prop where
  pg : PG X tg g
  ev : EvG X.K own sl g b
structure DGs (X : Cx) (own sl : List Nat) (tg : List Expr) (g : TGs) (b : List D → Env → Option Env) : Prop where
  pg : PGs X tg g
  ev : EvGs X.K own sl g b
def bName (i : Nat) : D → Env → Option Env := fun d e => some (e.set i (some d))
def bNil : List D → Env → Option Env
  | [], e => some e
  | _, _ => none
def bCons (b : D → Env → Option Env) (c : List D → Env → Option Env) : List D → Env → Option Env
  | d :: ds, e => (b d e).bind (c ds)
  | [], _ => none
def bTup (n : Nat) (c : List D → Env → Option Env) : D → Env → Option Env
  | .tuple ds, e => if ds.length = n then c ds e else none
  | _, _ => none
section
variable {K : PySem.W.Frag} {own sl sl' : List Nat}
theorem EvG.name {i : Nat} (hi : i ∉ own) : EvG K own [i] (gName i) (bName i) := fun H0 P G env σ H v d env' Q ok r e q => by
  cases e
  exact q _ (ok.set r hi) (by simp) fun j hj => List.getElem?_set_ne fun z => hj (by simp [z])
theorem EvGs.nil : EvGs K own [] gNil bNil := fun H0 P G env σ H vs ds env' Q ok r e q => by
  cases r with
  | nil =>
    cases e
    exact ⟨rfl, q σ ok rfl fun _ _ => rfl⟩
  | cons _ _ => cases e
theorem EvGs.cons {g : TG} {gs : TGs} {b : D → Env → Option Env} {c : List D → Env → Option Env} (h : EvG K own sl g b) (hs : EvGs K own sl' gs c) : EvGs K own (sl ++ sl') (gCons g gs) (bCons b c) := fun H0 P G env σ H vs ds env' Q ok r e q => by
  cases r with
  | nil => cases e
  | @cons v vs d ds r rr =>
    obtain ⟨e1, h1, h2⟩ := Option.bind_eq_some_iff.mp (show (b d env).bind (c ds) = some env' from e)
    refine ⟨v, vs, rfl, h H0 P G env σ H v d e1 _ ok r h1 fun σ1 ok1 l1 s1 => ?_⟩
    refine hs H0 P G e1 σ1 H vs ds env' _ ok1 rr h2 fun σ2 ok2 l2 s2 => q σ2 ok2 (l2.trans l1) fun j hj => ?_
    exact (s2 j fun z => hj (List.mem_append_right _ z)).trans (s1 j fun z => hj (List.mem_append_left _ z))
theorem EvG.tup {n : Nat} {gs : TGs} {c : List D → Env → Option Env} (hs : EvGs K own sl gs c) : EvG K own sl (gTup K n gs) (bTup n c) := fun H0 P G env σ H v d env' Q ok r e q => by
  cases r with
  | @tup a xs ds h1 a1 =>
    simp only [bTup] at e
    split at e
    · rename_i hl
      exact ⟨a, xs, rfl, Same.sqT ok.sub h1, a1.length.trans hl, hs H0 P G env σ H xs ds env' Q ok a1 e q⟩
    · cases e
  | _ => cases e
end
section
variable {X : Cx} {own sl sl' : List Nat} {pos : Pos}
theorem dg_name (i : Nat) {x : Str} (nd : X.N.Nodup) (hi : i ∉ own := by decide) (hx : Loc X.env.scope x := by first | exact Or.inl rfl | exact Or.inr rfl) (hN : X.N[i]? = some x := by rfl) (hf : X.fn x = true ∨ X.env.scope.names.lookup x = some .local := by first | exact .inl rfl | exact .inr rfl) : DG X own [i] (.Name x pos) (gName i) (bName i) :=
  ⟨pg_name nd hN hx hf, EvG.name hi⟩
theorem dgs_nil : DGs X own [] [] gNil bNil := ⟨pgs_nil, EvGs.nil⟩
theorem dgs_cons {e : Expr} {es : List Expr} {g : TG} {gs : TGs} {b : D → Env → Option Env} {c : List D → Env → Option Env} (h : DG X own sl e g b) (hs : DGs X own sl' es gs c) (hh : (assignEach (e :: es) X.env).map (·.2) = assign e X.env :: (assignEach es X.env).map (·.2) := by rfl) : DGs X own (sl ++ sl') (e :: es) (gCons g gs) (bCons b c) :=
  ⟨pgs_cons h.pg hs.pg hh, EvGs.cons h.ev hs.ev⟩
theorem dg_tup {es : List Expr} {k n : Nat} {gs : TGs} {c : List D → Env → Option Env} (hs : DGs X own sl es gs c) (hc : X.calm = true := by rfl) (hn : (assignEach es X.env).length = n := by rfl) (hst : (assignEach es X.env).findIdx? (·.1) = none := by rfl) : DG X own sl (.Tuple es k pos) (gTup X.K n gs) (bTup n c) :=
  ⟨pg_tup hc hs.pg hn hst, EvG.tup hs.ev⟩
end

/-! ### loops -/
def forL (b : D → Env → Option Env) (body : Env → R (Fl × Env)) : List D → Env → R (Fl × Env)
  | [], e => .ok (.nx, e)
  | d :: ds, e => (lift (b d e)).bind fun e1 => (body e1).bind fun r => match r.1 with
    | .nx => forL b body ds r.2
    | .ct => forL b body ds r.2
    | .bk => .ok (.nx, r.2)
    | .rt d => .ok (.rt d, r.2)
def forS (fi : Env → R (List D × Env)) (b : D → Env → Option Env) (body : Env → R (Fl × Env)) : Env → R (Fl × Env) := fun e => (fi e).bind fun x => forL b body x.1 x.2
def whileL (c : Env → R (Bool × Env)) (body : Env → R (Fl × Env)) : Nat → Env → R (Fl × Env)
  | 0, _ => .bad
  | n + 1, e => (c e).bind fun x => if x.1 = true then (body x.2).bind fun r => match r.1 with
      | .nx => whileL c body n r.2
      | .ct => whileL c body n r.2
      | .bk => .ok (.nx, r.2)
      | .rt d => .ok (.rt d, r.2)
    else .ok (.nx, x.2)
def fuel : Nat := 1000000
def whileS (c : Env → R (Bool × Env)) (body : Env → R (Fl × Env)) : Env → R (Fl × Env) := fun e => whileL c body fuel e

section
variable {K : PySem.W.Frag} {tw : List Nat} {own : List Nat} {W : WX} {cl : Nat → Addr}
def Aft (K : PySem.W.Frag) (tw : List Nat) (oN oL : List Nat) (H0 : Hp) (P : Par) (G : Hp) (E : Ends) (a : Fl × Env) : Prop := match a.1 with
  | .nx => ∀ G' σ' H', Gr H0 G G' → StOk K H0 P oN G' a.2 σ' H' → E.nx σ' H'
  | .rt d => ∀ G' σ' H' v, Gr H0 G G' → StOk K H0 P tw G' a.2 σ' H' → Rp K G' v d → E.rt v H'
  | .bk => ∀ G' σ' H', Gr H0 G G' → StOk K H0 P oL G' a.2 σ' H' → E.bk σ' H'
  | .ct => ∀ G' σ' H', Gr H0 G G' → StOk K H0 P oL G' a.2 σ' H' → E.ct σ' H'
theorem Aft.gr {oN oL : List Nat} {H0 : Hp} {P : Par} {G G1 : Hp} {E : Ends} {a : Fl × Env} (h : Aft K tw oN oL H0 P G E a) (g : Gr H0 G G1) : Aft K tw oN oL H0 P G1 E a := by
  obtain ⟨f, e⟩ := a
  cases f with
  | nx => exact fun G' σ' H' g' => h G' σ' H' (g.trans g')
  | rt d => exact fun G' σ' H' v g' => h G' σ' H' v (g.trans g')
  | bk => exact fun G' σ' H' g' => h G' σ' H' (g.trans g')
  | ct => exact fun G' σ' H' g' => h G' σ' H' (g.trans g')
theorem EvS.of {own oN oL : List Nat} {t : TS} {f : Env → R (Fl × Env)} (h : ∀ (H0 : Hp) (P : Par) (G : Hp) (env : Env) (σ : L2.St) (H : Hp) (E : Ends), P.1.map (·.1) = tw → StOk K H0 P own G env σ H →
    Ans (f env) (Aft K tw oN oL H0 P G E) (fun c => ∀ (σ' : L2.St) (H' : Hp), σ'.length = P.2 → Frm H0 P H' → W (.ref (cl c)) none σ' H') → t E σ H) : EvS K tw own oN oL W cl t f := h
theorem EvS.run {own oN oL : List Nat} {t : TS} {f : Env → R (Fl × Env)} (h : EvS K tw own oN oL W cl t f) {H0 : Hp} {P : Par} {G : Hp} {env : Env} {σ : L2.St} {H : Hp} {E : Ends} (hp : P.1.map (·.1) = tw) (ok : StOk K H0 P own G env σ H)
    (a : Ans (f env) (Aft K tw oN oL H0 P G E) (fun c => ∀ (σ' : L2.St) (H' : Hp), σ'.length = P.2 → Frm H0 P H' → W (.ref (cl c)) none σ' H')) : t E σ H := h H0 P G env σ H E hp ok a

theorem EvS.for {sl : List Nat} {oL : List Nat} {wi : TI} {g : TG} {tb : TS} {fi : Env → R (List D × Env)} {b : D → Env → Option Env} {body : Env → R (Fl × Env)} (hi : EvIt K tw own W cl wi fi) (hg : EvG K own sl g b) (hb : EvS K tw own own own W cl tb body) :
    EvS K tw own own oL W cl (tFor wi g tb) (forS fi b body) := EvS.of fun H0 P G env σ H E hp ok ans => by
  refine hi H0 P G env σ H _ hp ok (ans.bind.mono (fun a ha' G1 H1 J g1 ok1 its => ?_) fun c h H' fr => h σ H' ok.ln fr)
  refine ⟨fun i m σ' H' => m = a.1.length - i ∧ i ≤ a.1.length ∧ ∃ G' env', Gr H0 G1 G' ∧ StOk K H0 P own G' env' σ' H' ∧ Ans (forL b body (a.1.drop i) env') (Aft K tw own oL H0 P G E) (fun c => ∀ (σ' : L2.St) (H' : Hp), σ'.length = P.2 → Frm H0 P H' → W (.ref (cl c)) none σ' H'),
    ⟨_, rfl, Nat.zero_le _, G1, a.2, Gr.refl, ok1, by rw [List.drop_zero]; exact ha'⟩, ?_⟩
  rintro i m σ2 H2 ⟨rfl, hle, G2, env2, g2, ok2, an⟩
  obtain ⟨hgo, hstop⟩ := its i G2 H2 g2.1 ok2.sub
  cases hd : a.1[i]? with
  | none =>
    have z : a.1.drop i = [] := List.drop_eq_nil_of_le (List.getElem?_eq_none_iff.mp hd)
    rw [z] at an
    exact .inl ⟨hstop hd, an G2 σ2 H2 (g1.trans g2) ok2⟩
  | some d =>
    have hlt := lt_of_get hd
    have z : a.1.drop i = d :: a.1.drop (i + 1) := by
      rw [List.drop_eq_getElem_cons hlt]
      congr 1
      exact Option.some.inj ((List.getElem?_eq_getElem hlt).symm.trans hd)
    rw [z] at an
    obtain ⟨go, yl⟩ := hgo d hd
    obtain ⟨e1, eb, an1⟩ := ans_lift an
    refine .inr ⟨go, fun σ' H' => i + 1 ≤ a.1.length ∧ ∃ G' env', Gr H0 G1 G' ∧ StOk K H0 P own G' env' σ' H' ∧ Ans (forL b body (a.1.drop (i + 1)) env') (Aft K tw own oL H0 P G E) (fun c => ∀ (σ' : L2.St) (H' : Hp), σ'.length = P.2 → Frm H0 P H' → W (.ref (cl c)) none σ' H'),
      fun σ' H' ⟨h1, h3⟩ => ⟨a.1.length - (i + 1), by omega, rfl, h1, h3⟩, fun x H3 y => ?_⟩
    obtain ⟨G3, gg, rx⟩ := yl x H3 y
    have ok3 := ok2.grow gg
    have g3 : Gr H0 G1 G3 := g2.trans (gg.gr ok2)
    refine hg H0 P G3 env2 σ2 H3 x d e1 _ ok3 rx eb fun σ4 ok4 l4 _ => ?_
    refine hb.run hp ok4 (an1.bind.mono (fun r hr => ?_) fun c h => h)
    obtain ⟨fl, e5⟩ := r
    cases fl with
    | nx => exact fun G5 σ5 H5 g5 ok5 => ⟨hlt, G5, e5, g3.trans g5, ok5, hr⟩
    | ct => exact fun G5 σ5 H5 g5 ok5 => ⟨hlt, G5, e5, g3.trans g5, ok5, hr⟩
    | bk => exact fun G5 σ5 H5 g5 ok5 => hr G5 σ5 H5 ((g1.trans g3).trans g5) ok5
    | rt d' => exact fun G5 σ5 H5 v g5 ok5 rv => hr G5 σ5 H5 v ((g1.trans g3).trans g5) ok5 rv
theorem EvS.while {oL : List Nat} {c : TT} {tb : TS} {fc : Env → R (Bool × Env)} {body : Env → R (Fl × Env)} (hc : EvT K tw own W cl c fc) (hb : EvS K tw own own own W cl tb body) : EvS K tw own own oL W cl (tWhile c tb) (whileS fc body) := EvS.of fun H0 P G env σ H E hp ok ans => by
  refine ⟨fun m σ' H' => ∃ G' env', Gr H0 G G' ∧ StOk K H0 P own G' env' σ' H' ∧ Ans (whileL fc body m env') (Aft K tw own oL H0 P G E) (fun c => ∀ (σ' : L2.St) (H' : Hp), σ'.length = P.2 → Frm H0 P H' → W (.ref (cl c)) none σ' H'), ⟨fuel, G, env, Gr.refl, ok, ans⟩, ?_⟩
  rintro m σ1 H1 ⟨G1, env1, g1, ok1, an⟩
  cases m with
  | zero => exact an.elim
  | succ m =>
    refine hc H0 P G1 env1 σ1 H1 _ hp ok1 ((show Ans ((fc env1).bind fun x => if x.1 = true then (body x.2).bind fun r => match r.1 with | .nx => whileL fc body m r.2 | .ct => whileL fc body m r.2 | .bk => .ok (.nx, r.2) | .rt d => .ok (.rt d, r.2) else .ok (.nx, x.2)) _ _ from an).bind.mono (fun a ha G2 H2 g2 ok2 => ?_) fun c h H' fr => h σ1 H' ok1.ln fr)
    obtain ⟨b, e2⟩ := a
    cases b with
    | true =>
      refine ⟨fun σ' H' => ∃ G' env', Gr H0 G G' ∧ StOk K H0 P own G' env' σ' H' ∧ Ans (whileL fc body m env') (Aft K tw own oL H0 P G E) (fun c => ∀ (σ' : L2.St) (H' : Hp), σ'.length = P.2 → Frm H0 P H' → W (.ref (cl c)) none σ' H'), fun σ' H' h => ⟨m, Nat.lt_succ_self _, h⟩, ?_⟩
      refine hb.run hp ok2 ((Ans.bind ha).mono (fun r hr => ?_) fun c h => h)
      have g12 := g1.trans g2
      obtain ⟨fl, e5⟩ := r
      cases fl with
      | nx => exact fun G5 σ5 H5 g5 ok5 => ⟨G5, e5, g12.trans g5, ok5, hr⟩
      | ct => exact fun G5 σ5 H5 g5 ok5 => ⟨G5, e5, g12.trans g5, ok5, hr⟩
      | bk => exact fun G5 σ5 H5 g5 ok5 => hr G5 σ5 H5 (g12.trans g5) ok5
      | rt d' => exact fun G5 σ5 H5 v g5 ok5 rv => hr G5 σ5 H5 v (g12.trans g5) ok5 rv
    | false => exact ha G2 σ1 H2 (g1.trans g2) ok2
end

/-! ### blocks and small statements -/
def seqS (f g : Env → R (Fl × Env)) : Env → R (Fl × Env) := fun e => (f e).bind fun r => match r.1 with
  | .nx => g r.2
  | _ => .ok r
def nextS : Env → R (Fl × Env) := fun e => .ok (.nx, e)
def setS (i : Nat) (a : Env → R (D × Env)) : Env → R (Fl × Env) := fun e => (a e).bind fun x => .ok (.nx, x.2.set i (some x.1))
def setO (i : Nat) (a : Env → R (D × Env)) : Env → R (Fl × Env) := fun e => (a e).bind fun x => if i < x.2.length then .ok (.nx, x.2.set i (some x.1)) else .bad
def asgS (b : D → Env → Option Env) (a : Env → R (D × Env)) : Env → R (Fl × Env) := fun e => (a e).bind fun x => (lift (b x.1 x.2)).bind fun e' => .ok (.nx, e')
def exprS (a : Env → R (D × Env)) : Env → R (Fl × Env) := fun e => (a e).bind fun x => .ok (.nx, x.2)
def retS (a : Env → R (D × Env)) : Env → R (Fl × Env) := fun e => (a e).bind fun x => .ok (.rt x.1, x.2)
def retN : Env → R (Fl × Env) := fun e => .ok (.rt .none, e)
def ifS (c : Env → R (Bool × Env)) (f g : Env → R (Fl × Env)) : Env → R (Fl × Env) := fun e => (c e).bind fun x => if x.1 = true then f x.2 else g x.2
def raiseS (k : Nat) : Env → R (Fl × Env) := fun _ => .err k
def EvN (K : PySem.W.Frag) (tw : List Nat) (own : List Nat) (W : WX) (cl : Nat → Addr) (t : TE) (f : Env → R (D × Env)) : Prop :=
  ∀ (H0 : Hp) (P : Par) (G : Hp) (env : Env) (σ : L2.St) (H : Hp) (Q : VK), P.1.map (·.1) = tw → StOk K H0 P own G env σ H →
    Ans (f env) (fun a => ∀ G' H1 p o, Gr H0 G G' → StOk K H0 P own G' a.2 σ H1 → H1 p = none → Cell K G' (upd H1 p o) p a.1 → Q (.ref p) (upd H1 p o)) (fun c => ∀ H', Frm H0 P H' → W (.ref (cl c)) none σ H') → t σ H Q
structure DN (X : Cx) (tw : List Nat) (own : List Nat) (W : WX) (cl : Nat → Addr) (e : Expr) (t : TE) (f : Env → R (D × Env)) : Prop where
  pe : PE X e t
  ev : EvN X.K tw own W cl t f

section
variable {K : PySem.W.Frag} {tw : List Nat} {own own' oN oL : List Nat} {W : WX} {cl : Nat → Addr} {t u : TS} {f g : Env → R (Fl × Env)} {te : TE} {fe : Env → R (D × Env)}
theorem EvS.seq {oM : List Nat} (h1 : EvS K tw own oM oL W cl t f) (h2 : EvS K tw oM oN oL W cl u g) : EvS K tw own oN oL W cl (tSeq t u) (seqS f g) := EvS.of fun H0 P G env σ H E hp ok ans => by
  refine h1.run hp ok (ans.bind.mono (fun r hr => ?_) fun c h => h)
  obtain ⟨fl, e⟩ := r
  cases fl with
  | nx => exact fun G' σ' H' g' ok' => h2.run hp ok' (Ans.mono hr (fun a h => h.gr g') fun c h => h)
  | rt d => exact hr
  | bk => exact hr
  | ct => exact hr
theorem EvS.next : EvS K tw own own oL W cl tNext nextS := EvS.of fun H0 P G env σ H E hp ok ans => ans G σ H Gr.refl ok
theorem EvS.set {i : Nat} (hi : i ∉ own) (h : EvI K tw own W cl te fe) : EvS K tw own own oL W cl (tAsg te (gName i)) (setS i fe) := EvS.of fun H0 P G env σ H E hp ok ans => by
  refine h H0 P G env σ H _ hp ok (ans.bind.mono (fun a ha G1 H1 x g1 ok1 rx => ?_) fun c h H' fr => h σ H' ok.ln fr)
  exact ha G1 _ H1 g1 (ok1.set rx hi)
theorem par_ne {P : Par} {i : Nat} (hp : P.1.map (·.1) = tw) (ht : i ∉ tw) : i ∉ P.1.map (·.1) := by rw [hp]; exact ht
theorem EvS.setO {i : Nat} (ht : i ∉ tw) (h : EvN K tw own W cl te fe) : EvS K tw own (i :: own) oL W cl (tAsg te (gName i)) (setO i fe) := EvS.of fun H0 P G env σ H E hp ok ans => by
  refine h H0 P G env σ H _ hp ok (ans.bind.mono (fun a ha G1 H1 p o g1 ok1 np c => ?_) fun c h H' fr => h σ H' ok.ln fr)
  by_cases hl : i < a.2.length
  · rw [if_pos hl] at ha
    exact ha G1 _ _ g1 (ok1.give np c (Same.new np) (par_ne hp ht) hl)
  · rw [if_neg hl] at ha
    exact ha.elim
theorem EvS.drop (h : EvI K tw own W cl te fe) : EvS K tw own own oL W cl (tDrop te) (exprS fe) := EvS.of fun H0 P G env σ H E hp ok ans => by
  refine h H0 P G env σ H _ hp ok (ans.bind.mono (fun a ha G1 H1 x g1 ok1 rx => ?_) fun c h H' fr => h σ H' ok.ln fr)
  exact ha G1 σ H1 g1 ok1
theorem StOk.freezeAll {H0 : Hp} {P : Par} {H : Hp} {env : Env} {σ : L2.St} (hp : P.1.map (·.1) = tw) : ∀ (n : Nat) (own : List Nat) (G : Hp), own.length ≤ n → StOk K H0 P own G env σ H → ∃ G', Gr H0 G G' ∧ StOk K H0 P tw G' env σ H := by
  intro n
  induction n with
  | zero =>
    intro own G hl s
    have : own = [] := List.length_eq_zero_iff.mp (by omega)
    subst this
    have ht : tw = [] := by
      cases h : P.1 with
      | nil => rw [← hp, h]; rfl
      | cons q l => exact absurd (s.par q (by rw [h]; exact List.mem_cons_self)).1 (by simp)
    subst ht
    exact ⟨G, Gr.refl, s⟩
  | succ n ih =>
    intro own G hl s
    by_cases h : ∃ i ∈ own, i ∉ tw
    · obtain ⟨i, hi, ht⟩ := h
      obtain ⟨G1, g1, s1⟩ := s.freeze (i := i) (par_ne hp ht)
      obtain ⟨G2, g2, s2⟩ := ih _ G1 (by
        have h1 : (own.filter (· != i)).length < own.length := by
          have h2 := List.length_filter_lt_length_iff_exists (p := (· != i)) (l := own)
          exact h2.mpr ⟨i, hi, by simp⟩
        omega) s1
      exact ⟨G2, g1.trans g2, s2⟩
    · refine ⟨G, Gr.refl, s.congr fun i => ⟨fun hi => ?_, fun hi => ?_⟩⟩
      · by_cases z : i ∈ tw
        · exact z
        · exact absurd ⟨i, hi, z⟩ h
      · rw [← hp] at hi
        obtain ⟨q, hq, e⟩ := List.mem_map.mp hi
        rw [← e]
        exact (s.par q hq).1
theorem EvS.ret (h : EvI K tw tw W cl te fe) : EvS K tw own oN oL W cl (tRet te) (retS fe) := EvS.of fun H0 P G env σ H E hp ok ans => by
  obtain ⟨G0, g0, ok0⟩ := StOk.freezeAll hp own.length own G (Nat.le_refl _) ok
  refine h H0 P G0 env σ H _ hp ok0 (ans.bind.mono (fun a ha G1 H1 x g1 ok1 rx => ?_) fun c h H' fr => h σ H' ok.ln fr)
  exact ha G1 σ H1 x (g0.trans g1) ok1 rx
theorem EvS.retN : EvS K tw own oN oL W cl tRetN retN := EvS.of fun H0 P G env σ H E hp ok ans => by
  obtain ⟨G0, g0, ok0⟩ := StOk.freezeAll hp own.length own G (Nat.le_refl _) ok
  exact ans G0 σ H .non g0 ok0 .non
theorem EvS.ite {c : TT} {fc : Env → R (Bool × Env)} (hc : EvT K tw own W cl c fc) (h1 : EvS K tw own oN oL W cl t f) (h2 : EvS K tw own oN oL W cl u g) : EvS K tw own oN oL W cl (tIfS c t u) (ifS fc f g) := EvS.of fun H0 P G env σ H E hp ok ans => by
  refine hc H0 P G env σ H _ hp ok (ans.bind.mono (fun a ha G1 H1 g1 ok1 => ?_) fun c h H' fr => h σ H' ok.ln fr)
  obtain ⟨b, e⟩ := a
  cases b with
  | true => exact h1.run hp ok1 (Ans.mono ha (fun a h => h.gr g1) fun c h => h)
  | false => exact h2.run hp ok1 (Ans.mono ha (fun a h => h.gr g1) fun c h => h)
theorem EvS.frz {i : Nat} (ht : i ∉ tw) (h : EvS K tw (own.filter (· != i)) oN oL W cl t f) : EvS K tw own oN oL W cl t f := EvS.of fun H0 P G env σ H E hp ok ans => by
  obtain ⟨G1, g1, ok1⟩ := ok.freeze (i := i) (par_ne hp ht)
  exact h.run hp ok1 (ans.mono (fun a h => h.gr g1) fun c h => h)
theorem EvN.toI (h : EvN K tw own W cl te fe) : EvI K tw own W cl te fe := fun H0 P G env σ H Q hp ok ans => by
  refine h H0 P G env σ H Q hp ok (ans.mono (fun a ha G1 H1 p o g1 ok1 np c => ?_) fun c h => h)
  have gg : Grow G1 H1 (upd G1 p o) (upd H1 p o) := Grow.lay ok1.sub np
  refine ha _ _ _ (g1.trans (gg.gr ok1)) (ok1.grow gg) ?_
  obtain ⟨cg, c⟩ := c
  rcases c with ⟨vs, ds, e, e2, r⟩ | ⟨vs, ds, e, e2, r⟩ | ⟨vs, ds, e, e2, r⟩
  · rw [upd_same] at e2
    cases e2
    rw [e]
    exact .lst upd_same (r.mono gg.gg)
  · rw [upd_same] at e2
    cases e2
    rw [e]
    exact .dic (.inl upd_same) (r.mono gg.gg)
  · rw [upd_same] at e2
    cases e2
    rw [e]
    exact .dit upd_same (r.mono gg.gg)
theorem EvN.lst {tA : TA} {fA : Env → R (List D × Env)} (ha : EvA K tw own W cl tA fA) (hl : ∀ env r, fA env = .ok r → r.1.length ≤ 1000) : EvN K tw own W cl (tLst tA) (lstD fA) := fun H0 P G env σ H Q hp ok ans => by
  refine ha H0 P G env σ H _ hp ok (ans.bind.monoE (fun a e ha' G1 H1 vs g1 ok1 rx => ?_) fun _ h => h)
  refine ⟨by rw [rx.length]; exact sz100 (Nat.le_trans (hl env a e) (by decide)), fun p np => ?_⟩
  exact ha' G1 H1 p _ g1 ok1 np ⟨ok1.sub.free np, .inl ⟨vs, a.1, rfl, upd_same, rx⟩⟩
theorem EvN.dK : EvN K tw own W cl tDNewK (cD (.dict [])) := fun H0 P G env σ H Q hp ok ans p np => ans G H p _ Gr.refl ok np ⟨ok.sub.free np, .inr (.inl ⟨[], [], rfl, upd_same, .nil⟩)⟩
theorem EvN.dT : EvN K tw own W cl tDNewT (cD (.dict [(.bool true, .none)])) := fun H0 P G env σ H Q hp ok ans p np => ans G H p _ Gr.refl ok np ⟨ok.sub.free np, .inr (.inr ⟨[], [], rfl, upd_same, .nil⟩)⟩
end
end Hz

namespace Hz
open PySem PySem.Spec PyProof.Rows L2

/-! ### comprehensions -/
def wipeE (e : Env) : List Nat → Env
  | [] => e
  | v :: vs => (wipeE e vs).set v none
def restE (e0 : Env) : List Nat → Env → Env
  | [], e => e
  | v :: vs, e => (restE e0 vs e).set v (e0.getD v none)
def R.ne {α : Type} : R α → R α
  | .ok a => .ok a
  | _ => .bad
def compL (vs : List Nat) (b : D → Env → Option Env) (c : Env → R (Bool × Env)) (el : Env → R (D × Env)) : List D → Env → R (List D × Env)
  | [], e => .ok ([], e)
  | d :: ds, e => (lift (b d e)).bind fun e1 => (c e1).ne.bind fun x => if x.1 = true then (el x.2).ne.bind fun y => (compL vs b c el ds (wipeE y.2 vs)).bind fun r => .ok (y.1 :: r.1, r.2) else compL vs b c el ds (wipeE x.2 vs)
def compD (fi : Env → R (List D × Env)) (vs : List Nat) (b : D → Env → Option Env) (c : Env → R (Bool × Env)) (el : Env → R (D × Env)) : Env → R (D × Env) := fun e =>
  (fi e).bind fun x => if x.1.length ≤ 1000000 then (compL vs b c el x.1 (wipeE x.2 vs)).ne.bind fun r => .ok (.list r.1, restE x.2 vs r.2) else .bad
def yesT : Env → R (Bool × Env) := fun e => .ok (true, e)

theorem wipeE_length (e : Env) : ∀ vs : List Nat, (wipeE e vs).length = e.length
  | [] => rfl
  | v :: vs => by unfold wipeE; rw [List.length_set, wipeE_length e vs]
theorem wipeE_get {e : Env} {i : Nat} : ∀ {vs : List Nat}, i ∉ vs → (wipeE e vs)[i]? = e[i]?
  | [], _ => rfl
  | v :: vs, h => by
    unfold wipeE
    rw [List.getElem?_set_ne fun z => h (by simp [z]), wipeE_get fun z => h (List.mem_cons_of_mem _ z)]
theorem wipeE_some {e : Env} {i : Nat} {d : D} : ∀ {vs : List Nat}, (wipeE e vs)[i]? = some (some d) → i ∉ vs ∧ e[i]? = some (some d)
  | [], h => ⟨by simp, h⟩
  | v :: vs, h => by
    unfold wipeE at h
    rcases mem_set h with ⟨_, z⟩ | ⟨z, h⟩
    · cases z
    · obtain ⟨h1, h2⟩ := wipeE_some h
      exact ⟨by simp only [List.mem_cons, not_or]; exact ⟨z, h1⟩, h2⟩
theorem restE_length (e0 : Env) : ∀ (vs : List Nat) (e : Env), (restE e0 vs e).length = e.length
  | [], _ => rfl
  | v :: vs, e => by unfold restE; rw [List.length_set, restE_length e0 vs e]
theorem restE_out {e0 : Env} {i : Nat} : ∀ {vs : List Nat} {e : Env}, i ∉ vs → (restE e0 vs e)[i]? = e[i]?
  | [], _, _ => rfl
  | v :: vs, e, h => by
    unfold restE
    rw [List.getElem?_set_ne fun z => h (by simp [z]), restE_out fun z => h (List.mem_cons_of_mem _ z)]
theorem restE_in {e0 : Env} {i : Nat} {d : D} : ∀ {vs : List Nat} {e : Env}, i ∈ vs → (restE e0 vs e)[i]? = some (some d) → e0[i]? = some (some d)
  | [], _, h, _ => by simp at h
  | v :: vs, e, h, q => by
    unfold restE at q
    rcases mem_set q with ⟨z, y⟩ | ⟨z, y⟩
    · subst z
      rw [List.getD_eq_getElem?_getD] at y
      cases hh : e0[i]? with
      | none => rw [hh] at y; cases y
      | some o => rw [hh] at y; rw [show o = some d from y.symm]
    · rcases List.mem_cons.mp h with h | h
      · exact absurd h z
      · exact restE_in h y
theorem wipe_get {σ : L2.St} {i : Nat} : ∀ {vs : List Nat}, i ∉ vs → (wipe σ vs)[i]? = σ[i]?
  | [], _ => rfl
  | v :: vs, h => by
    unfold wipe
    rw [List.getElem?_set_ne fun z => h (by simp [z]), wipe_get fun z => h (List.mem_cons_of_mem _ z)]
theorem wipe_in {σ : L2.St} {i : Nat} : ∀ {vs : List Nat}, i ∈ vs → i < σ.length → (wipe σ vs)[i]? = some none
  | [], h, _ => by simp at h
  | v :: vs, h, hl => by
    unfold wipe
    by_cases z : v = i
    · subst z
      rw [List.getElem?_set_self (by rw [wipe_length]; exact hl)]
    · rw [List.getElem?_set_ne z]
      exact wipe_in ((List.mem_cons.mp h).resolve_left fun y => z y.symm) hl
theorem wipe_eq {σ σ' : L2.St} {vs : List Nat} (hl : σ'.length = σ.length) (h : ∀ j, j ∉ vs → σ'[j]? = σ[j]?) : wipe σ' vs = wipe σ vs := by
  apply List.ext_getElem?
  intro i
  by_cases hi : i ∈ vs
  · by_cases z : i < σ.length
    · rw [wipe_in hi z, wipe_in hi (by rw [hl]; exact z)]
    · rw [List.getElem?_eq_none (by rw [wipe_length]; omega), List.getElem?_eq_none (by rw [wipe_length]; omega)]
  · rw [wipe_get hi, wipe_get hi, h i hi]
theorem wipe_wipe (σ : L2.St) (vs : List Nat) : wipe (wipe σ vs) vs = wipe σ vs := wipe_eq (wipe_length σ vs) fun j hj => wipe_get hj

section
variable {K : PySem.W.Frag} {H0 : Hp} {P : Par} {own : List Nat} {G H : Hp} {env : Env} {σ : L2.St} {vs : List Nat} {p : Addr} {o : HO}
theorem StOk.wipe (s : StOk K H0 P own G env σ H) (hv : ∀ i ∈ vs, i ∉ own) : StOk K H0 P own G (wipeE env vs) (L2.wipe σ vs) H := by
  have ho : ∀ i ∈ own, i ∉ vs := fun i h1 h2 => hv i h2 h1
  refine ⟨s.sub, s.fr, s.dom, by rw [wipeE_length, wipe_length]; exact s.len, fun i d e n => ?_, ?_, fun q hq => ?_, s.isd, by rw [wipe_length]; exact s.ln⟩
  · obtain ⟨h1, h2⟩ := wipeE_some e
    obtain ⟨v, h3, h4⟩ := s.val i d h2 n
    exact ⟨v, by rw [wipe_get h1]; exact h3, h4⟩
  · obtain ⟨f, h1, h2⟩ := s.cel
    refine ⟨f, fun i hi => ?_, h2⟩
    obtain ⟨q, d, e1, e2, c⟩ := h1 i hi
    exact ⟨q, d, by rw [wipeE_get (ho i hi)]; exact e1, by rw [wipe_get (ho i hi)]; exact e2, c⟩
  · obtain ⟨h1, h2⟩ := s.par q hq
    exact ⟨h1, by rw [wipe_get (ho _ h1)]; exact h2⟩
theorem StOk.unwipe {env1 : Env} {G1 H1 : Hp} {H00 : Hp} (s0 : StOk K H00 P own G env σ H) (gg : Same G G1) (s : StOk K H0 P own G1 env1 (L2.wipe σ vs) H1) (hv : ∀ i ∈ vs, i ∉ own) : StOk K H0 P own G1 (restE env vs env1) σ H1 := by
  have ho : ∀ i ∈ own, i ∉ vs := fun i h1 h2 => hv i h2 h1
  refine ⟨s.sub, s.fr, s.dom, by rw [restE_length, s.len, wipe_length], fun i d e n => ?_, ?_, fun q hq => ?_, s.isd, by rw [← wipe_length σ vs]; exact s.ln⟩
  · by_cases hi : i ∈ vs
    · obtain ⟨v, h3, h4⟩ := s0.val i d (restE_in hi e) n
      exact ⟨v, h3, h4.mono gg⟩
    · rw [restE_out hi] at e
      obtain ⟨v, h3, h4⟩ := s.val i d e n
      exact ⟨v, by rw [← wipe_get hi]; exact h3, h4⟩
  · obtain ⟨f, h1, h2⟩ := s.cel
    refine ⟨f, fun i hi => ?_, h2⟩
    obtain ⟨q, d, e1, e2, c⟩ := h1 i hi
    exact ⟨q, d, by rw [restE_out (ho i hi)]; exact e1, by rw [← wipe_get (ho i hi)]; exact e2, c⟩
  · obtain ⟨h1, h2⟩ := s.par q hq
    exact ⟨h1, by rw [← wipe_get (ho _ h1)]; exact h2⟩
end
def WF : WX := fun _ _ _ _ => False
theorem ans_ne {α β : Type} {r : R α} {k : α → R β} {f : β → Prop} {e : Nat → Prop} {e' : Nat → Prop} (h : Ans (r.ne.bind k) f e) : Ans r (fun a => Ans (k a) f e) e' := by
  cases r with
  | ok a => exact h
  | err c => exact h.elim
  | bad => exact h.elim
section
variable {K : PySem.W.Frag} {tw : List Nat} {own sl vs : List Nat} {W : WX} {cl : Nat → Addr}
theorem comp_core {g : TG} {tt : TT} {te : TE} {b : D → Env → Option Env} {c : Env → R (Bool × Env)} {el : Env → R (D × Env)} (hg : EvG K own sl g b) (ht : EvT K tw own WF cl tt c) (he : EvI K tw own WF cl te el)
    (hsl : ∀ i ∈ sl, i ∈ vs) (hv : ∀ i ∈ vs, i ∉ own) {H0 : Hp} {P : Par} {G1 H1 : Hp} {σ : L2.St} {a : List D × Env} {J : It} {Q : VK} {er : Nat → Prop} (hp : P.1.map (·.1) = tw) (ok1 : StOk K H0 P own G1 a.2 σ H1) (its : Items K G1 J a.1)
    (ha : Ans (if a.1.length ≤ 1000000 then (compL vs b c el a.1 (wipeE a.2 vs)).ne.bind fun r => R.ok (PyData.list r.1, restE a.2 vs r.2) else .bad) (fun a => ∀ G' H' p o, Gr H0 G1 G' → StOk K H0 P own G' a.2 σ H' → H' p = none → Cell K G' (upd H' p o) p a.1 → Q (.ref p) (upd H' p o)) er) :
    ∀ D, H1 D = none → ∃ W : Nat → Nat → Hp → Prop, (∃ m, W 0 m (upd H1 D (.lst []))) ∧ ∀ i m H, W i m H →
      (J.stop i H ∧ Q (.ref D) H) ∨ (J.go i H ∧ ∃ Nx : Hp → Prop, (∀ H', Nx H' → ∃ m', m' < m ∧ W (i + 1) m' H') ∧ ∀ x H', J.yld i H x H' → g x (wipe σ vs) H' fun σ2 H2 => wipe σ2 vs = wipe σ vs ∧ tt σ2 H2 fun b H3 =>
        if b = true then te σ2 H3 fun y H4 => ∃ acc, H4 D = some (.lst acc) ∧ acc.length < sizeLine ∧ Nx (upd H4 D (.lst (acc ++ [y]))) else Nx H3) := by
  by_cases hlen' : ¬ a.1.length ≤ 1000000
  · rw [if_neg hlen'] at ha
    exact ha.elim
  have hlen : a.1.length ≤ 1000000 := Decidable.not_not.mp hlen'
  rw [if_pos hlen] at ha
  intro Dl hD
  have h0 : H0 Dl = none := ok1.h0 hD
  have nP : ¬ P.is Dl := ok1.noP h0
  have gD : G1 Dl = none := ok1.sub.free hD
  have ntl : ∀ xs, NT (.lst xs) := fun xs ys z => by cases z
  have okS : StOk K (upd H0 Dl (.lst [])) P own G1 (wipeE a.2 vs) (wipe σ vs) (upd H1 Dl (.lst [])) := (ok1.wipe hv).lay hD
  have grL : ∀ {l : List V} {G' G'' : Hp}, Gr (upd H0 Dl (.lst l)) G' G'' → Gr H0 G' G'' := fun {l G' G''} gr => ⟨gr.1, fun b' o' h' n' => gr.2 b' o' (by rw [upd_ne (ne_of_none h' h0)]; exact h') n'⟩
  refine ⟨fun i m H' => m = a.1.length - i ∧ i ≤ a.1.length ∧ ∃ G' env' accV accD, Gr H0 G1 G' ∧ StOk K (upd H0 Dl (.lst accV)) P own G' env' (wipe σ vs) H' ∧ G' Dl = none ∧ RpA K G' accV accD ∧ accD.length ≤ i ∧
      Ans (compL vs b c el (a.1.drop i) env') (fun r => ∀ G2 H2 p o, Gr H0 G1 G2 → StOk K H0 P own G2 (restE a.2 vs r.2) σ H2 → H2 p = none → Cell K G2 (upd H2 p o) p (.list (accD ++ r.1)) → Q (.ref p) (upd H2 p o)) (fun _ => False),
    ⟨_, rfl, Nat.zero_le _, G1, wipeE a.2 vs, [], [], Gr.refl, okS, gD, .nil, Nat.le_refl _, ?_⟩, ?_⟩
  · rw [List.drop_zero]
    exact ans_ne ha
  · rintro i m H2 ⟨rfl, hle, G2, env2, accV, accD, g2, ok2, gD2, racc, hacc, an⟩
    have hDl : H2 Dl = some (.lst accV) := ok2.fr Dl _ upd_same nP
    obtain ⟨hgo, hstop⟩ := its i G2 H2 g2.1 ok2.sub
    cases hd : a.1[i]? with
    | none =>
      have z : a.1.drop i = [] := List.drop_eq_nil_of_le (List.getElem?_eq_none_iff.mp hd)
      rw [z] at an
      refine .inl ⟨hstop hd, ?_⟩
      have q := an G2 (del H2 Dl) Dl (.lst accV) g2 ((ok1.unwipe g2.1 ok2 hv).del gD2 h0 nP) del_same (by
        rw [upd_del hDl, List.append_nil]
        exact ⟨gD2, .inl ⟨accV, accD, rfl, hDl, racc⟩⟩)
      rw [upd_del hDl] at q
      exact q
    | some d =>
      have hlt := lt_of_get hd
      have z : a.1.drop i = d :: a.1.drop (i + 1) := by
        rw [List.drop_eq_getElem_cons hlt]
        congr 1
        exact Option.some.inj ((List.getElem?_eq_getElem hlt).symm.trans hd)
      rw [z] at an
      obtain ⟨go, yl⟩ := hgo d hd
      obtain ⟨e1, eb, an1⟩ := ans_lift an
      refine .inr ⟨go, fun H' => i + 1 ≤ a.1.length ∧ ∃ G' env' accV accD, Gr H0 G1 G' ∧ StOk K (upd H0 Dl (.lst accV)) P own G' env' (wipe σ vs) H' ∧ G' Dl = none ∧ RpA K G' accV accD ∧ accD.length ≤ i + 1 ∧
          Ans (compL vs b c el (a.1.drop (i + 1)) env') (fun r => ∀ G2 H2 p o, Gr H0 G1 G2 → StOk K H0 P own G2 (restE a.2 vs r.2) σ H2 → H2 p = none → Cell K G2 (upd H2 p o) p (.list (accD ++ r.1)) → Q (.ref p) (upd H2 p o)) (fun _ => False),
        fun H' ⟨h1, h3⟩ => ⟨a.1.length - (i + 1), by omega, rfl, h1, h3⟩, fun x H3 y => ?_⟩
      obtain ⟨G3, gg, rx⟩ := yl x H3 y
      have ok3 := ok2.grow gg
      have g3 : Gr (upd H0 Dl (.lst accV)) G2 G3 := gg.gr ok2
      refine hg _ P G3 env2 (wipe σ vs) H3 x d e1 _ ok3 rx eb fun σ4 ok4 l4 s4 => ?_
      have w4 : wipe σ4 vs = wipe σ vs := by
        rw [← wipe_wipe σ vs]
        exact wipe_eq l4 fun j hj => s4 j fun q => hj (hsl j q)
      refine ⟨w4, ht _ P G3 e1 σ4 H3 _ hp ok4 ((ans_ne an1).mono (fun bb hb G5 H5 g5 ok5 => ?_) fun _ h => h)⟩
      -- the list so far stands, whatever the test and the element did
      have keep : ∀ {G' H' : Hp} {e' : Env}, Gr (upd H0 Dl (.lst accV)) G2 G' → StOk K (upd H0 Dl (.lst accV)) P own G' e' σ4 H' → Gr H0 G1 G' ∧ StOk K (upd H0 Dl (.lst accV)) P own G' (wipeE e' vs) (wipe σ vs) H' ∧ H' Dl = some (.lst accV) ∧ G' Dl = none := fun {G' H' e'} gr ok' => by
        refine ⟨g2.trans (grL gr), ?_, ok'.fr Dl _ upd_same nP, (gr.2 Dl _ upd_same (ntl _)).trans gD2⟩
        have q := ok'.wipe hv
        rw [w4] at q
        exact q
      obtain ⟨bv, e5⟩ := bb
      have g25 := g3.trans g5
      cases bv with
      | true =>
        refine he _ P G5 e5 σ4 H5 _ hp ok5 ((ans_ne hb).mono (fun yy hy G6 H6 v g6 ok6 rv => ?_) fun _ h => h)
        obtain ⟨k1, k2, k3, k4⟩ := keep (g25.trans g6) ok6
        refine ⟨accV, k3, sz100l (by rw [racc.length]; omega), hlt, G6, wipeE yy.2 vs, accV ++ [v], accD ++ [yy.1], k1, k2.side k4 nP (ntl _), k4, (racc.mono (g25.trans g6).1).append (.cons rv .nil), by rw [List.length_append]; simpa using hacc, ?_⟩
        refine (Ans.bind hy).mono (fun r hr => ?_) fun _ h => h
        rw [List.append_assoc]
        exact hr
      | false =>
        obtain ⟨k1, k2, k3, k4⟩ := keep g25 ok5
        exact ⟨hlt, G5, wipeE e5 vs, accV, accD, k1, k2, k4, racc.mono g25.1, by omega, hb⟩
theorem EvN.comp {wi : TI} {g : TG} {tt : TT} {te : TE} {fi : Env → R (List D × Env)} {b : D → Env → Option Env} {c : Env → R (Bool × Env)} {el : Env → R (D × Env)} (hi : EvIt K tw own W cl wi fi) (hg : EvG K own sl g b) (ht : EvT K tw own WF cl tt c) (he : EvI K tw own WF cl te el)
    (hsl : ∀ i ∈ sl, i ∈ vs) (hv : ∀ i ∈ vs, i ∉ own) : EvN K tw own W cl (tLc wi g tt te vs) (compD fi vs b c el) := fun H0 P G env σ H Q hp ok ans => by
  refine hi H0 P G env σ H _ hp ok (ans.bind.mono (fun a ha G1 H1 J g1 ok1 its => ?_) fun _ h => h)
  exact comp_core hg ht he hsl hv hp ok1 its (ha.mono (fun r hr G' H' p o gr => hr G' H' p o (g1.trans gr)) fun _ h => h)
end
end Hz

namespace Hz
open RZ (ItzT iZipA pi_zipA)
open PySem PySem.Spec PyProof.Rows L2

/-! ### what is walked: lists, tuples, texts; ranges; pairs -/
theorem pi_or {X : Cx} {tg iter : Expr} {w1 w2 : TI} (h1 : PI X tg iter w1) (h2 : PI X tg iter w2) : PI X tg iter (fun σ H R => w1 σ H R ∨ w2 σ H R) := ⟨fun pins s σ H R I h => h.elim (h1.run pins s σ H R I) (h2.run pins s σ H R I)⟩
theorem pe_either {X : Cx} {e : Expr} {t1 t2 : TE} (h1 : PE X e t1) (h2 : PE X e t2) : PE X e (fun σ H Q => t1 σ H Q ∨ t2 σ H Q) := ⟨fun pins s σ H R I h => h.elim (h1.run pins s σ H R I) (h2.run pins s σ H R I)⟩
def signsOf (x : Str) : List D := x.cps.toList.map fun c => .str ⟨#[c]⟩
def itemsOf : D → Option (List D)
  | .list ds => some ds
  | .tuple ds => some ds
  | .str x => some (signsOf x)
  | _ => none
def seqI (a : Env → R (D × Env)) : Env → R (List D × Env) := fun e => (a e).bind fun x => (lift (itemsOf x.1)).bind fun ds => .ok (ds, x.2)
def rangeL (a b : Int) : List D := (List.range (b - a).toNat).map fun i => .int (a + (i : Nat))
def rng1 : List D → Option (List D)
  | [.int n] => if n ≤ 1000000 ∧ -1000000 ≤ n then some (rangeL 0 n) else none
  | _ => none
def rng2 : List D → Option (List D)
  | [.int m, .int n] => if n ≤ 1000000 ∧ -1000000 ≤ n ∧ m ≤ 1000000 ∧ -1000000 ≤ m then some (rangeL m n) else none
  | _ => none
def zip2 : List D → Option (List D)
  | [.list xs, .list ys] => if ((xs.zip ys).all fun p => !needN [p.1, p.2]) = true then some ((xs.zip ys).map fun p => .tuple [p.1, p.2]) else none
  | [.tuple xs, .tuple ys] => if ((xs.zip ys).all fun p => !needN [p.1, p.2]) = true then some ((xs.zip ys).map fun p => .tuple [p.1, p.2]) else none
  | _ => none
def argI (g : List D → Option (List D)) (a : Env → R (List D × Env)) : Env → R (List D × Env) := fun e => (a e).bind fun x => (lift (g x.1)).bind fun ds => .ok (ds, x.2)

theorem rng1_inv {l ds : List D} (h : rng1 l = some ds) : ∃ n, l = [.int n] ∧ (n ≤ 1000000 ∧ -1000000 ≤ n) ∧ ds = rangeL 0 n := by
  unfold rng1 at h
  split at h
  · split at h
    · cases h
      exact ⟨_, rfl, by assumption, rfl⟩
    · cases h
  · cases h
theorem rng2_inv {l ds : List D} (h : rng2 l = some ds) : ∃ m n, l = [.int m, .int n] ∧ (n ≤ 1000000 ∧ -1000000 ≤ n ∧ m ≤ 1000000 ∧ -1000000 ≤ m) ∧ ds = rangeL m n := by
  unfold rng2 at h
  split at h
  · split at h
    · cases h
      exact ⟨_, _, rfl, by assumption, rfl⟩
    · cases h
  · cases h
theorem zip2_inv {l ds : List D} (h : zip2 l = some ds) : ∃ xs ys, (l = [.list xs, .list ys] ∨ l = [.tuple xs, .tuple ys]) ∧ (ds = (xs.zip ys).map fun p => .tuple [p.1, p.2]) ∧ ((xs.zip ys).all fun p => !needN [p.1, p.2]) = true := by
  unfold zip2 at h
  split at h
  · split at h
    · cases h
      exact ⟨_, _, .inl rfl, rfl, by assumption⟩
    · cases h
  · split at h
    · cases h
      exact ⟨_, _, .inr rfl, rfl, by assumption⟩
    · cases h
  · cases h
section
variable {K : PySem.W.Frag} {tw : List Nat} {own : List Nat} {W : WX} {cl : Nat → Addr} {te : TE} {fe : Env → R (D × Env)} {ta : TA} {fa : Env → R (List D × Env)}
theorem rp1 {G : Hp} {vs : List V} {d : D} (h : RpA K G vs [d]) : ∃ v, vs = [v] ∧ Rp K G v d := by
  cases h with
  | cons r rr =>
    cases rr
    exact ⟨_, rfl, r⟩
theorem rp2 {G : Hp} {vs : List V} {d e : D} (h : RpA K G vs [d, e]) : ∃ v w, vs = [v, w] ∧ Rp K G v d ∧ Rp K G w e := by
  cases h with
  | cons r rr =>
    obtain ⟨w, rfl, r'⟩ := rp1 rr
    exact ⟨_, _, rfl, r, r'⟩
theorem items_list {G0 : Hp} {a : Addr} {xs : List V} {ds : List D} (h : G0 a = some (.lst xs)) (r : RpA K G0 xs ds) : Items K G0 (Itl K a) ds := fun i G H s1 s2 => by
  have hq : SqL K H a xs := SqL.of (s2 _ _ (s1 _ _ h))
  refine ⟨fun d hd => ?_, fun hn => ⟨xs, hq, ?_⟩⟩
  · obtain ⟨v, hv, rv⟩ := r.get hd
    refine ⟨⟨xs, v, hq, hv⟩, fun x H' y => ?_⟩
    obtain ⟨e, y⟩ := y
    subst e
    have := y xs hq
    rw [hv] at this
    cases this
    exact ⟨G, Grow.refl s2, rv.mono s1⟩
  · rw [r.length]
    exact List.getElem?_eq_none_iff.mp hn
theorem items_tup {G0 : Hp} {a : Addr} {xs : List V} {ds : List D} (h : SqT K G0 a xs) (r : RpA K G0 xs ds) : Items K G0 (Itt K a) ds := fun i G H s1 s2 => by
  have hq : SqT K H a xs := Same.sqT s2 (Same.sqT s1 h)
  refine ⟨fun d hd => ?_, fun hn => ⟨xs, hq, ?_⟩⟩
  · obtain ⟨v, hv, rv⟩ := r.get hd
    refine ⟨⟨xs, v, hq, hv⟩, fun x H' y => ?_⟩
    obtain ⟨e, y⟩ := y
    subst e
    have := y xs hq
    rw [hv] at this
    cases this
    exact ⟨G, Grow.refl s2, rv.mono s1⟩
  · rw [r.length]
    exact List.getElem?_eq_none_iff.mp hn
theorem items_str {G0 : Hp} {x : Str} : Items K G0 (Its x) (signsOf x) := fun i G H s1 s2 => by
  have hl : (signsOf x).length = x.cps.size := by simp [signsOf]
  refine ⟨fun d hd => ?_, fun hn => ?_⟩
  · have hi := lt_of_get hd
    rw [hl] at hi
    refine ⟨hi, fun v H' y => ?_⟩
    obtain ⟨e, c, hc, rfl⟩ := y
    subst e
    refine ⟨G, Grow.refl s2, ?_⟩
    have : d = .str ⟨#[c]⟩ := by
      unfold signsOf at hd
      rw [List.getElem?_map, Array.getElem?_toList, hc] at hd
      exact (Option.some.inj hd).symm
    rw [this]
    exact .str _
  · have := List.getElem?_eq_none_iff.mp hn
    rw [hl] at this
    exact this
theorem items_range {G0 : Hp} {a b : Int} : Items K G0 (Itr a (b - a).toNat) (rangeL a b) := fun i G H s1 s2 => by
  have hl : (rangeL a b).length = (b - a).toNat := by simp [rangeL]
  refine ⟨fun d hd => ?_, fun hn => ?_⟩
  · have hi := lt_of_get hd
    rw [hl] at hi
    refine ⟨hi, fun v H' y => ?_⟩
    obtain ⟨e, rfl⟩ := y
    subst e
    refine ⟨G, Grow.refl s2, ?_⟩
    have : d = .int (a + (i : Nat)) := by
      unfold rangeL at hd
      rw [List.getElem?_map, List.getElem?_range hi] at hd
      exact (Option.some.inj hd).symm
    rw [this]
    exact .int _
  · have := List.getElem?_eq_none_iff.mp hn
    rw [hl] at this
    exact this
def iSeq (K : PySem.W.Frag) (te : TE) : TI := fun σ H R => iList K te σ H R ∨ iTup K te σ H R ∨ iStr te σ H R
theorem EvIt.seq (h : EvI K tw own W cl te fe) : EvIt K tw own W cl (iSeq K te) (seqI fe) := fun H0 P G env σ H Q hp ok ans => by
  have key : ∀ a, fe env = .ok a → iSeq K te σ H Q := fun a ea => by
    unfold seqI at ans
    rw [ea] at ans
    obtain ⟨ds, e, q⟩ := ans_lift (show Ans ((lift (itemsOf a.1)).bind fun ds => R.ok (ds, a.2)) _ _ from ans)
    have run : ∀ (Q' : VK), (∀ G' H' v, Gr H0 G G' → StOk K H0 P own G' a.2 σ H' → Rp K G' v a.1 → Q' v H') → te σ H Q' := fun Q' h' => h H0 P G env σ H Q' hp ok (by rw [ea]; exact h')
    obtain ⟨d, e2⟩ := a
    cases d with
    | list xs =>
      cases e
      refine .inl (run _ fun G' H' v g' ok' r => ?_)
      cases r with
      | lst h1 a1 => exact ⟨_, rfl, ⟨_, SqL.of (ok'.sub _ _ h1)⟩, q G' H' _ g' ok' (items_list h1 a1)⟩
    | tuple xs =>
      cases e
      refine .inr (.inl (run _ fun G' H' v g' ok' r => ?_))
      cases r with
      | tup h1 a1 => exact ⟨_, rfl, ⟨_, Same.sqT ok'.sub h1⟩, q G' H' _ g' ok' (items_tup h1 a1)⟩
    | str x =>
      cases e
      refine .inr (.inr (run _ fun G' H' v g' ok' r => ?_))
      cases r
      exact ⟨x, rfl, q G' H' _ g' ok' items_str⟩
    | _ => cases e
  cases ea : fe env with
  | ok a => exact key a ea
  | bad =>
    unfold seqI at ans
    rw [ea] at ans
    exact ans.elim
  | err c =>
    unfold seqI at ans
    rw [ea] at ans
    exact .inl (h H0 P G env σ H _ hp ok (by rw [ea]; exact ans))
theorem EvIt.rng1 (h : EvA K tw own W cl ta fa) : EvIt K tw own W cl (iRng1 ta) (argI rng1 fa) := fun H0 P G env σ H Q hp ok ans => by
  refine h H0 P G env σ H _ hp ok (ans.bind.mono (fun a ha G1 H1 vs g1 ok1 rx => ?_) fun _ h => h)
  obtain ⟨ds, e, q⟩ := ans_lift ha
  obtain ⟨n, el, hz, rfl⟩ := rng1_inv e
  rw [el] at rx
  obtain ⟨v, rfl, r⟩ := rp1 rx
  cases r
  refine ⟨n, rfl, by omega, by omega, q G1 H1 _ g1 ok1 ?_⟩
  have := items_range (K := K) (G0 := G1) (a := 0) (b := n)
  rw [Int.sub_zero] at this
  exact this
theorem EvIt.rng2 (h : EvA K tw own W cl ta fa) : EvIt K tw own W cl (iRng2 ta) (argI rng2 fa) := fun H0 P G env σ H Q hp ok ans => by
  refine h H0 P G env σ H _ hp ok (ans.bind.mono (fun a ha G1 H1 vs g1 ok1 rx => ?_) fun _ h => h)
  obtain ⟨ds, e, q⟩ := ans_lift ha
  obtain ⟨m, n, el, hz, rfl⟩ := rng2_inv e
  rw [el] at rx
  obtain ⟨v, w, rfl, r, r'⟩ := rp2 rx
  cases r
  cases r'
  exact ⟨m, n, rfl, by omega, q G1 H1 _ g1 ok1 items_range⟩
theorem items_zip {G0 : Hp} {a b : Addr} {xs ys : List V} {ds es : List D} (h : G0 a = some (.lst xs)) (r : RpA K G0 xs ds) (h' : G0 b = some (.lst ys)) (r' : RpA K G0 ys es) (hnn : ((ds.zip es).all fun p => !needN [p.1, p.2]) = true) : Items K G0 (Itz K a b) ((ds.zip es).map fun p => .tuple [p.1, p.2]) := fun i G H s1 s2 => by
  have hq : SqL K H a xs := SqL.of (s2 _ _ (s1 _ _ h))
  have hq' : SqL K H b ys := SqL.of (s2 _ _ (s1 _ _ h'))
  refine ⟨fun d hd => ?_, fun hn => ⟨xs, ys, hq, hq', ?_⟩⟩
  · rw [List.getElem?_map, Option.map_eq_some_iff] at hd
    obtain ⟨⟨d1, d2⟩, hz, rfl⟩ := hd
    obtain ⟨h1, h2⟩ := List.getElem?_zip_eq_some.mp hz
    obtain ⟨v, hv, rv⟩ := r.get h1
    obtain ⟨w, hw, rw'⟩ := r'.get h2
    refine ⟨⟨xs, ys, v, w, hq, hq', hv, hw⟩, fun x H' y => ?_⟩
    obtain ⟨T, x1, x2, rfl, nT, rfl, f1, f2⟩ := y
    have e1 := f1 xs hq
    have e2 := f2 ys hq'
    rw [hv] at e1
    rw [hw] at e2
    cases e1
    cases e2
    have gg : Grow G H (upd G T (.tup [v, w])) (upd H T (.tup [v, w])) := Grow.lay s2 nT
    exact ⟨_, gg, .tup (SqT.of upd_same) (.cons (rv.mono (s1.trans gg.gg)) (.cons (rw'.mono (s1.trans gg.gg)) .nil)) ⟨fun z => (by
      have hz2 := List.all_eq_true.mp hnn _ (List.mem_of_getElem? hz)
      simp only [Bool.not_eq_true'] at hz2
      rw [hz2] at z
      cases z), fun _ => upd_same⟩⟩
  · have := List.getElem?_eq_none_iff.mp hn
    rw [List.length_map, List.length_zip] at this
    rw [r.length, r'.length]
    omega
theorem items_zipT {G0 : Hp} {a b : Addr} {xs ys : List V} {ds es : List D} (h : SqT K G0 a xs) (r : RpA K G0 xs ds) (h' : SqT K G0 b ys) (r' : RpA K G0 ys es) (hnn : ((ds.zip es).all fun p => !needN [p.1, p.2]) = true) : Items K G0 (ItzT K a b) ((ds.zip es).map fun p => .tuple [p.1, p.2]) := fun i G H s1 s2 => by
  have hq : SqT K H a xs := Same.sqT s2 (Same.sqT s1 h)
  have hq' : SqT K H b ys := Same.sqT s2 (Same.sqT s1 h')
  refine ⟨fun d hd => ?_, fun hn => ⟨xs, ys, hq, hq', ?_⟩⟩
  · rw [List.getElem?_map, Option.map_eq_some_iff] at hd
    obtain ⟨⟨d1, d2⟩, hz, rfl⟩ := hd
    obtain ⟨h1, h2⟩ := List.getElem?_zip_eq_some.mp hz
    obtain ⟨v, hv, rv⟩ := r.get h1
    obtain ⟨w, hw, rw'⟩ := r'.get h2
    refine ⟨⟨xs, ys, v, w, hq, hq', hv, hw⟩, fun x H' y => ?_⟩
    obtain ⟨T, x1, x2, rfl, nT, rfl, f1, f2⟩ := y
    have e1 := f1 xs hq
    have e2 := f2 ys hq'
    rw [hv] at e1
    rw [hw] at e2
    cases e1
    cases e2
    have gg : Grow G H (upd G T (.tup [v, w])) (upd H T (.tup [v, w])) := Grow.lay s2 nT
    exact ⟨_, gg, .tup (SqT.of upd_same) (.cons (rv.mono (s1.trans gg.gg)) (.cons (rw'.mono (s1.trans gg.gg)) .nil)) ⟨fun z => (by
      have hz2 := List.all_eq_true.mp hnn _ (List.mem_of_getElem? hz)
      simp only [Bool.not_eq_true'] at hz2
      rw [hz2] at z
      cases z), fun _ => upd_same⟩⟩
  · have := List.getElem?_eq_none_iff.mp hn
    rw [List.length_map, List.length_zip] at this
    rw [r.length, r'.length]
    omega
theorem EvIt.zip2 (h : EvA K tw own W cl ta fa) : EvIt K tw own W cl (iZipA K ta) (argI zip2 fa) := fun H0 P G env σ H Q hp ok ans => by
  refine h H0 P G env σ H _ hp ok (ans.bind.mono (fun a ha G1 H1 vs g1 ok1 rx => ?_) fun _ h => h)
  obtain ⟨ds, e, q⟩ := ans_lift ha
  obtain ⟨xs, ys, el, rfl, hnn⟩ := zip2_inv e
  rcases el with el | el
  · rw [el] at rx
    obtain ⟨v, w, rfl, r, r'⟩ := rp2 rx
    cases r with
    | lst h1 a1 =>
      cases r' with
      | lst h2 a2 => exact ⟨_, _, _, _, rfl, .inl ⟨SqL.of (ok1.sub _ _ h1), SqL.of (ok1.sub _ _ h2), q G1 H1 _ g1 ok1 (items_zip h1 a1 h2 a2 hnn)⟩⟩
  · rw [el] at rx
    obtain ⟨v, w, rfl, r, r'⟩ := rp2 rx
    cases r with
    | tup h1 a1 =>
      cases r' with
      | tup h2 a2 => exact ⟨_, _, _, _, rfl, .inr ⟨Same.sqT ok1.sub h1, Same.sqT ok1.sub h2, q G1 H1 _ g1 ok1 (items_zipT h1 a1 h2 a2 hnn)⟩⟩
end
section
variable {X : Cx} {tw : List Nat} {own : List Nat} {W : WX} {cl : Nat → Addr} {tg a b e : Expr} {p pos tpos : Pos} {te : TE} {fe : Env → R (D × Env)} {ta : TA} {fa : Env → R (List D × Env)}
theorem di_seq (h : DI X tw own W cl e te fe) : DIt X tw own W cl tg e (iSeq X.K te) (seqI fe) := ⟨pi_or (pi_list h.pe) (pi_or (pi_tup h.pe) (pi_str h.pe)), EvIt.seq h.ev⟩
theorem di_rng1 (hm : X.mg "range" = none) (h : DA X tw own W cl [a] ta fa) (hg : Gl X "range" := by rfl) (hs : starEach [a] X.env = [(false, eval a X.env)] := by rfl) : DIt X tw own W cl tg (.Call (.Name "range" p) [a] [] pos) (iRng1 ta) (argI rng1 fa) := ⟨pi_range1 hg hm h.pe hs, EvIt.rng1 h.ev⟩
end
end Hz

namespace Hz
open PySem PySem.Spec PyProof.Rows L2

/-! ### len, items, cuts -/
def lenD : List D → Option D
  | [.list ds] => some (.int (ds.length : Nat))
  | [.tuple ds] => some (.int (ds.length : Nat))
  | [.str x] => if x.length ≤ 1000000 then some (.int (x.length : Nat)) else none
  | [.dict ds] => match scrD (.dict ds) with
    | some xs => some (.int (xs.length : Nat))
    | none => none
  | _ => none
def idxD : D → D → Option D
  | .list ds, .int i => atI ds i
  | .tuple ds, .int i => atI ds i
  | .str x, .int i => if x.length ≤ 1000000 then (atI x.cps.toList i).map fun c => .str ⟨#[c]⟩ else none
  | .dict ds, .int i => match scrD (.dict ds) with
    | some xs => atI xs i
    | none => none
  | _, _ => none
def cutL {α : Type} (xs : List α) (lo hi : Option Int) : List α := (xs.drop (HT.sIx xs.length 0 lo)).take (HT.sIx xs.length xs.length hi - HT.sIx xs.length 0 lo)
def boolsOf : List D → Option (List Bool)
  | [] => some []
  | .bool b :: r => (boolsOf r).map (b :: ·)
  | _ => none
theorem boolsOf_eq : ∀ {ds : List D} {bs : List Bool}, boolsOf ds = some bs → ds = bs.map PyData.bool
  | [], bs, h => by
    cases h
    rfl
  | d :: ds, bs, h => by
    cases d with
    | bool i =>
      simp only [boolsOf, Option.map_eq_some_iff] at h
      obtain ⟨ms, h1, rfl⟩ := h
      rw [boolsOf_eq h1]
      rfl
    | _ => cases h
def allD : List D → Option D
  | [.list ds] => (boolsOf ds).map fun bs => .bool (bs.all id)
  | _ => none
def listD : List D → Option D
  | [.list ds] => some (.list ds)
  | [.tuple ds] => some (.list ds)
  | _ => none
def tupleD : List D → Option D
  | [.list ds] => some (.tuple ds)
  | [.tuple ds] => some (.tuple ds)
  | _ => none
def minD : List D → Option D
  | [.list ds] => match intsOf ds with
    | some (n :: ns) => some (.int (ns.foldl min n))
    | _ => none
  | [.int i, .int j] => some (.int (if j < i then j else i))
  | _ => none
def sumD : List D → Option D
  | [.list ds] => (intsOf ds).map fun ns => .int ns.sum
  | _ => none
theorem atI_rp {K : PySem.W.Frag} {G : Hp} {xs : List V} {ds : List D} {i : Int} {d : D} (r : RpA K G xs ds) (h : atI ds i = some d) : ∃ v, atI xs i = some v ∧ Rp K G v d := by
  unfold atI at h ⊢
  rw [r.length]
  obtain ⟨j, h1, h2⟩ := Option.bind_eq_some_iff.mp h
  obtain ⟨v, hv, rv⟩ := r.get h2
  exact ⟨v, Option.bind_eq_some_iff.mpr ⟨j, h1, hv⟩, rv⟩
theorem scr_inv {ds : List (D × D)} {xs : List D} (h : scrD (.dict ds) = some xs) : ds = [(.none, .list xs)] := by
  unfold scrD at h
  split at h
  · rename_i e
    cases h
    injection e
  · cases h
section
variable {K : PySem.W.Frag} {X : Cx}
theorem scr_rp {G : Hp} {v : V} {ds : List (D × D)} {xs : List D} (h : scrD (.dict ds) = some xs) (r : Rp K G v (.dict ds)) : ∃ (a : Addr) (ns : List Int), v = .ref a ∧ SqL K G a (ns.map V.int) ∧ xs = ns.map PyData.int := by
  cases scr_inv h
  generalize e : (PyData.dict [(PyData.none, PyData.list xs)]) = d at r
  cases r with
  | @scr a ns hq =>
    injection e with e
    injection e with e1 _
    injection e1 with _ e2
    injection e2 with e3
    exact ⟨a, ns, rfl, hq, e3⟩
  | dic h a =>
    injection e with e
    rw [← e] at a
    exact (rpk_no a).elim
  | dit h a =>
    injection e with e
    injection e with e1 e2
    cases e1
  | _ => cases e
def rLen2 (K : PySem.W.Frag) : List V → Hp → VK → Prop := fun xs H Q => (∃ p ys, xs = [V.ref p] ∧ (SqL K H p ys ∨ SqT K H p ys) ∧ Q (.int ys.length) H) ∨ (∃ z, xs = [V.str z] ∧ z.length ≤ sizeLine ∧ Q (.int z.length) H)
theorem call_len2 : CallR X (.builtin "len") (rLen2 X.K) := call_len_seq.or call_len_str
theorem v_len : OpN K (rLen2 K) lenD := fun G H xs ds d Q sub r e q => by
  unfold lenD at e
  split at e
  · cases e
    obtain ⟨v, rfl, rr⟩ := rp1 r
    cases rr with
    | lst h a => exact .inl ⟨_, _, rfl, .inl (SqL.of (sub _ _ h)), by rw [a.length]; exact q G H _ (Grow.refl sub) (.int _)⟩
  · cases e
    obtain ⟨v, rfl, rr⟩ := rp1 r
    cases rr with
    | tup h a => exact .inl ⟨_, _, rfl, .inr (Same.sqT sub h), by rw [a.length]; exact q G H _ (Grow.refl sub) (.int _)⟩
  · split at e
    · cases e
      obtain ⟨v, rfl, rr⟩ := rp1 r
      cases rr
      exact .inr ⟨_, rfl, sz100 (by assumption), q G H _ (Grow.refl sub) (.int _)⟩
    · cases e
  · split at e
    · rename_i xs' hx
      cases e
      obtain ⟨v, rfl, rr⟩ := rp1 r
      obtain ⟨a, ns, rfl, hq, rfl⟩ := scr_rp hx rr
      refine .inl ⟨a, _, rfl, .inl (sub.seq hq), ?_⟩
      have := q G H _ (Grow.refl sub) (.int _)
      rw [List.length_map] at this ⊢
      exact this
    · cases e
  · cases e
theorem v_idx : Op2 K (rIx K) idxD := fun G H x y dx dy d Q sub rx ry e q => by
  cases ry with
  | int i =>
    cases rx with
    | lst h a =>
      obtain ⟨v, hv, rv⟩ := atI_rp a e
      exact .inl ⟨_, _, i, v, rfl, rfl, SqL.of (sub _ _ h), hv, q G H v (Grow.refl sub) rv⟩
    | tup h a =>
      obtain ⟨v, hv, rv⟩ := atI_rp a e
      exact .inr (.inl ⟨_, _, i, v, rfl, rfl, Same.sqT sub h, hv, q G H v (Grow.refl sub) rv⟩)
    | str x =>
      simp only [idxD] at e
      split at e
      · rename_i hz
        rw [Option.map_eq_some_iff] at e
        obtain ⟨c, hc, rfl⟩ := e
        exact .inr (.inr ⟨x, i, c, rfl, rfl, sz100 hz, hc, q G H _ (Grow.refl sub) (.str _)⟩)
      · cases e
    | scr h =>
      rename_i a ns
      have e' : atI (ns.map PyData.int) i = some d := e
      obtain ⟨v, hv, rv⟩ := atI_rp (RpA.of_ints (K := K) (G := G) ns) e'
      exact .inl ⟨_, _, i, v, rfl, rfl, sub.seq h, hv, q G H v (Grow.refl sub) rv⟩
    | @dic a kvs ds h a' =>
      simp only [idxD] at e
      split at e
      · rename_i xs hx
        cases scr_inv hx
        exact (rpk_no a').elim
      · cases e
    | @dit a kvs ds h a' =>
      simp only [idxD] at e
      split at e
      · rename_i xs hx
        cases scr_inv hx
      · cases e
    | _ => cases e
  | _ => cases rx <;> cases e
theorem v_all : OpN K (rAll K) allD := fun G H xs ds d Q sub r e q => by
  unfold allD at e
  split at e
  · rw [Option.map_eq_some_iff] at e
    obtain ⟨bs, hb, rfl⟩ := e
    obtain ⟨v, rfl, rr⟩ := rp1 r
    cases rr with
    | lst h a =>
      cases boolsOf_eq hb
      cases a.bools
      exact ⟨_, bs, rfl, SqL.of (sub _ _ h), q G H _ (Grow.refl sub) (.bl _)⟩
  · cases e
def rListOf (K : PySem.W.Frag) : List V → Hp → VK → Prop := fun xs H Q => ∃ p ys, xs = [V.ref p] ∧ (SqL K H p ys ∨ SqT K H p ys) ∧ ∀ l, H l = none → Q (.ref l) (upd H l (.lst ys))
theorem list_shape {ds : List D} {d : D} (e : listD ds = some d) : ∃ xs, (ds = [.list xs] ∨ ds = [.tuple xs]) ∧ d = .list xs := by
  unfold listD at e
  split at e
  · cases e
    exact ⟨_, .inl rfl, rfl⟩
  · cases e
    exact ⟨_, .inr rfl, rfl⟩
  · cases e
theorem v_tuple : OpN K (rTupOfP K) tupleD := fun G H xs ds d Q sub r e q => by
  unfold tupleD at e
  split at e
  · cases e
    obtain ⟨v, rfl, rr⟩ := rp1 r
    cases rr with
    | lst h a =>
      refine ⟨_, _, rfl, .inl ⟨SqL.of (sub _ _ h), fun l ob nl hd => ?_⟩⟩
      exact q _ _ _ (Grow.lay sub nl) (Rp.lay upd_same hd (a.mono (Grow.lay sub nl).gg))
  · cases e
    obtain ⟨v, rfl, rr⟩ := rp1 r
    cases rr with
    | tup h a n => exact ⟨_, _, rfl, .inr ⟨Same.sqT sub h, q G H _ (Grow.refl sub) (.tup h a n)⟩⟩
  · cases e
theorem foldl_min_mem : ∀ (ns : List Int) (n : Int), ns.foldl min n ∈ n :: ns
  | [], n => by simp
  | m :: ns, n => by
    have h := foldl_min_mem ns (min n m)
    rcases List.mem_cons.mp h with h | h
    · rw [List.foldl_cons, h]
      by_cases z : n ≤ m
      · rw [Int.min_eq_left z]
        simp
      · rw [Int.min_eq_right (by omega)]
        simp
    · rw [List.foldl_cons]
      exact List.mem_cons_of_mem _ (List.mem_cons_of_mem _ h)
theorem foldl_min_le : ∀ (ns : List Int) (n : Int), ∀ y ∈ n :: ns, ns.foldl min n ≤ y
  | [], n, y, h => by
    have : y = n := by simpa using h
    rw [this]
    exact Int.le_refl _
  | m :: ns, n, y, h => by
    rw [List.foldl_cons]
    have ih := foldl_min_le ns (min n m)
    have h1 := ih (min n m) List.mem_cons_self
    rcases List.mem_cons.mp h with h | h
    · have := Int.min_le_left n m
      omega
    · rcases List.mem_cons.mp h with h | h
      · have := Int.min_le_right n m
        omega
      · exact ih y (List.mem_cons_of_mem _ h)
def rMin2 (K : PySem.W.Frag) : List V → Hp → VK → Prop := fun xs H Q => rMin K xs H Q ∨ (∃ i j, xs = [V.int i, V.int j] ∧ Q (.int (if j < i then j else i)) H)
theorem call_minA (hc : X.calm = true) : CallR X (.builtin "min") (rMin2 X.K) := (cr_min hc).or (call_min2 hc)
theorem v_min : OpN K (rMin2 K) minD := fun G H xs ds d Q sub r e q => by
  unfold minD at e
  split at e
  · split at e
    · rename_i ns n ms hb
      cases e
      obtain ⟨v, rfl, rr⟩ := rp1 r
      cases rr with
      | lst h a =>
        cases intsOf_eq hb
        cases a.ints
        refine .inl ⟨_, n :: ms, rfl, SqL.of (sub _ _ h), by simp, fun m hm hl => ?_⟩
        have : m = ms.foldl min n := Int.le_antisymm (hl _ (foldl_min_mem ms n)) (foldl_min_le ms n m hm)
        rw [this]
        exact q G H _ (Grow.refl sub) (.int _)
    · cases e
  · cases e
    obtain ⟨v, w, rfl, rr, r'⟩ := rp2 r
    cases rr
    cases r'
    exact .inr ⟨_, _, rfl, q G H _ (Grow.refl sub) (.int _)⟩
  · cases e
theorem v_sum : OpN K (rSum K) sumD := fun G H xs ds d Q sub r e q => by
  unfold sumD at e
  split at e
  · rw [Option.map_eq_some_iff] at e
    obtain ⟨ns, hb, rfl⟩ := e
    obtain ⟨v, rfl, rr⟩ := rp1 r
    cases rr with
    | lst h a =>
      cases intsOf_eq hb
      cases a.ints
      exact ⟨_, ns, rfl, SqL.of (sub _ _ h), q G H _ (Grow.refl sub) (.int _)⟩
  · cases e
/-! ### isinstance with a built-in class -/
def tyName : D → String
  | .none => "NoneType"
  | .bool _ => "bool"
  | .int _ => "int"
  | .str _ => "str"
  | .list _ => "list"
  | .tuple _ => "tuple"
  | .dict _ => "dict"
def isiD (T : String) : D → Option D
  | .dict _ => none
  | d => (kitB (tyName d) T).map .bool
def tIsi (K : PySem.W.Frag) (T : String) (ta : TE) : TE := tCB (rIsi K) (tCons ta (tCons (tC (.ty T)) tNil))
theorem tyx_of {G H : Hp} {v : V} {d : D} (sub : Same G H) (r : Rp K G v d) (hn : ∀ ds, d ≠ .dict ds) : TyX K H v (.type (tyName d)) := by
  cases r with
  | non => exact .base .non
  | bl b => exact .base (.bl b)
  | int i => exact .base (.int i)
  | str x => exact .base (.str x)
  | lst h a => exact .base (.lst (sub _ _ h))
  | tup h a =>
    rcases h with (h | ⟨o, h⟩) | ⟨o, its, n, hk, hc, _⟩
    · exact .base (.tup (sub _ _ h))
    · exact .fTuple (sub _ _ h)
    · exact .kTuple hk hc
  | scr h => exact absurd rfl (hn _)
  | dic _ _ => exact absurd rfl (hn _)
  | dit _ _ => exact absurd rfl (hn _)
  | ins _ _ _ => exact absurd rfl (hn _)
  | rcd _ _ => exact absurd rfl (hn _)
end
end Hz

namespace Hz
open PySem PySem.Spec PyProof.Rows L2

/-! ### cuts -/
def EvO (K : PySem.W.Frag) (tw : List Nat) (own : List Nat) (W : WX) (cl : Nat → Addr) (t : TO) (f : Env → R (Option Int × Env)) : Prop :=
  ∀ (H0 : Hp) (P : Par) (G : Hp) (env : Env) (σ : L2.St) (H : Hp) (Q : Option Int → Hp → Prop), P.1.map (·.1) = tw → StOk K H0 P own G env σ H →
    Ans (f env) (fun a => ∀ G' H', Gr H0 G G' → StOk K H0 P own G' a.2 σ H' → Q a.1 H') (fun c => ∀ H', Frm H0 P H' → W (.ref (cl c)) none σ H') → t σ H Q
structure DO (X : Cx) (tw : List Nat) (own : List Nat) (W : WX) (cl : Nat → Addr) (e : Option Expr) (t : TO) (f : Env → R (Option Int × Env)) : Prop where
  pe : PO X e t
  ev : EvO X.K tw own W cl t f
def noO : Env → R (Option Int × Env) := fun e => .ok (none, e)
def someO (a : Env → R (D × Env)) : Env → R (Option Int × Env) := fun e => (a e).bind fun x => match x.1 with
  | .int i => .ok (some i, x.2)
  | _ => .bad
def cutD : D → Option Int → Option Int → Option D
  | .list ds, lo, hi => some (.list (cutL ds lo hi))
  | .tuple ds, lo, hi => some (.tuple (cutL ds lo hi))
  | .str x, lo, hi => if x.length ≤ 1000000 then some (.str (cutS x lo hi)) else none
  | _, _, _ => none
def sliceD (a : Env → R (D × Env)) (lo hi : Env → R (Option Int × Env)) : Env → R (D × Env) := fun e => (a e).bind fun x => (lo x.2).bind fun l => (hi l.2).bind fun h => (lift (cutD x.1 l.1 h.1)).bind fun d => .ok (d, h.2)
theorem RpA.cut {K : PySem.W.Frag} {G : Hp} {xs : List V} {ds : List D} (r : RpA K G xs ds) (lo hi : Option Int) : RpA K G (cutV xs lo hi) (cutL ds lo hi) := by
  unfold cutV cutL
  rw [r.length]
  exact (r.drop _).take _
def rCut (K : PySem.W.Frag) : V → Option Int → Option Int → Hp → VK → Prop := fun x lo hi H Q => rSlL K x lo hi H Q ∨ rSlP K x lo hi H Q ∨ rSlS x lo hi H Q
theorem sl_cut {X : Cx} : SlR X (rCut X.K) := sl_list.or (sl_tupP.or sl_str)
theorem v_cut {K : PySem.W.Frag} {G H : Hp} {x : V} {dx d : D} {lo hi : Option Int} {Q : VK} (sub : Same G H) (rx : Rp K G x dx) (e : cutD dx lo hi = some d) (q : ∀ G' H' v, Grow G H G' H' → Rp K G' v d → Q v H') : rCut K x lo hi H Q := by
  cases rx with
  | lst h a =>
    cases e
    exact .inl ⟨_, _, rfl, SqL.of (sub _ _ h), fun p np => q _ _ _ (Grow.lay sub np) (.lst upd_same ((a.cut lo hi).mono (Grow.lay sub np).gg))⟩
  | @tup a' xs ds h a n =>
    cases e
    refine .inr (.inl ⟨_, _, rfl, Same.sqT sub h, fun hw => ?_, fun _ p ob np hd => q _ _ _ (Grow.lay sub np) (Rp.lay upd_same hd ((a.cut lo hi).mono (Grow.lay sub np).gg))⟩)
    have hc : cutL ds lo hi = ds := by
      unfold cutL
      rw [← a.length, hw.1, hw.2, a.length, Nat.sub_zero, List.drop_zero, List.take_length]
    rw [hc] at q
    exact q G H _ (Grow.refl sub) (.tup h a n)
  | str x =>
    simp only [cutD] at e
    split at e
    · cases e
      exact .inr (.inr ⟨x, rfl, sz100 (by assumption), q G H _ (Grow.refl sub) (.str _)⟩)
    · cases e
  | _ => cases e
section
variable {K : PySem.W.Frag} {tw : List Nat} {own : List Nat} {W : WX} {cl : Nat → Addr} {te ta tb : TE} {fe fa fb : Env → R (D × Env)} {to th : TO} {fo fh : Env → R (Option Int × Env)}
theorem EvO.no : EvO K tw own W cl tNoPart noO := fun H0 P G env σ H Q hp ok ans => ans G H Gr.refl ok
theorem EvO.some (h : EvI K tw own W cl te fe) : EvO K tw own W cl (tPart te) (someO fe) := fun H0 P G env σ H Q hp ok ans => by
  refine h H0 P G env σ H _ hp ok (ans.bind.mono (fun a ha G1 H1 x g1 ok1 rx => ?_) fun _ h => h)
  obtain ⟨d, e2⟩ := a
  cases d with
  | int i =>
    cases rx
    exact ⟨i, rfl, ha G1 H1 g1 ok1⟩
  | _ => exact ha.elim
theorem EvI.cut (h : EvI K tw own W cl te fe) (hl : EvO K tw own W cl to fo) (hh : EvO K tw own W cl th fh) : EvI K tw own W cl (tSl (rCut K) te to th) (sliceD fe fo fh) := fun H0 P G env σ H Q hp ok ans => by
  refine h H0 P G env σ H _ hp ok (ans.bind.mono (fun a ha G1 H1 x g1 ok1 rx => ?_) fun _ h => h)
  refine hl H0 P G1 a.2 σ H1 _ hp ok1 (ha.bind.mono (fun b hb G2 H2 g2 ok2 => ?_) fun _ h => h)
  refine hh H0 P G2 b.2 σ H2 _ hp ok2 (hb.bind.mono (fun c hc G3 H3 g3 ok3 => ?_) fun _ h => h)
  obtain ⟨d, e, q⟩ := ans_lift hc
  exact v_cut ok3.sub (rx.mono (g2.trans g3).1) e fun G' H' v gg rv => q G' H' v (((g1.trans g2).trans g3).trans (gg.gr ok3)) (ok3.grow gg) rv
theorem EvI.isi {T : String} (h : EvI K tw own W cl te fe) : EvI K tw own W cl (tIsi K T te) (Hz.op1 (isiD T) fe) := fun H0 P G env σ H Q hp ok ans => by
  refine h H0 P G env σ H _ hp ok (ans.bind.mono (fun a ha G1 H1 x g1 ok1 rx => ?_) fun _ h => h)
  obtain ⟨d, e, q⟩ := ans_lift ha
  have hnd : ∀ ds, a.1 ≠ .dict ds := fun ds z => by
    rw [z] at e
    cases e
  have e' : (kitB (tyName a.1) T).map PyData.bool = Option.some d := by
    obtain ⟨a1, a2⟩ := a
    cases a1 <;> first | exact e | exact absurd rfl (hnd _)
  rw [Option.map_eq_some_iff] at e'
  obtain ⟨b, hb, rfl⟩ := e'
  exact ⟨x, .ty T, _, _, b, rfl, .ty T, tyx_of ok1.sub rx hnd, kit_ty hb, q G1 H1 _ g1 ok1 (.bl b)⟩

/-! ### objects of ours, read and changed in place -/
def ownL (e : Env) (i : Nat) : Option (List D) := match e[i]? with
  | some (some (.list ds)) => some ds
  | _ => none
theorem ownL_eq {e : Env} {i : Nat} {ds : List D} (h : ownL e i = some ds) : e[i]? = some (some (.list ds)) := by
  unfold ownL at h
  split at h
  · rename_i q
    cases h
    exact q
  · cases h
def atomD : D → Bool
  | .none => true
  | .bool _ => true
  | .int _ => true
  | .str _ => true
  | _ => false
theorem Rp.atom {G G' : Hp} {v : V} {d : D} (h : atomD d = true) (r : Rp K G v d) : Rp K G' v d := by
  cases r <;> first | (cases h; done) | skip
  · exact .non
  · exact .bl _
  · exact .int _
  · exact .str _
theorem own_list {H0 : Hp} {P : Par} {G : Hp} {env : Env} {σ : L2.St} {H : Hp} {i : Nat} {ds : List D} (ok : StOk K H0 P own G env σ H) (hi : i ∈ own) (h : ownL env i = some ds) :
    ∃ p vs, σ[i]? = some (some (.ref p)) ∧ H p = some (.lst vs) ∧ G p = none ∧ RpA K G vs ds := by
  obtain ⟨p, e1, c⟩ := ok.celF (ownL_eq h) hi rfl
  obtain ⟨hg, c⟩ := c
  rcases c with ⟨vs, ds', e, e2, r⟩ | ⟨vs, ds', e, e2, r⟩ | ⟨vs, ds', e, e2, r⟩
  · cases e
    exact ⟨p, vs, e1, e2, hg, r⟩
  · cases e
  · cases e
theorem look_frozen {G H : Hp} {p : Addr} {vs : List V} {ds : List D} (sub : Same G H) (hp : H p = some (.lst vs)) (hg : G p = none) (r : RpA K G vs ds) : Same (upd G p (.lst vs)) H ∧ Rp K (upd G p (.lst vs)) (.ref p) (.list ds) ∧ Same G (upd G p (.lst vs)) := by
  have s : Same G (upd G p (.lst vs)) := Same.new hg
  refine ⟨fun a o h => ?_, .lst upd_same (r.mono s), s⟩
  by_cases z : a = p
  · subst z
    rw [upd_same] at h
    exact hp.trans h
  · rw [upd_ne z] at h
    exact sub a o h
def op2OL (g : D → D → Option D) (i : Nat) (b : Env → R (D × Env)) : Env → R (D × Env) := fun e => (b e).bind fun y => (lift (ownL y.2 i)).bind fun ds => (lift (g (.list ds) y.1)).bind fun d => if atomD d = true then .ok (d, y.2) else .bad
def op2OR (g : D → D → Option D) (a : Env → R (D × Env)) (i : Nat) : Env → R (D × Env) := fun e => (a e).bind fun y => (lift (ownL y.2 i)).bind fun ds => (lift (g y.1 (.list ds))).bind fun d => if atomD d = true then .ok (d, y.2) else .bad
def opNO (g : List D → Option D) (i : Nat) : Env → R (D × Env) := fun e => (lift (ownL e i)).bind fun ds => (lift (g [.list ds])).bind fun d => if atomD d = true then .ok (d, e) else .bad
def idxO (i : Nat) (b : Env → R (D × Env)) : Env → R (D × Env) := fun e => (b e).bind fun y => (lift (ownL y.2 i)).bind fun ds => (lift (idxD (.list ds) y.1)).bind fun d => .ok (d, y.2)
theorem slot_of {H0 : Hp} {P : Par} {G : Hp} {env : Env} {σ : L2.St} {H : Hp} {i : Nat} (ok : StOk K H0 P own G env σ H) (hi : i ∈ own) : ∃ p, σ[i]? = some (some (.ref p)) := by
  exact ok.adr hi
theorem EvI.op2OL {r : R2} {g : D → D → Option D} {i : Nat} (ho : Op2 K r g) (hi : i ∈ own) (hb : EvI K tw own W cl tb fb) : EvI K tw own W cl (tOp r (tVar i) tb) (op2OL g i fb) := fun H0 P G env σ H Q hp ok ans => by
  obtain ⟨p0, e0⟩ := slot_of ok hi
  refine ⟨.ref p0, e0, hb H0 P G env σ H _ hp ok (ans.bind.mono (fun b hb' G2 H2 y g2 ok2 ry => ?_) fun _ h => h)⟩
  obtain ⟨ds, eo, q1⟩ := ans_lift hb'
  obtain ⟨d, e, q⟩ := ans_lift q1
  obtain ⟨p, vs, e1, hH, hg, r1⟩ := own_list ok2 hi eo
  rw [e0] at e1
  cases e1
  obtain ⟨s1, rp, s2⟩ := look_frozen ok2.sub hH hg r1
  refine ho _ H2 (.ref p0) y (.list ds) b.1 d Q s1 rp (ry.mono s2) e fun G' H' v gg rv => ?_
  by_cases ha : atomD d = true
  · rw [if_pos ha] at q
    have g3 : Grow G2 H2 G2 H' := ⟨Same.refl _, ok2.sub.trans gg.hh, gg.hh, fun _ _ _ _ => rfl⟩
    exact q G2 H' v g2 (ok2.grow g3) (rv.atom ha)
  · rw [if_neg ha] at q
    exact q.elim
theorem EvI.op2OR {r : R2} {g : D → D → Option D} {i : Nat} (ho : Op2 K r g) (hi : i ∈ own) (hb : EvI K tw own W cl ta fa) : EvI K tw own W cl (tOp r ta (tVar i)) (op2OR g fa i) := fun H0 P G env σ H Q hp ok ans => by
  refine hb H0 P G env σ H _ hp ok (ans.bind.mono (fun b hb' G2 H2 y g2 ok2 ry => ?_) fun _ h => h)
  obtain ⟨ds, eo, q1⟩ := ans_lift hb'
  obtain ⟨d, e, q⟩ := ans_lift q1
  obtain ⟨p, vs, e1, hH, hg, r1⟩ := own_list ok2 hi eo
  obtain ⟨s1, rp, s2⟩ := look_frozen ok2.sub hH hg r1
  refine ⟨.ref p, e1, ho _ H2 y (.ref p) b.1 (.list ds) d Q s1 (ry.mono s2) rp e fun G' H' v gg rv => ?_⟩
  by_cases ha : atomD d = true
  · rw [if_pos ha] at q
    have g3 : Grow G2 H2 G2 H' := ⟨Same.refl _, ok2.sub.trans gg.hh, gg.hh, fun _ _ _ _ => rfl⟩
    exact q G2 H' v g2 (ok2.grow g3) (rv.atom ha)
  · rw [if_neg ha] at q
    exact q.elim
theorem EvI.opNO {r : List V → Hp → VK → Prop} {g : List D → Option D} {i : Nat} (ho : OpN K r g) (hi : i ∈ own) : EvI K tw own W cl (tCB r (tCons (tVar i) tNil)) (opNO g i) := fun H0 P G env σ H Q hp ok ans => by
  obtain ⟨ds, eo, q1⟩ := ans_lift ans
  obtain ⟨d, e, q⟩ := ans_lift q1
  obtain ⟨p, vs, e1, hH, hg, r1⟩ := own_list ok hi eo
  obtain ⟨s1, rp, s2⟩ := look_frozen ok.sub hH hg r1
  refine ⟨.ref p, e1, ho _ H [.ref p] [.list ds] d Q s1 (.cons rp .nil) e fun G' H' v gg rv => ?_⟩
  by_cases ha : atomD d = true
  · rw [if_pos ha] at q
    have g3 : Grow G H G H' := ⟨Same.refl _, ok.sub.trans gg.hh, gg.hh, fun _ _ _ _ => rfl⟩
    exact q G H' v Gr.refl (ok.grow g3) (rv.atom ha)
  · rw [if_neg ha] at q
    exact q.elim
theorem EvI.idxO {i : Nat} (hi : i ∈ own) (hb : EvI K tw own W cl tb fb) : EvI K tw own W cl (tOp (rIx K) (tVar i) tb) (idxO i fb) := fun H0 P G env σ H Q hp ok ans => by
  obtain ⟨p0, e0⟩ := slot_of ok hi
  refine ⟨.ref p0, e0, hb H0 P G env σ H _ hp ok (ans.bind.mono (fun b hb' G2 H2 y g2 ok2 ry => ?_) fun _ h => h)⟩
  obtain ⟨ds, eo, q1⟩ := ans_lift hb'
  obtain ⟨d, e, q⟩ := ans_lift q1
  obtain ⟨p, vs, e1, hH, hg, r1⟩ := own_list ok2 hi eo
  rw [e0] at e1
  cases e1
  obtain ⟨bd, be⟩ := b
  cases ry with
  | int j =>
    obtain ⟨v, hv, rv⟩ := atI_rp r1 (show atI ds j = some d from e)
    exact .inl ⟨p0, vs, j, v, rfl, rfl, SqL.of hH, hv, q G2 H2 v g2 ok2 rv⟩
  | _ => cases e
/-! changes -/
def appS (i : Nat) (a : Env → R (D × Env)) : Env → R (Fl × Env) := fun e => (lift (ownL e i)).bind fun _ => (a e).bind fun x => (lift (ownL x.2 i)).bind fun ds => if ds.length < 1000000 then .ok (.nx, x.2.set i (some (.list (ds ++ [x.1])))) else .bad
def extS (i : Nat) (a : Env → R (D × Env)) : Env → R (Fl × Env) := fun e => (lift (ownL e i)).bind fun _ => (a e).bind fun x => (lift (ownL x.2 i)).bind fun ds => match x.1 with
  | .list es => if ds.length + es.length ≤ 1000000 then .ok (.nx, x.2.set i (some (.list (ds ++ es)))) else .bad
  | _ => .bad
def popD (i : Nat) (a : Env → R (D × Env)) : Env → R (D × Env) := fun e => (lift (ownL e i)).bind fun _ => (a e).bind fun x => (lift (ownL x.2 i)).bind fun ds => match x.1 with
  | .int j => if 0 ≤ j ∧ j < 1000000 then (lift ds[j.toNat]?).bind fun d => .ok (d, x.2.set i (some (.list (ds.eraseIdx j.toNat)))) else .bad
  | _ => .bad
def putS (i : Nat) (k v : Env → R (D × Env)) : Env → R (Fl × Env) := fun e => (v e).bind fun x => (k x.2).bind fun y => (lift (ownL y.2 i)).bind fun ds => match y.1 with
  | .int j => (lift (ixN ds.length j)).bind fun m => .ok (.nx, y.2.set i (some (.list (ds.set m x.1))))
  | _ => .bad
theorem EvS.app {oL : List Nat} {i : Nat} (hi : i ∈ own) (h : EvI K tw own W cl te fe) : EvS K tw own own oL W cl (tDrop (tBM K "list" rAppend (tVar i) (tCons te tNil))) (appS i fe) := EvS.of fun H0 P G env σ H E hp ok ans => by
  obtain ⟨ds0, eo0, ans⟩ := ans_lift ans
  obtain ⟨p0, vs0, e0, hH0, _, _⟩ := own_list ok hi eo0
  refine ⟨.ref p0, e0, .inl ⟨rfl, vs0, SqL.of hH0⟩, h H0 P G env σ H _ hp ok (ans.bind.mono (fun a ha G1 H1 x g1 ok1 rx => ?_) fun c h H' fr => h σ H' ok.ln fr)⟩
  obtain ⟨ds, eo, q⟩ := ans_lift ha
  obtain ⟨p, vs, e1, hH, hg, r1⟩ := own_list ok1 hi eo
  rw [e0] at e1
  cases e1
  by_cases hl : ds.length < 1000000
  · rw [if_pos hl] at q
    exact ⟨p0, vs, x, rfl, rfl, hH, sz100l (by rw [r1.length]; exact hl), q G1 σ _ g1 (ok1.write (ownL_eq eo) hi e0 rfl ⟨hg, .inl ⟨vs ++ [x], ds ++ [a.1], rfl, upd_same, r1.append (.cons rx .nil)⟩⟩)⟩
  · rw [if_neg hl] at q
    exact q.elim
theorem EvS.ext {oL : List Nat} {i : Nat} (hi : i ∈ own) (h : EvI K tw own W cl te fe) : EvS K tw own own oL W cl (tDrop (tBM K "list" rExtend (tVar i) (tCons te tNil))) (extS i fe) := EvS.of fun H0 P G env σ H E hp ok ans => by
  obtain ⟨ds0, eo0, ans⟩ := ans_lift ans
  obtain ⟨p0, vs0, e0, hH0, _, _⟩ := own_list ok hi eo0
  refine ⟨.ref p0, e0, .inl ⟨rfl, vs0, SqL.of hH0⟩, h H0 P G env σ H _ hp ok (ans.bind.mono (fun a ha G1 H1 x g1 ok1 rx => ?_) fun c h H' fr => h σ H' ok.ln fr)⟩
  obtain ⟨ds, eo, q⟩ := ans_lift ha
  obtain ⟨p, vs, e1, hH, hg, r1⟩ := own_list ok1 hi eo
  rw [e0] at e1
  cases e1
  obtain ⟨ad, ae⟩ := a
  cases rx with
  | @lst b ws es h2 a2 =>
    dsimp only at q
    by_cases hl : ds.length + es.length ≤ 1000000
    · have q' := q
      rw [if_pos hl] at q'
      exact ⟨p0, b, vs, ws, rfl, rfl, hH, ok1.sub _ _ h2, sz100 (by rw [r1.length, a2.length]; exact hl), q' G1 σ _ g1 (ok1.write (ownL_eq eo) hi e0 rfl ⟨hg, .inl ⟨vs ++ ws, ds ++ es, rfl, upd_same, r1.append a2⟩⟩)⟩
    · rw [if_neg hl] at q
      exact q.elim
  | _ => exact q.elim
theorem EvI.pop {i : Nat} (hi : i ∈ own) (h : EvI K tw own W cl te fe) : EvI K tw own W cl (tBM K "list" rPopAt (tVar i) (tCons te tNil)) (popD i fe) := fun H0 P G env σ H Q hp ok ans => by
  obtain ⟨ds0, eo0, ans⟩ := ans_lift ans
  obtain ⟨p0, vs0, e0, hH0, _, _⟩ := own_list ok hi eo0
  refine ⟨.ref p0, e0, .inl ⟨rfl, vs0, SqL.of hH0⟩, h H0 P G env σ H _ hp ok (ans.bind.mono (fun a ha G1 H1 x g1 ok1 rx => ?_) fun c h => h)⟩
  obtain ⟨ds, eo, q⟩ := ans_lift ha
  obtain ⟨p, vs, e1, hH, hg, r1⟩ := own_list ok1 hi eo
  rw [e0] at e1
  cases e1
  obtain ⟨ad, ae⟩ := a
  cases rx with
  | int j =>
    dsimp only at q
    by_cases hl : 0 ≤ j ∧ j < 1000000
    · have q' := q
      rw [if_pos hl] at q'
      obtain ⟨d, ed, q2⟩ := ans_lift q'
      obtain ⟨v, hv, rv⟩ := r1.get ed
      have hk : seqIndex? j vs.length = some j.toNat := by
        have hlt := lt_of_get hv
        have z := ixN_seq (n := vs.length) (i := j) (j := j.toNat) (by unfold ixN; rw [if_pos hl.1, if_pos (by omega)])
        exact z.1
      exact ⟨p0, vs, j, j.toNat, v, rfl, rfl, hH, by omega, by omega, hk, hv, q2 G1 _ v g1 (ok1.write (ownL_eq eo) hi e0 rfl ⟨hg, .inl ⟨vs.eraseIdx j.toNat, ds.eraseIdx j.toNat, rfl, upd_same, r1.erase _⟩⟩) rv⟩
    · rw [if_neg hl] at q
      exact q.elim
  | _ => exact q.elim
theorem EvS.put {oL : List Nat} {i : Nat} {tk tv : TE} {fk fv : Env → R (D × Env)} (hi : i ∈ own) (hv : EvI K tw own W cl tv fv) (hk : EvI K tw own W cl tk fk) : EvS K tw own own oL W cl (tAsg tv (gSub (tVar i) tk rSetL)) (putS i fk fv) := EvS.of fun H0 P G env σ H E hp ok ans => by
  obtain ⟨p0, e0⟩ := slot_of ok hi
  refine hv H0 P G env σ H _ hp ok (ans.bind.mono (fun a ha G1 H1 x g1 ok1 rx => ?_) fun c h H' fr => h σ H' ok.ln fr)
  refine ⟨.ref p0, e0, hk H0 P G1 a.2 σ H1 _ hp ok1 (ha.bind.mono (fun b hb G2 H2 y g2 ok2 ry => ?_) fun c h H' fr => h σ H' ok.ln fr)⟩
  obtain ⟨ds, eo, q⟩ := ans_lift hb
  obtain ⟨p, vs, e1, hH, hg, r1⟩ := own_list ok2 hi eo
  rw [e0] at e1
  cases e1
  obtain ⟨bd, be⟩ := b
  cases ry with
  | int j =>
    obtain ⟨m, em, q2⟩ := ans_lift (show Ans ((lift (ixN ds.length j)).bind fun m => R.ok (Fl.nx, be.set i (some (PyData.list (ds.set m a.1))))) _ _ from q)
    exact ⟨p0, vs, j, m, rfl, rfl, hH, by rw [r1.length]; exact em, q2 G2 σ _ (g1.trans g2) (ok2.write (ownL_eq eo) hi e0 rfl ⟨hg, .inl ⟨vs.set m x, ds.set m a.1, rfl, upd_same, r1.set m (rx.mono g2.1)⟩⟩)⟩
  | _ => exact q.elim
end

/-! ### with the rules of the text -/
section
variable {X : Cx} {tw : List Nat} {own oM oN oL sl : List Nat} {W : WX} {cl : Nat → Addr} {a b c e tg : Expr} {es : List Expr} {pos p pos' : Pos} {te ta tb tc : TE} {tA : TA} {t u : TT} {to th : TO} {ts tu : TS} {fe fa fb fc : Env → R (D × Env)} {fA : Env → R (List D × Env)} {ft fu : Env → R (Bool × Env)} {fo fh : Env → R (Option Int × Env)} {f g : Env → R (Fl × Env)} {st : Stmt} {sts body orelse : List Stmt}
theorem do_no : DO X tw own W cl none tNoPart noO := ⟨po_none, EvO.no⟩
theorem do_some (h : DI X tw own W cl e te fe) : DO X tw own W cl (some e) (tPart te) (someO fe) := ⟨po_some h.pe, EvO.some h.ev⟩
theorem de_cut {lo hi : Option Expr} {p2 : Pos} (h : DI X tw own W cl e te fe) (hl : DO X tw own W cl lo to fo) (hh : DO X tw own W cl hi th fh) : DI X tw own W cl (.Subscript e (.Slice lo hi none p2) pos) (tSl (rCut X.K) te to th) (sliceD fe fo fh) := ⟨pe_slice sl_cut h.pe hl.pe hh.pe, EvI.cut h.ev hl.ev hh.ev⟩
theorem de_idx (ha : DI X tw own W cl a ta fa) (hb : DI X tw own W cl b tb fb) (hs : PlainIx b := by exact fun _ _ => rfl) : DI X tw own W cl (.Subscript a b pos) (tOp (rIx X.K) ta tb) (op2 idxD fa fb) := ⟨pe_ix ix_seq ha.pe hb.pe hs, EvI.op2 v_idx ha.ev hb.ev⟩
theorem de_isi {T : String} {y : Str} {q : Pos} (hm : X.mg "isinstance" = none) (hmT : X.mg y = none) (hbt : bootBuiltins y = some (.type T)) (ha : DI X tw own W cl e te fe) (hg : Gl X "isinstance" := by rfl) (hgT : Gl X y := by rfl) (hn : y ≠ "__name__" := by decide) (hd : (y == ("__debug__" : Str)) = false := by decide)
    (hs2 : starEach [.Name y q] X.env = (false, eval (.Name y q) X.env) :: starEach [] X.env := by rfl) (he : starEach [e, .Name y q] X.env = (false, eval e X.env) :: starEach [.Name y q] X.env := by rfl) (hpl : (backTo pos (starEach [.Name y q] X.env)).any (·.1) = false := by rfl) :
    DI X tw own W cl (.Call (.Name "isinstance" p) [e, .Name y q] [] pos) (tIsi X.K T te) (op1 (isiD T) fe) :=
  ⟨pe_callB call_isi hg hm (by decide +kernel) (pa_cons ha.pe (pa_cons (pe_bltn hgT hmT hbt rfl hn hd) pa_nil hs2) he) (by decide) (by decide) he hpl, EvI.isi ha.ev⟩
theorem pv_own (i : Nat) {x : Str} (hN : X.N[i]? = some x := by rfl) (hv : Vis X.env.scope x := by first | exact Or.inl rfl | exact Or.inr (Or.inl rfl) | exact Or.inr (Or.inr rfl)) (hd : (x == ("__debug__" : Str)) = false := by decide) (hcd : (x == ("__classdict__" : Str)) = false := by decide) : PE X (.Name x pos) (tVar i) := pe_var hN hv hd hcd
theorem dt_cmpOR (i : Nat) {x : Str} {q : Pos} {op : CmpOp} {r : R2} {g : D → D → Option D} (ho : OpR X (compareOp op) r) (hv : Op2 X.K r g) (hi : i ∈ own) (ha : DI X tw own W cl a ta fa) (hx : PE X (.Name x q) (tVar i)) (hm : behindInMarks op (.Name x q) = false := by first | exact nomark _ | rfl) : DT X tw own W cl (.Compare a [op] [.Name x q] pos) (tTest (tOp r ta (tVar i))) (tstD (op2OR g fa i)) :=
  ⟨pt_cmpR ho ha.pe hx hm, EvT.tst (EvI.op2OR hv hi ha.ev)⟩
theorem de_bltO (i : Nat) {x y : Str} {q : Pos} {id : String} {r : List V → Hp → VK → Prop} {g : List D → Option D} (hc : CallR X (.builtin id) r) (hv : OpN X.K r g) (hm : X.mg x = none) (hbt : bootBuiltins x = some (.builtin id)) (hi : i ∈ own) (hx : PE X (.Name y q) (tVar i)) (hg : Gl X x := by rfl) (hn : x ≠ "__name__" := by decide) (hdb : (x == ("__debug__" : Str)) = false := by decide)
    (he : starEach [.Name y q] X.env = (false, eval (.Name y q) X.env) :: starEach [] X.env := by rfl) (hpl : (backTo pos (starEach [] X.env)).any (·.1) = false := by rfl) : DI X tw own W cl (.Call (.Name x p) [.Name y q] [] pos) (tCB r (tCons (tVar i) tNil)) (opNO g i) :=
  ⟨pe_callB hc hg hm hbt (pa_cons hx pa_nil he) hn hdb he hpl, EvI.opNO hv hi⟩
/-! statements -/
theorem dss_nil : DSs X tw own own oL W cl [] tNext nextS := ⟨pss_nil, EvS.next⟩
theorem dss_one (h : DS X tw own oN oL W cl st ts f) : DSs X tw own oN oL W cl [st] ts f := ⟨pss_one h.pe, h.ev⟩
theorem dss_cons (h : DS X tw own oM oL W cl st ts f) (h2 : DSs X tw oM oN oL W cl sts tu g) : DSs X tw own oN oL W cl (st :: sts) (tSeq ts tu) (seqS f g) := ⟨pss_cons h.pe h2.pe, EvS.seq h.ev h2.ev⟩
theorem dss_frz (i : Nat) (h : DSs X tw (own.filter (· != i)) oN oL W cl sts ts f) (ht : i ∉ tw := by decide) : DSs X tw own oN oL W cl sts ts f := ⟨h.pe, EvS.frz ht h.ev⟩
theorem ds_set (i : Nat) {x : Str} (nd : X.N.Nodup) (h : DI X tw own W cl e te fe) (hi : i ∉ own := by decide) (hx : Loc X.env.scope x := by first | exact Or.inl rfl | exact Or.inr rfl) (hN : X.N[i]? = some x := by rfl) (hs : swapsWith e (some (.Name x pos')) pos.line X.env = pure false := by rfl) (hf : X.fn x = true ∨ X.env.scope.names.lookup x = some .local := by first | exact .inl rfl | exact .inr rfl) :
    DS X tw own own oL W cl (.Assign [.Name x pos'] e pos) (tAsg te (gName i)) (setS i fe) := ⟨ps_set nd hN hx h.pe hs hf, EvS.set hi h.ev⟩
theorem ds_setO (i : Nat) {x : Str} (nd : X.N.Nodup) (h : DN X tw own W cl e te fe) (ht : i ∉ tw := by decide) (hx : Loc X.env.scope x := by first | exact Or.inl rfl | exact Or.inr rfl) (hN : X.N[i]? = some x := by rfl) (hs : swapsWith e (some (.Name x pos')) pos.line X.env = pure false := by rfl) (hf : X.fn x = true ∨ X.env.scope.names.lookup x = some .local := by first | exact .inl rfl | exact .inr rfl) :
    DS X tw own (i :: own) oL W cl (.Assign [.Name x pos'] e pos) (tAsg te (gName i)) (setO i fe) := ⟨ps_set nd hN hx h.pe hs hf, EvS.setO ht h.ev⟩
theorem ds_expr (h : DI X tw own W cl e te fe) (hs : swapsWith e none pos.line X.env = pure false := by rfl) : DS X tw own own oL W cl (.Expr e pos) (tDrop te) (exprS fe) := ⟨ps_expr h.pe hs, EvS.drop h.ev⟩
theorem ds_if (hc : DT X tw own W cl c t ft) (h1 : DSs X tw own oN oL W cl body ts f) (h2 : DSs X tw own oN oL W cl orelse tu g) : DS X tw own oN oL W cl (.If c body orelse pos) (tIfS t ts tu) (ifS ft f g) := ⟨ps_if hc.pe h1.pe h2.pe, EvS.ite hc.ev h1.ev h2.ev⟩
theorem ds_for {iter : Expr} {wi : TI} {gt : TG} {bd : D → Env → Option Env} {fi : Env → R (List D × Env)} (hp : PassesOwn (model X.prog X.w) X.A X.env X.xe) (hi : DIt X tw own W cl tg iter wi fi) (hg : DG X own sl tg gt bd) (hb : DSs X tw own own own W cl body ts f) (hc : X.calm = true := by rfl) (hs : ∀ x, foldedSetIterable iter X.env x = pure x := by intro _; rfl) :
    DS X tw own own oL W cl (.For tg iter body [] pos) (tFor wi gt ts) (forS fi bd f) := ⟨ps_for hp hc hi.pi hg.pg hb.pe hs, EvS.for hi.ev hg.ev hb.ev⟩
theorem ds_app (i : Nat) {x : Str} {q apos cpos : Pos} (hi : i ∈ own) (hx : PE X (.Name x q) (tVar i)) (h : DI X tw own W cl e te fe) (hs : starEach [e] X.env = (false, eval e X.env) :: starEach [] X.env := by rfl) (hline : (apos.endLine == cpos.line) = true := by rfl)
    (hbase : attributeBase (.Name x q) "append" X.env (eval (.Name x q) X.env) = eval (.Name x q) X.env := by rfl) (hfew : ((backTo cpos (starEach [e] X.env)).all (fun x => !x.1) && (backToKw cpos (keywordEach [] X.env)).all (fun x => x.1.isSome) && decide ([e].length + ([] : List Keyword).length + (if ([] : List Keyword).isEmpty then 0 else 1) < 30)) = true := by rfl) (hpl : (backTo cpos (starEach [] X.env)).any (·.1) = false := by rfl)
    (hsw : swapsWith (.Call (.Attribute (.Name x q) "append" apos) [e] [] cpos) none pos.line X.env = pure false := by rfl) :
    DS X tw own own oL W cl (.Expr (.Call (.Attribute (.Name x q) "append" apos) [e] [] cpos) pos) (tDrop (tBM X.K "list" rAppend (tVar i) (tCons te tNil))) (appS i fe) :=
  ⟨ps_expr (pe_bm PySem.F.plainAttrs_list PySem.F.slot_list_append PySem.F.type_list_append mt_append hx (pa_cons h.pe pa_nil hs) hbase hfew hline hs hpl) hsw, EvS.app hi h.ev⟩
theorem ds_ext (i : Nat) {x : Str} {q apos cpos : Pos} (hi : i ∈ own) (hx : PE X (.Name x q) (tVar i)) (h : DI X tw own W cl e te fe) (hs : starEach [e] X.env = (false, eval e X.env) :: starEach [] X.env := by rfl) (hline : (apos.endLine == cpos.line) = true := by rfl)
    (hbase : attributeBase (.Name x q) "extend" X.env (eval (.Name x q) X.env) = eval (.Name x q) X.env := by rfl) (hfew : ((backTo cpos (starEach [e] X.env)).all (fun x => !x.1) && (backToKw cpos (keywordEach [] X.env)).all (fun x => x.1.isSome) && decide ([e].length + ([] : List Keyword).length + (if ([] : List Keyword).isEmpty then 0 else 1) < 30)) = true := by rfl) (hpl : (backTo cpos (starEach [] X.env)).any (·.1) = false := by rfl)
    (hsw : swapsWith (.Call (.Attribute (.Name x q) "extend" apos) [e] [] cpos) none pos.line X.env = pure false := by rfl) :
    DS X tw own own oL W cl (.Expr (.Call (.Attribute (.Name x q) "extend" apos) [e] [] cpos) pos) (tDrop (tBM X.K "list" rExtend (tVar i) (tCons te tNil))) (extS i fe) :=
  ⟨ps_expr (pe_bm PySem.F.plainAttrs_list PySem.F.slot_list_extend PySem.F.type_list_extend mt_extend hx (pa_cons h.pe pa_nil hs) hbase hfew hline hs hpl) hsw, EvS.ext hi h.ev⟩
theorem dn_lst (ha : DA X tw own W cl es tA fA) (hl : ∀ env r, fA env = .ok r → r.1.length ≤ 1000) : DN X tw own W cl (.List es pos) (tLst tA) (lstD fA) := ⟨pe_lst ha.pe, EvN.lst ha.ev hl⟩
theorem dn_dK : DN X tw own W cl (.Dict [] [] pos) tDNewK (cD (.dict [])) := ⟨pe_dnewK, EvN.dK⟩
theorem de_new (h : DN X tw own W cl e te fe) : DI X tw own W cl e te fe := ⟨h.pe, h.ev.toI⟩
structure DTs (X : Cx) (tw : List Nat) (own : List Nat) (W : WX) (cl : Nat → Addr) (es : List Expr) (t : TT) (f : Env → R (Bool × Env)) : Prop where
  pe : PTs X es t
  ev : EvT X.K tw own W cl t f
theorem dts_nil : DTs X tw own W cl [] tYes yesT := ⟨pts_nil, fun H0 P G env σ H Q hp ok ans => ans G H Gr.refl ok⟩
theorem dts_one (h : DT X tw own W cl c t ft) : DTs X tw own W cl [c] t ft := ⟨pts_one h.pe, h.ev⟩
theorem dn_comp {elt iter : Expr} {ifs : List Expr} {scope : Scope} {ow : List (Str × Nat)} {vs : List Nat} {wi : TI} {gt : Shared → Hp → Addr → List (Str × Addr) → List Addr → TG} {tt : Shared → Hp → Addr → List (Str × Addr) → List Addr → TT} {te : Shared → Hp → Addr → List (Str × Addr) → List Addr → TE} {bd : D → Env → Option Env} {fi : Env → R (List D × Env)} (nd : X.N.Nodup) (hi : DIt X tw own W cl tg iter wi fi) (ok : BlkOk X.N X.env.scope scope ow)
    (hg : ∀ (s : Shared) (H : Hp) (C : Addr) (cl' : List (Str × Addr)) (fp : List Addr), DG (X.blk s H scope (compEnvC scope cl' C X.env) fp) own sl tg (gt s H C cl' fp) bd)
    (ht : ∀ (s : Shared) (H : Hp) (C : Addr) (cl' : List (Str × Addr)) (fp : List Addr), DTs (X.blk s H scope (compEnvC scope cl' C X.env) fp) tw own WF cl ifs (tt s H C cl' fp) ft)
    (he : ∀ (s : Shared) (H : Hp) (C : Addr) (cl' : List (Str × Addr)) (fp : List Addr), DI (X.blk s H scope (compEnvC scope cl' C X.env) fp) tw own WF cl elt (te s H C cl' fp) fe)
    (hsl : ∀ i ∈ sl, i ∈ ow.map (·.2) := by decide) (hv : ∀ i ∈ ow.map (·.2), i ∉ own := by decide) (hc : X.calm = true := by rfl) (hs : ∀ x, foldedSetIterable iter X.env x = pure x := by intro _; rfl) (hvs : ow.map (·.2) = vs := by rfl) (egt : ∀ s H C cl' fp, gt s H C cl' fp = gt X.s_0 (fun _ => none) 0 [] [] := by intros; rfl) (ett : ∀ s H C cl' fp, tt s H C cl' fp = tt X.s_0 (fun _ => none) 0 [] [] := by intros; rfl) (ete : ∀ s H C cl' fp, te s H C cl' fp = te X.s_0 (fun _ => none) 0 [] [] := by intros; rfl) :
    DN X tw own W cl (.ListComp elt [⟨tg, iter, ifs, 0⟩] scope pos) (tLc wi (gt X.s_0 (fun _ => none) 0 [] []) (tt X.s_0 (fun _ => none) 0 [] []) (te X.s_0 (fun _ => none) 0 [] []) vs) (compD fi vs bd ft fe) := by
  subst hvs
  exact ⟨pe_lc hc nd hi.pi ok (fun s H C cl' fp => egt s H C cl' fp ▸ (hg s H C cl' fp).pg) (fun s H C cl' fp => ett s H C cl' fp ▸ (ht s H C cl' fp).pe) (fun s H C cl' fp => ete s H C cl' fp ▸ (he s H C cl' fp).pe) hs,
    EvN.comp hi.ev (hg X.s_0 (fun _ => none) 0 [] []).ev (ht X.s_0 (fun _ => none) 0 [] []).ev (he X.s_0 (fun _ => none) 0 [] []).ev hsl hv⟩
end
end Hz

namespace Hz
open PySem PySem.Spec PyProof.Rows L2

/-! ### defs -/
def fin : R (Fl × Env) → R D
  | .ok (.rt d, _) => .ok d
  | .ok (.nx, _) => .ok .none
  | .ok _ => .bad
  | .err c => .err c
  | .bad => .bad
def finK (k : Nat) : R (Fl × Env) → R (D × D)
  | .ok (.rt d, e) => match e[k]? with
    | some (some t) => .ok (d, t)
    | _ => .bad
  | .ok (.nx, e) => match e[k]? with
    | some (some t) => .ok (.none, t)
    | _ => .bad
  | .ok _ => .bad
  | .err c => .err c
  | .bad => .bad
def finT : R (Fl × Env) → R (D × D)
  | .ok (.rt d, e) => match e[1]? with
    | some (some t) => .ok (d, t)
    | _ => .bad
  | .ok (.nx, e) => match e[1]? with
    | some (some t) => .ok (.none, t)
    | _ => .bad
  | .ok _ => .bad
  | .err c => .err c
  | .bad => .bad
def env0 (n : Nat) (ds : List D) : Env := ds.map some ++ List.replicate (n - ds.length) none
theorem env0_get {n : Nat} {ds : List D} {i : Nat} {d : D} (h : (env0 n ds)[i]? = some (some d)) : ds[i]? = some d := by
  unfold env0 at h
  by_cases hi : i < ds.length
  · rw [List.getElem?_append_left (by simpa using hi), List.getElem?_map] at h
    cases e : ds[i]? with
    | none => rw [e] at h; cases h
    | some x => rw [e] at h; cases h; rfl
  · rw [List.getElem?_append_right (by simpa using hi), List.getElem?_replicate] at h
    split at h <;> cases h
theorem start_get {N : List Str} {vs : List V} {i : Nat} {v : V} (h : vs[i]? = some v) : (start N vs)[i]? = some (some v) := by
  unfold L2.start
  rw [List.getElem?_append_left (by simpa using lt_of_get h), List.getElem?_map, h]
  rfl
theorem ok0 {K : PySem.W.Frag} {G H : Hp} {N : List Str} {vs : List V} {ds : List D} (sub : Same G H) (r : RpA K G vs ds) (hn : ds.length ≤ N.length) : StOk K H ([], N.length) [] G (env0 N.length ds) (start N vs) H := by
  have hvl := r.length
  refine ⟨sub, fun a o h _ => h, fun a o h => ⟨o, h, id⟩, ?_, fun i d e _ => ?_, ⟨fun _ => [], fun i z => absurd z (List.not_mem_nil), fun i z => absurd z (List.not_mem_nil)⟩, fun q z => absurd z (List.not_mem_nil), fun x z => ?_, ?_⟩
  · unfold env0 L2.start
    simp only [List.length_append, List.length_map, List.length_replicate]
    omega
  · obtain ⟨v, hv, rv⟩ := r.get (env0_get e)
    exact ⟨v, start_get hv, rv⟩
  · obtain ⟨q, z, _⟩ := z
    cases z
  · unfold L2.start
    simp only [List.length_append, List.length_map, List.length_replicate]
    omega
theorem ok1 {K : PySem.W.Frag} {G H : Hp} {N : List Str} {va vb : List V} {da db : List D} {p : Addr} {dt : D} {os : Os} {k : Nat} (sub : Same G H) (ra : RpA K G va da) (c : CellO K G p dt os) (h : Held G H os) (rb : RpA K G vb db) (hk : va.length = k) (hn : da.length + db.length + 1 ≤ N.length) :
    StOk K H ([(k, p, dm os)], N.length) [k] G (env0 N.length (da ++ dt :: db)) (start N (va ++ .ref p :: vb)) H := by
  have h1 := ra.length
  have h2 := rb.length
  have e1 : (env0 N.length (da ++ dt :: db))[k]? = some (some dt) := by
    unfold env0
    rw [List.map_append, List.append_assoc, List.getElem?_append_right (by simp only [List.length_map]; omega), List.length_map, show k - da.length = 0 by omega]
    rfl
  have s1 : (start N (va ++ .ref p :: vb))[k]? = some (some (.ref p)) := start_get (by rw [List.getElem?_append_right (by omega), show k - va.length = 0 by omega]; rfl)
  refine ⟨sub, fun a o h _ => h, fun a o h => ⟨o, h, id⟩, ?_, fun i d e n1 => ?_, ⟨fun _ => os, fun i hi => ?_, fun i hi j hj ij => ?_⟩, fun q hq => ?_, fun x hx => ?_, ?_⟩
  · unfold env0 L2.start
    simp only [List.length_append, List.length_map, List.length_replicate, List.length_cons]
    omega
  · have hh := env0_get e
    have nk : i ≠ k := fun z => n1 (by rw [z]; exact List.mem_singleton.mpr rfl)
    rcases Nat.lt_or_ge i k with hlt | hge
    · rw [List.getElem?_append_left (by omega)] at hh
      obtain ⟨v, hv, rv⟩ := ra.get hh
      exact ⟨v, start_get (by rw [List.getElem?_append_left (by omega)]; exact hv), rv⟩
    · obtain ⟨m, rfl⟩ : ∃ m, i = k + 1 + m := ⟨i - (k + 1), by omega⟩
      rw [List.getElem?_append_right (by omega), show k + 1 + m - da.length = m + 1 by omega, List.getElem?_cons_succ] at hh
      obtain ⟨v, hv, rv⟩ := rb.get hh
      exact ⟨v, start_get (by rw [List.getElem?_append_right (by omega), show k + 1 + m - va.length = m + 1 by omega, List.getElem?_cons_succ]; exact hv), rv⟩
  · have z : i = k := List.mem_singleton.mp hi
    subst z
    exact ⟨p, dt, e1, s1, c, h, fun x hx => .inr ⟨_, List.mem_singleton.mpr rfl, rfl, hx⟩⟩
  · exact absurd ((List.mem_singleton.mp hi).trans (List.mem_singleton.mp hj).symm) ij
  · rw [List.mem_singleton.mp hq]
    exact ⟨List.mem_singleton.mpr rfl, s1⟩
  · obtain ⟨q, hq, hx⟩ := hx
    rw [List.mem_singleton.mp hq] at hx
    obtain ⟨o, h3, h4, h5⟩ := h.there hx
    exact ⟨⟨o, h3, h5⟩, h4⟩
  · unfold L2.start
    simp only [List.length_append, List.length_map, List.length_replicate, List.length_cons]
    omega
theorem does_of {K : PySem.W.Frag} {G H : Hp} {p : Addr} {os : Os} {k n : Nat} {own : List Nat} {G' H' : Hp} {σ' : L2.St} {e2 : Env} {d2 : D} (g : Gr H G G') (ok' : StOk K H ([(k, p, dm os)], n) own G' e2 σ' H') (hd : e2[k]? = some (some d2)) : ∃ os', Does K G H os G' H' p d2 os' := by
  obtain ⟨h1, h3⟩ := ok'.par (k, p, dm os) (List.mem_singleton.mpr rfl)
  obtain ⟨q, d, os', e, e3, c, h, z, _⟩ := ok'.open h1
  rw [hd] at e
  cases e
  rw [h3] at e3
  cases e3
  refine ⟨os', g.1, ok'.sub, fun x o hx n => ok'.fr x o hx fun ⟨q, hq, y⟩ => ?_, ok'.dom, g.2, c, h, fun x hx => ?_⟩
  · rw [List.mem_singleton.mp hq] at y
    exact n y
  · rcases z x hx with y | ⟨q, hq, _, y⟩
    · exact .inr y
    · rw [List.mem_singleton.mp hq] at y
      exact .inl y
section
variable {P : Program} {w : World} {K : PySem.W.Frag} {mg : Str → Option Value} {base : Heap} {cl : Nat → Addr}
theorem okN {x qual : Str} {st : Stmt} {f : Addr} {fd : FuncData} {N ps : List Str} {k : Nat} {sp : Sp} (F : Fun K x qual st f fd) (S : FnScope N ps (defScope st)) (hl : ∀ vs H Q E, sp vs H Q E → vs.length = ps.length)
    (hb : ∀ (cdv : Value) (A : Around) (outer : List PySem.Env) (s : Shared) (H : Hp) (vs : List V) (Q : VK) (E : XK), Room k (A.deeper (envOfC qual (defScope st) s.heap.objs.size f cdv)) → sp vs H Q E →
      ∃ t, PSs (cxOf (L2N.CX P w) P w K mg base N qual (defScope st) f cdv A outer s H E) (defBody st) t ∧ t { nx := fun _ H' => Q .non H', rt := Q } (start N vs) H) : FnOk P w K mg base (L2N.CX P w) (k + 1) f fd ps sp := by
  obtain ⟨_, _, _, _, _, _, cdv, _, _, rfl, l1, l2⟩ := F.ex
  exact fn_of l1 l2 S hl fun A outer s H vs Q E h1 h2 => hb cdv A outer s H vs Q E h1 h2
theorem fnP {x qual : Str} {st : Stmt} {f : Addr} {fd : FuncData} {N ps : List Str} {k n : Nat} {F : List D → R D} {body : Env → R (Fl × Env)} {oN : List Nat} (Fu : Fun K x qual st f fd) (S : FnScope N ps (defScope st)) (hn : ps.length = n) (hF : ∀ ds, ds.length = n → F ds = fin (body (env0 N.length ds)))
    (hb : ∀ (cdv : Value) (A : Around) (outer : List PySem.Env) (s : Shared) (H : Hp) (E : XK), Room k (A.deeper (envOfC qual (defScope st) s.heap.objs.size f cdv)) →
      ∃ t, DSs (cxOf (L2N.CX P w) P w K mg base N qual (defScope st) f cdv A outer s H E) [] [] oN [] (fun cls d _ H' => E cls d H') cl (defBody st) t body) :
    FnOk P w K mg base (L2N.CX P w) (k + 1) f fd ps (spP K cl n F) := by
  have hnN : n ≤ N.length := by
    have := congrArg List.length S.pre
    rw [List.length_take] at this
    omega
  refine okN Fu S (fun vs H Q E h => (spP.len vs H Q E h).trans hn.symm) fun cdv A outer s H vs Q E hr h => ?_
  obtain ⟨G, ds, sub, r, hl, ans⟩ := h
  obtain ⟨t, dd⟩ := hb cdv A outer s H E hr
  have hvl : vs.length = n := r.length.trans hl
  have ok : StOk K H ([], N.length) [] G (env0 N.length ds) (start N vs) H := ok0 sub r (by omega)
  refine ⟨t, dd.pe, dd.ev.run (P := ([], N.length)) rfl ok ?_⟩
  rw [hF ds hl] at ans
  have np : ∀ a, ¬ Par.is ([], N.length) a := fun a ⟨i, z, _⟩ => by cases z
  have sm : ∀ H', Frm H ([], N.length) H' → Same H H' := fun H' fr a o h => fr a o h (np a)
  cases e : body (env0 N.length ds) with
  | bad => rw [e] at ans; exact ans
  | err c =>
    rw [e] at ans
    exact fun σ' H' _ fr => ans H' (sm H' fr)
  | ok rr =>
    rw [e] at ans
    obtain ⟨fl, e1⟩ := rr
    cases fl with
    | nx => exact fun G' σ' H' g' ok' => ans G' H' .non ⟨g'.1, ok'.sub, sm H' ok'.fr, g'.2⟩ .non
    | rt d => exact fun G' σ' H' v g' ok' rv => ans G' H' v ⟨g'.1, ok'.sub, sm H' ok'.fr, g'.2⟩ rv
    | bk => exact ans.elim
    | ct => exact ans.elim
theorem fnK {x qual : Str} {st : Stmt} {f : Addr} {fd : FuncData} {N ps : List Str} {kk k n : Nat} {F : List D → R (D × D)} {body : Env → R (Fl × Env)} {oN : List Nat} (Fu : Fun K x qual st f fd) (S : FnScope N ps (defScope st)) (hn : ps.length = n) (hF : ∀ ds, ds.length = n → F ds = finK k (body (env0 N.length ds))) (ho : k ∈ oN)
    (hb : ∀ (cdv : Value) (A : Around) (outer : List PySem.Env) (s : Shared) (H : Hp) (E : XK), Room kk (A.deeper (envOfC qual (defScope st) s.heap.objs.size f cdv)) →
      ∃ t, DSs (cxOf (L2N.CX P w) P w K mg base N qual (defScope st) f cdv A outer s H E) [k] [k] oN [k] (fun cls d _ H' => E cls d H') cl (defBody st) t body) :
    FnOk P w K mg base (L2N.CX P w) (kk + 1) f fd ps (spT K cl k n F) := by
  have hnN : n ≤ N.length := by
    have := congrArg List.length S.pre
    rw [List.length_take] at this
    omega
  refine okN Fu S (fun vs H Q E h => (spT.len vs H Q E h).trans hn.symm) fun cdv A outer s H vs Q E hr h => ?_
  obtain ⟨G, va, p, vb, da, dt, db, os, rfl, hk, sub, ra, c, hd, rb, hl, ans⟩ := h
  obtain ⟨t, dd⟩ := hb cdv A outer s H E hr
  have ok : StOk K H ([(k, p, dm os)], N.length) [k] G (env0 N.length (da ++ dt :: db)) (start N (va ++ .ref p :: vb)) H := ok1 sub ra c hd rb hk (by omega)
  refine ⟨t, dd.pe, dd.ev.run (P := ([(k, p, dm os)], N.length)) rfl ok ?_⟩
  rw [hF _ (by rw [List.length_append, List.length_cons]; omega)] at ans
  have sm : ∀ H', Frm H ([(k, p, dm os)], N.length) H' → ∀ b o, b ∉ dm os → H b = some o → H' b = some o := fun H' fr b o nb h => fr b o h fun ⟨q, hq, z⟩ => by
    rw [List.mem_singleton.mp hq] at z
    exact nb z
  cases e : body (env0 N.length (da ++ dt :: db)) with
  | bad => rw [e] at ans; exact ans
  | err c =>
    rw [e] at ans
    exact fun σ' H' _ fr => ans H' (sm H' fr)
  | ok rr =>
    rw [e] at ans
    obtain ⟨fl, e2⟩ := rr
    cases fl with
    | nx =>
      intro G' σ' H' g' ok'
      obtain ⟨d2, hd2⟩ := ok'.all k ho
      have ans' : Ans (match e2[k]? with | some (some t) => R.ok (PyData.none, t) | _ => R.bad) _ _ := ans
      have hd3 : e2[k]? = some (some d2) := hd2
      rw [hd3] at ans'
      obtain ⟨os', x⟩ := does_of g' ok' hd2
      exact ans' G' H' .non os' x .non
    | rt d =>
      intro G' σ' H' v g' ok' rv
      obtain ⟨d2, hd2⟩ := ok'.all k (List.mem_singleton.mpr rfl)
      have ans' : Ans (match e2[k]? with | some (some t) => R.ok (d, t) | _ => R.bad) _ _ := ans
      have hd3 : e2[k]? = some (some d2) := hd2
      rw [hd3] at ans'
      obtain ⟨os', x⟩ := does_of g' ok' hd2
      exact ans' G' H' v os' x rv
    | bk => exact ans.elim
    | ct => exact ans.elim
theorem finT_eq (r : R (Fl × Env)) : finT r = finK 1 r := by
  unfold finT finK
  rcases r with ⟨f, e⟩ | c | _
  · cases f <;> rfl
  · rfl
  · rfl
theorem fnT {x qual : Str} {st : Stmt} {f : Addr} {fd : FuncData} {N ps : List Str} {k n : Nat} {F : List D → R (D × D)} {body : Env → R (Fl × Env)} {oN : List Nat} (Fu : Fun K x qual st f fd) (S : FnScope N ps (defScope st)) (hn : ps.length = n) (hF : ∀ ds, ds.length = n → F ds = finT (body (env0 N.length ds))) (ho : 1 ∈ oN)
    (hb : ∀ (cdv : Value) (A : Around) (outer : List PySem.Env) (s : Shared) (H : Hp) (E : XK), Room k (A.deeper (envOfC qual (defScope st) s.heap.objs.size f cdv)) →
      ∃ t, DSs (cxOf (L2N.CX P w) P w K mg base N qual (defScope st) f cdv A outer s H E) [1] [1] oN [1] (fun cls d _ H' => E cls d H') cl (defBody st) t body) :
    FnOk P w K mg base (L2N.CX P w) (k + 1) f fd ps (spT K cl 1 n F) := fnK Fu S hn (fun ds h => (hF ds h).trans (finT_eq _)) ho hb
end

/-! ### raise of an own error without an __init__ -/
section
variable {X : Cx} {tw : List Nat} {own oN oL : List Nat} {W : WX} {cl : Nat → Addr}
theorem ds_raise {k : Nat} {x m : Str} {j : Nat} {p p2 pos pos2 : Pos} {bmB : List Value} {B newId initId : String} (F : ExcBaseFacts B newId initId bmB) (q : PySem.W.excIn X.K (cl k) bmB newId = true) (gC : X.mg x = some (.ref (cl k))) (kC : PySem.W.keepIn X.K (.ref (cl k)) = true) (r : Raises X (.ref (cl k))) (tk : L2N.Takes X W) (hc : X.calm = true := by rfl) (hg : Gl X x := by rfl) (hdb : (x == ("__debug__" : Str)) = false := by decide) :
    DS X tw own oN oL W cl (.Raise (some (.Call (.Name x p) [.Constant (.str m) j p2] [] pos)) none pos2) (fun _ σ H => W (.ref (cl k)) none σ H) (raiseS k) :=
  ⟨L2N.ps_raise hc tk (L2N.pmk_own F q gC kC r hg hdb), EvS.of fun H0 P G env σ H E hp ok ans => ans σ H ok.ln ok.fr⟩
end
end Hz

namespace Hz
open PySem PySem.Spec PyProof.Rows L2

/-! ### several values at once, some of them new objects of ours (k = true) -/
def EvNo (K : PySem.W.Frag) (tw : List Nat) (own : List Nat) (W : WX) (cl : Nat → Addr) (t : TE) (f : Env → R (D × Env)) : Prop :=
  ∀ (H0 : Hp) (P : Par) (G : Hp) (env : Env) (σ : L2.St) (H : Hp) (Q : VK), P.1.map (·.1) = tw → StOk K H0 P own G env σ H →
    Ans (f env) (fun a => ∀ G1 H1 G' H' p os, Gr H0 G G1 → StOk K H0 P own G1 a.2 σ H1 → Grow G1 H1 G' H' → (∀ x ∈ dm os, H1 x = none) → CellO K G' p a.1 os → Held G' H' os → Q (.ref p) H') (fun c => ∀ H', Frm H0 P H' → W (.ref (cl c)) none σ H') → t σ H Q
structure DNo (X : Cx) (tw : List Nat) (own : List Nat) (W : WX) (cl : Nat → Addr) (e : Expr) (t : TE) (f : Env → R (D × Env)) : Prop where
  pe : PE X e t
  ev : EvNo X.K tw own W cl t f
theorem EvN.toNo {K : PySem.W.Frag} {tw : List Nat} {own : List Nat} {W : WX} {cl : Nat → Addr} {t : TE} {f : Env → R (D × Env)} (h : EvN K tw own W cl t f) : EvNo K tw own W cl t f := fun H0 P G env σ H Q hp ok ans => by
  refine h H0 P G env σ H Q hp ok (ans.mono (fun a ha G1 H1 p o g1 ok1 np c => ?_) fun _ h => h)
  obtain ⟨o', c1, h1⟩ := c.os
  refine ha G1 H1 G1 _ p _ g1 ok1 (Grow.drop ok1.sub np) (fun x hx => ?_) c1 h1
  rw [List.mem_singleton.mp hx]
  exact np
theorem EvNo.toI {K : PySem.W.Frag} {tw : List Nat} {own : List Nat} {W : WX} {cl : Nat → Addr} {t : TE} {f : Env → R (D × Env)} (h : EvNo K tw own W cl t f) : EvI K tw own W cl t f := fun H0 P G env σ H Q hp ok ans => by
  refine h H0 P G env σ H Q hp ok (ans.mono (fun a ha G1 H1 G' H' p os g1 ok1 g hf c hd => ?_) fun _ h => h)
  have gg : Grow G1 H1 (addO G' os) H' := ⟨fun x o hx => ?_, fun x o hx => ?_, g.hh, fun x o hx n => ?_⟩
  · refine ha (addO G' os) H' _ (g1.trans (gg.gr ok1)) (ok1.grow gg) (c.rp (fun x o hx => ?_) fun x o m => addO_in hd.nd m)
    rw [addO_out fun m => ?_]
    · exact hx
    · obtain ⟨u, _, h2, _⟩ := hd.there m
      rw [h2] at hx
      cases hx
  · rw [addO_out fun m => ?_]
    · exact g.gg x o hx
    · obtain ⟨u, _, h2, _⟩ := hd.there m
      have := g.gg x o hx
      rw [h2] at this
      cases this
  · by_cases m : x ∈ dm os
    · obtain ⟨u, hu⟩ := dm_mem.mp m
      rw [addO_in hd.nd hu] at hx
      cases hx
      exact (hd.at_ _ _ hu).1
    · rw [addO_out m] at hx
      exact g.gh x o hx
  · rw [addO_out fun m => (by rw [hf x m] at hx; cases hx)]
    exact g.new x o hx n
def Mix (K : PySem.W.Frag) (G H : Hp) : List Bool → List V → List D → List Os → Prop
  | [], [], [], [] => True
  | false :: ks, v :: vs, d :: ds, oss => Rp K G v d ∧ Mix K G H ks vs ds oss
  | true :: ks, v :: vs, d :: ds, os :: oss => (∃ p, v = .ref p ∧ CellO K G p d os ∧ Held G H os) ∧ Mix K G H ks vs ds oss
  | _, _, _, _ => False
def EvM (K : PySem.W.Frag) (tw : List Nat) (own : List Nat) (W : WX) (cl : Nat → Addr) (ks : List Bool) (t : TA) (f : Env → R (List D × Env)) : Prop :=
  ∀ (H0 : Hp) (P : Par) (G : Hp) (env : Env) (σ : L2.St) (H : Hp) (Q : List V → Hp → Prop), P.1.map (·.1) = tw → StOk K H0 P own G env σ H →
    Ans (f env) (fun a => ∀ G' H' vs oss, Gr H0 G G' → StOk K (addO H0 oss.flatten) P own G' a.2 σ H' → (∀ x ∈ dm oss.flatten, H0 x = none ∧ ¬ P.is x) → (dm oss.flatten).Nodup → Mix K G' H' ks vs a.1 oss → Q vs H') (fun c => ∀ H', Frm H0 P H' → W (.ref (cl c)) none σ H') → t σ H Q
section
variable {K : PySem.W.Frag} {tw : List Nat} {own : List Nat} {W : WX} {cl : Nat → Addr} {ks : List Bool} {te : TE} {fe : Env → R (D × Env)} {tA : TA} {fA : Env → R (List D × Env)}
theorem EvM.nil : EvM K tw own W cl [] tNil nilA := fun H0 P G env σ H Q hp ok ans => ans G H [] [] Gr.refl ok (fun x hx => by cases hx) List.nodup_nil trivial
theorem EvM.val (h : EvI K tw own W cl te fe) (hs : EvM K tw own W cl ks tA fA) : EvM K tw own W cl (false :: ks) (tCons te tA) (consA fe fA) := fun H0 P G env σ H Q hp ok ans => by
  refine h H0 P G env σ H _ hp ok (ans.bind.mono (fun a ha G1 H1 x g1 ok1 rx => ?_) fun _ h => h)
  refine hs H0 P G1 a.2 σ H1 _ hp ok1 (ha.bind.mono (fun b hb G2 H2 ys oss g2 ok2 hn nd m => ?_) fun _ h => h)
  exact hb G2 H2 (x :: ys) oss (g1.trans g2) ok2 hn nd (by cases oss <;> exact ⟨rx.mono g2.1, m⟩)
theorem EvM.newO (h : EvNo K tw own W cl te fe) (hs : EvM K tw own W cl ks tA fA) : EvM K tw own W cl (true :: ks) (tCons te tA) (consA fe fA) := fun H0 P G env σ H Q hp ok ans => by
  refine h H0 P G env σ H _ hp ok (ans.bind.mono (fun a ha G0 H1 G1 H1' p os g1 ok1 g hf c hd => ?_) fun _ h => h)
  have h0 : ∀ x ∈ dm os, H0 x = none := fun x hx => ok1.h0 (hf x hx)
  have nP : ∀ x ∈ dm os, ¬ P.is x := fun x hx => ok1.noP (h0 x hx)
  have okh : StOk K (addO H0 os) P own G1 a.2 σ H1' := ok1.layO g hf hd
  have up : ∀ a' o', H0 a' = some o' → addO H0 os a' = some o' := fun a' o' h1 => by
    rw [addO_out fun z => (by rw [h0 a' z] at h1; cases h1)]
    exact h1
  refine hs (addO H0 os) P G1 a.2 σ H1' _ hp okh (ha.bind.mono (fun b hb G2 H2 ys oss g2 ok2 hn nd m => ?_) fun k h H' fr => h H' fun a' o' h1 h2 => fr a' o' (up a' o' h1) h2)
  have gr : Gr H0 G1 G2 := ⟨g2.1, fun b' o' h' n' => g2.2 b' o' (up b' o' h') n'⟩
  have dj : ∀ x ∈ dm os, x ∉ dm oss.flatten := fun x hx hz => by
    obtain ⟨o, ho⟩ := dm_mem.mp hx
    have := (hn x hz).1
    rw [addO_in hd.nd ho] at this
    cases this
  have nd2 : (dm (os ++ oss.flatten)).Nodup := by
    rw [dm_append, List.nodup_append]
    exact ⟨hd.nd, nd, fun x hx y hy z => dj x hx (z ▸ hy)⟩
  refine hb G2 H2 (.ref p :: ys) (os :: oss) ((g1.trans (g.gr ok1)).trans gr) ?_ (fun x hx => ?_) nd2 ⟨⟨p, rfl, c.mono g2.1, ⟨fun x o hx => ⟨?_, ?_, (hd.at_ x o hx).2.2⟩, hd.nd⟩⟩, m⟩
  · rw [List.flatten_cons, ← addO_comm nd2]
    exact ok2
  · rw [List.flatten_cons, dm_append] at hx
    rcases List.mem_append.mp hx with hx | hx
    · exact ⟨h0 x hx, nP x hx⟩
    · refine ⟨?_, (hn x hx).2⟩
      have := (hn x hx).1
      rw [addO_out fun z => dj x z hx] at this
      exact this
  · have hm := dm_mem.mpr ⟨o, hx⟩
    refine ok2.fr x o ?_ (nP x hm)
    rw [addO_out (dj x hm)]
    exact addO_in hd.nd hx
  · exact (g2.2 x o (addO_in hd.nd hx) (hd.at_ x o hx).2.2).trans (hd.at_ x o hx).2.1
theorem EvM.new (h : EvN K tw own W cl te fe) (hs : EvM K tw own W cl ks tA fA) : EvM K tw own W cl (true :: ks) (tCons te tA) (consA fe fA) := EvM.newO h.toNo hs
def putE : List Nat → List D → Env → Option Env
  | [], [], e => some e
  | i :: is, d :: ds, e => if i < e.length then putE is ds (e.set i (some d)) else none
  | _, _, _ => none
def putV : List Nat → List V → L2.St → L2.St
  | i :: is, v :: vs, σ => putV is vs (σ.set i (some v))
  | _, _, σ => σ
def ownK : List Bool → List Nat → List Nat → List Nat
  | true :: ks, i :: is, own => ownK ks is (i :: own)
  | false :: ks, _ :: is, own => ownK ks is own
  | _, _, own => own
def okK (tw : List Nat) : List Bool → List Nat → List Nat → Bool
  | true :: ks, i :: is, own => decide (i ∉ tw) && !own.contains i && okK tw ks is (i :: own)
  | false :: ks, i :: is, own => !own.contains i && okK tw ks is own
  | [], [], _ => true
  | _, _, _ => false
theorem Mix.put {H0 : Hp} {P : Par} {G H : Hp} (hp : P.1.map (·.1) = tw) : ∀ {ks : List Bool} {is : List Nat} {own : List Nat} {vs : List V} {ds : List D} {oss : List Os} {env env' : Env} {σ : L2.St}, okK tw ks is own = true → StOk K (addO H0 oss.flatten) P own G env σ H → (∀ x ∈ dm oss.flatten, H0 x = none ∧ ¬ P.is x) → (dm oss.flatten).Nodup → Mix K G H ks vs ds oss → putE is ds env = some env' →
    StOk K H0 P (ownK ks is own) G env' (putV is vs σ) H
  | [], [], own, vs, ds, oss, env, env', σ, _, ok, _, _, m, e => by
    cases vs <;> cases ds <;> cases oss <;> first | exact m.elim | skip
    cases e
    exact ok
  | [], _ :: _, _, _, _, _, _, _, _, h, _, _, _, _, _ => by simp [okK] at h
  | true :: _, [], _, _, _, _, _, _, _, h, _, _, _, _, _ => by simp [okK] at h
  | false :: _, [], _, _, _, _, _, _, _, h, _, _, _, _, _ => by simp [okK] at h
  | false :: ks, i :: is, own, vs, ds, oss, env, env', σ, h, ok, hn, nd, m, e => by
    cases vs with
    | nil => cases ds <;> cases oss <;> exact m.elim
    | cons v vs =>
      cases ds with
      | nil => cases oss <;> exact m.elim
      | cons d ds =>
        have m' : Rp K G v d ∧ Mix K G H ks vs ds oss := by cases oss <;> exact m
        obtain ⟨r, m⟩ := m'
        simp only [okK, Bool.and_eq_true, Bool.not_eq_true'] at h
        have hi : i ∉ own := fun z => by
          have := h.1
          rw [List.contains_iff_mem.mpr z] at this
          cases this
        simp only [putE] at e
        split at e
        · exact Mix.put (ks := ks) (is := is) (own := own) (vs := vs) (ds := ds) hp h.2 (ok.set r hi) hn nd m e
        · cases e
  | true :: ks, i :: is, own, vs, ds, oss, env, env', σ, h, ok, hn, nd, m, e => by
    cases vs with
    | nil => cases ds <;> cases oss <;> exact m.elim
    | cons v vs =>
      cases ds with
      | nil => cases oss <;> exact m.elim
      | cons d ds =>
        cases oss with
        | nil => exact m.elim
        | cons os oss =>
          obtain ⟨⟨p, rfl, c, hd⟩, m⟩ := m
          simp only [okK, Bool.and_eq_true, Bool.not_eq_true', decide_eq_true_eq] at h
          obtain ⟨⟨ht, hc⟩, h2⟩ := h
          have hi : i ∉ own := fun z => by
            rw [List.contains_iff_mem.mpr z] at hc
            cases hc
          rw [List.flatten_cons] at ok hn nd
          rw [dm_append] at nd
          rw [List.nodup_append] at nd
          simp only [putE] at e
          split at e
          · rename_i hil
            rw [addO_append] at ok
            have ok' := ok.takeO c hd (fun x hx => ⟨?_, (hn x (by rw [dm_append]; exact List.mem_append_left _ hx)).2⟩) hi (par_ne hp ht) hil
            · exact Mix.put (ks := ks) (is := is) (own := i :: own) (vs := vs) (ds := ds) (oss := oss) hp h2 ok' (fun x hx => hn x (by rw [dm_append]; exact List.mem_append_right _ hx)) nd.2.1 m e
            · rw [addO_out fun z => nd.2.2 x hx x z rfl]
              exact (hn x (by rw [dm_append]; exact List.mem_append_left _ hx)).1
          · cases e
def parS (is : List Nat) (a : Env → R (List D × Env)) : Env → R (Fl × Env) := fun e => (a e).bind fun x => (lift (putE is x.1 x.2)).bind fun e' => .ok (.nx, e')
end
section
variable {X : Cx} {tw : List Nat} {own oL : List Nat} {W : WX} {cl : Nat → Addr} {ks : List Bool} {e : Expr} {es : List Expr} {te : TE} {fe : Env → R (D × Env)} {tA : TA} {fA : Env → R (List D × Env)}
theorem Mix.grow {K : PySem.W.Frag} {G H : Hp} {T : Addr} {o : HO} (hT : H T = none) : ∀ {ks : List Bool} {vs : List V} {ds : List D} {oss : List Os}, Mix K G H ks vs ds oss → Mix K G (upd H T o) ks vs ds oss
  | [], [], [], [], _ => trivial
  | false :: ks, v :: vs, d :: ds, oss, h => by
    have h' : Rp K G v d ∧ Mix K G H ks vs ds oss := by cases oss <;> exact h
    have r : Rp K G v d ∧ Mix K G (upd H T o) ks vs ds oss := ⟨h'.1, Mix.grow hT h'.2⟩
    cases oss <;> exact r
  | true :: ks, v :: vs, d :: ds, os :: oss, h => by
    obtain ⟨⟨q, e, c, hd⟩, h2⟩ := h
    refine ⟨⟨q, e, c, hd.mono (fun x m => (hd.there m).choose_spec.2.1) fun x u m => ?_⟩, Mix.grow hT h2⟩
    have := (hd.at_ x u m).1
    rw [upd_ne (ne_of_none this hT)]
    exact this
theorem Mix.len {K : PySem.W.Frag} {G H : Hp} : ∀ {ks : List Bool} {vs : List V} {ds : List D} {oss : List Os}, Mix K G H ks vs ds oss → vs.length = ds.length
  | [], [], [], [], _ => rfl
  | false :: ks, v :: vs, d :: ds, oss, h => by
    have h' : Rp K G v d ∧ Mix K G H ks vs ds oss := by cases oss <;> exact h
    simp [Mix.len h'.2]
  | true :: ks, v :: vs, d :: ds, os :: oss, h => by simp [Mix.len h.2]
theorem ds_setLc (i : Nat) {y : Str} {py pos spos : Pos} {tg elt iter : Expr} {ifs : List Expr} {scope : Scope} {ow : List (Str × Nat)} {vs : List Nat} {sl : List Nat} {wi : TI} {gt : Shared → Hp → Addr → List (Str × Addr) → List Addr → TG} {tt : Shared → Hp → Addr → List (Str × Addr) → List Addr → TT} {te : Shared → Hp → Addr → List (Str × Addr) → List Addr → TE} {bd : D → Env → Option Env} {fi : Env → R (List D × Env)} {ft : Env → R (Bool × Env)} {fe : Env → R (D × Env)} (nd : X.N.Nodup) (hi : DIt X tw own W cl tg iter wi fi) (ok : BlkOk X.N X.env.scope scope ow)
    (hg : ∀ (s : Shared) (H : Hp) (C : Addr) (cl' : List (Str × Addr)) (fp : List Addr), DG (X.blk s H scope (compEnvC scope cl' C X.env) fp) own sl tg (gt s H C cl' fp) bd)
    (ht : ∀ (s : Shared) (H : Hp) (C : Addr) (cl' : List (Str × Addr)) (fp : List Addr), DTs (X.blk s H scope (compEnvC scope cl' C X.env) fp) tw own WF cl ifs (tt s H C cl' fp) ft)
    (he : ∀ (s : Shared) (H : Hp) (C : Addr) (cl' : List (Str × Addr)) (fp : List Addr), DI (X.blk s H scope (compEnvC scope cl' C X.env) fp) tw own WF cl elt (te s H C cl' fp) fe)
    (hio : i ∉ own := by decide) (hsl : ∀ i ∈ sl, i ∈ ow.map (·.2) := by decide) (hv : ∀ i ∈ ow.map (·.2), i ∉ own := by decide) (hc : X.calm = true := by rfl) (hs : ∀ x, foldedSetIterable iter X.env x = pure x := by intro _; rfl) (hy : X.N[i]? = some y := by rfl) (hyl : X.env.scope.names.lookup y = some .local := by rfl)
    (hsw : swapsWith (.ListComp elt [⟨tg, iter, ifs, 0⟩] scope pos) (some (.Name y py)) spos.line X.env = pure true := by exact sw_true rfl rfl rfl (by decide +kernel)) (hvs : ow.map (·.2) = vs := by rfl) (egt : ∀ s H C cl' fp, gt s H C cl' fp = gt X.s_0 (fun _ => none) 0 [] [] := by intros; rfl) (ett : ∀ s H C cl' fp, tt s H C cl' fp = tt X.s_0 (fun _ => none) 0 [] [] := by intros; rfl) (ete : ∀ s H C cl' fp, te s H C cl' fp = te X.s_0 (fun _ => none) 0 [] [] := by intros; rfl) :
    DS X tw own own oL W cl (.Assign [.Name y py] (.ListComp elt [⟨tg, iter, ifs, 0⟩] scope pos) spos) (tAsg (tLc wi (gt X.s_0 (fun _ => none) 0 [] []) (tt X.s_0 (fun _ => none) 0 [] []) (te X.s_0 (fun _ => none) 0 [] []) vs) (gName i)) (setS i (compD fi vs bd ft fe)) := by
  subst hvs
  have d := dn_comp (pos := pos) nd hi ok hg ht he hsl hv hc hs rfl egt ett ete
  exact ⟨ps_setLc hc nd hy hyl hsw hi.pi ok (fun s H C cl' fp => egt s H C cl' fp ▸ (hg s H C cl' fp).pg) (fun s H C cl' fp => ett s H C cl' fp ▸ (ht s H C cl' fp).pe) (fun s H C cl' fp => ete s H C cl' fp ▸ (he s H C cl' fp).pe) hs, EvS.set hio d.ev.toI⟩
end
/-! ### lengths of argument lists -/
theorem ln_nil : ∀ env r, nilA env = .ok r → r.1.length = 0 := fun env r h => by
  cases h
  rfl
theorem ln_cons {a : Env → R (D × Env)} {b : Env → R (List D × Env)} {n : Nat} (h : ∀ env r, b env = .ok r → r.1.length = n) : ∀ env r, consA a b env = .ok r → r.1.length = n + 1 := fun env r e => by
  unfold consA at e
  cases ha : a env with
  | ok x =>
    rw [ha] at e
    cases hb : b x.2 with
    | ok y =>
      have e' : (b x.2).bind (fun y => R.ok (x.1 :: y.1, y.2)) = .ok r := e
      rw [hb] at e'
      cases e'
      exact congrArg (· + 1) (h _ _ hb)
    | err c =>
      have e' : (b x.2).bind (fun y => R.ok (x.1 :: y.1, y.2)) = .ok r := e
      rw [hb] at e'
      cases e'
    | bad =>
      have e' : (b x.2).bind (fun y => R.ok (x.1 :: y.1, y.2)) = .ok r := e
      rw [hb] at e'
      cases e'
  | err c => rw [ha] at e; cases e
  | bad => rw [ha] at e; cases e
theorem ln_le {b : Env → R (List D × Env)} {n m : Nat} (h : ∀ env r, b env = .ok r → r.1.length = n) (hm : n ≤ m) : ∀ env r, b env = .ok r → r.1.length ≤ m := fun env r e => by
  rw [h env r e]
  exact hm
theorem ln_2 {b : Env → R (List D × Env)} {n : Nat} (h : ∀ env r, b env = .ok r → r.1.length = n) : ∀ env r, b env = .ok r → r.1.length + 2 = n + 2 := fun env r e => by
  rw [h env r e]

/-! ### facts of a text -/
structure FnF (K : PySem.W.Frag) (mg : Str → Option Value) (x : Str) (st : Stmt) (ps : List Str) (f : Addr) (fd : FuncData) : Prop where
  fu : Fun K x x st f fd
  bi : Binds K fd ps []
  gl : mg x = some (.ref f)
structure ExF (K : PySem.W.Frag) (mg : Str → Option Value) (x : Str) (C : Addr) (bm : List Value) : Prop where
  xi : PySem.W.excIn K C [.type "ValueError", .type "Exception", .type "BaseException", .type "object"] "ValueError.__new__" = true
  gl : mg x = some (.ref C)
  kp : PySem.W.keepIn K (.ref C) = true
  bs : PySem.W.subIn K (.ref C) (.type "BaseException") = some true
  ty : PySem.W.typeIn K (.ref C) = some (.type "type")
section
variable {P : Program} {w : World} {K : PySem.W.Frag} {mg : Str → Option Value} {base : Heap} {N : List Str} {qual : Str} {scope : Scope} {f : Addr} {cdv : Value} {A : Around} {outer : List PySem.Env} {s : Shared} {H : Hp} {E : XK}
theorem tkD : L2N.Takes (cxOf (L2N.CX P w) P w K mg base N qual scope f cdv A outer s H E) (fun cls d _ H' => E cls d H') := L2N.takes_of rfl rfl rfl rfl
theorem pwD : PassesOwn (model P w) (A.deeper (envOfC qual scope s.heap.objs.size f cdv)) (envOfC qual scope s.heap.objs.size f cdv) (cxOf (L2N.CX P w) P w K mg base N qual scope f cdv A outer s H E).xe := passes_of (X := cxOf (L2N.CX P w) P w K mg base N qual scope f cdv A outer s H E) rfl
end
theorem tkF {X : Cx} : L2N.Takes X WF := fun _ _ ⟨_, _, _, _, _, _, _, _, _, _, _, _, _, _, _, _, z⟩ => (show False from z).elim
theorem u65 {k : Nat} {A : Around} (r : Room k A) : A.units + 65 < cLine := by have := r.un; omega
section
variable {X : Cx} {tw : List Nat} {own oN oL : List Nat} {W : WX} {cl : Nat → Addr} {pos : Pos} {x : Str}
theorem de_gint {i : Int} (hm : ∃ t, X.mg x = some (.int i t)) (hg : Gl X x := by rfl) (hd : (x == ("__debug__" : Str)) = false := by decide) : DI X tw own W cl (.Name x pos) (tC (.int i)) (cD (.int i)) := by
  obtain ⟨t, h⟩ := hm
  exact de_glob h ⟨t, rfl⟩ (fun _ => .int i) hg hd
theorem de_gstr {i : Str} (hm : ∃ t, X.mg x = some (.str i t)) (hg : Gl X x := by rfl) (hd : (x == ("__debug__" : Str)) = false := by decide) : DI X tw own W cl (.Name x pos) (tC (.str i)) (cD (.str i)) := by
  obtain ⟨t, h⟩ := hm
  exact de_glob h ⟨t, rfl⟩ (fun _ => .str i) hg hd
theorem ds_raiseE {k : Nat} {x m : Str} {j : Nat} {p p2 pos2 : Pos} {bm : List Value} (e : ExF X.K X.mg x (cl k) bm) (tk : L2N.Takes X W) (hc : X.calm = true := by rfl) (hg : Gl X x := by rfl) (hdb : (x == ("__debug__" : Str)) = false := by decide) :
    DS X tw own oN oL W cl (.Raise (some (.Call (.Name x p) [.Constant (.str m) j p2] [] pos)) none pos2) (fun _ σ H => W (.ref (cl k)) none σ H) (raiseS k) :=
  ds_raise PySem.F.excBase_ValueError e.xi e.gl e.kp (raises_own e.bs e.ty) tk hc hg hdb
end
end Hz

namespace Hz
open PySem PySem.Spec PyProof.Rows L2

/-! ### new objects out of built-ins -/
def OpNN (K : PySem.W.Frag) (r : List V → Hp → VK → Prop) (g : List D → Option D) : Prop := ∀ (G H : Hp) (xs : List V) (ds : List D) (d : D) (Q : VK), Same G H → RpA K G xs ds → g ds = some d → (∀ p o, H p = none → Cell K G (upd H p o) p d → Q (.ref p) (upd H p o)) → r xs H Q
section
variable {K : PySem.W.Frag} {tw : List Nat} {own : List Nat} {W : WX} {cl : Nat → Addr} {te ta tb : TE} {fe fa fb : Env → R (D × Env)} {tA : TA} {fA : Env → R (List D × Env)}
theorem EvN.opN {r : List V → Hp → VK → Prop} {g : List D → Option D} (ho : OpNN K r g) (ha : EvA K tw own W cl tA fA) : EvN K tw own W cl (tCB r tA) (Hz.opN g fA) := fun H0 P G env σ H Q hp ok ans => by
  refine ha H0 P G env σ H _ hp ok (ans.bind.mono (fun a ha G1 H1 xs g1 ok1 rx => ?_) fun _ h => h)
  obtain ⟨d, e, q⟩ := ans_lift ha
  exact ho G1 H1 xs a.1 d Q ok1.sub rx e fun p o np c => q G1 H1 p o g1 ok1 np c
/-! ranges as lists -/
def rgD (i j : Int) : List D := (List.range (j - i).toNat).map fun k => PyData.int (i + (k : Nat))
def lrg2D : D → D → Option D
  | .int i, .int j => if -1000 ≤ i ∧ i ≤ 1000 ∧ -1000 ≤ j ∧ j ≤ 1000 then some (.list (rgD i j)) else none
  | _, _ => none
/-! dicts -/
def keyOf : D → Option Key
  | .int i => some (.inl i)
  | .str x => some (.inr x)
  | _ => none
theorem keyOf_some {d : D} {k : Key} (h : keyOf d = some k) : d = kD k := by
  cases d <;> first | (cases h; done) | skip
  · cases h; rfl
  · cases h; rfl
theorem Rp.key {G : Hp} {v : V} {k : Key} (h : Rp K G v (kD k)) : v = kV k := by
  cases k with
  | inl i => generalize e : kD (.inl i) = d at h; cases h <;> first | (cases e; rfl; done) | (cases e; done)
  | inr x => generalize e : kD (.inr x) = d at h; cases h <;> first | (cases e; rfl; done) | (cases e; done)
def keq0 : D → D → Bool
  | .int i, .int j => decide (i = j)
  | .str x, .str y => decide (x = y)
  | _, _ => false
def keqL : List D → List D → Bool
  | [], [] => true
  | a :: r, b :: t => keq0 a b && keqL r t
  | _, _ => false
def keqD : D → D → Bool
  | .tuple a, .tuple b => keqL a b
  | a, b => keq0 a b
theorem keq0_k (k k' : Key) : keq0 (kD k) (kD k') = decide (k = k') := by
  cases k <;> cases k' <;> simp [kD, keq0]
theorem keqD_k (k k' : Key) : keqD (kD k) (kD k') = decide (k = k') := by
  rw [← keq0_k]
  cases k <;> cases k' <;> rfl
def valD (ds : List (D × D)) (k : D) : Option D := match ds with
  | [] => none
  | (k', d) :: r => if keqD k' k = true then some d else valD r k
def hasD (ds : List (D × D)) (k : D) : Bool := (valD ds k).isSome
def updD (ds : List (D × D)) (k d : D) : List (D × D) := match ds with
  | [] => []
  | (k', d') :: r => (if keqD k' k = true then (k', d) else (k', d')) :: updD r k d
def putD (ds : List (D × D)) (k d : D) : List (D × D) := if hasD ds k = true then updD ds k d else ds ++ [(k, d)]
theorem keqD_self (k : Key) : keqD (kD k) (kD k) = true := by rw [keqD_k]; simp
theorem keqD_ne {k k' : Key} (h : k' ≠ k) : ¬ keqD (kD k') (kD k) = true := by rw [keqD_k]; simpa using h
theorem RpK.val {G : Hp} {k : Key} : ∀ {kvs : List (Key × V)} {ds : List (D × D)}, RpK K G kvs ds → (∀ d, valD ds (kD k) = some d → ∃ v, valV kvs k = some v ∧ Rp K G v d) ∧ (valD ds (kD k) = none → valV kvs k = none)
  | _, _, .nil => ⟨(fun d h => by cases h), fun _ => rfl⟩
  | _, _, .cons (k := k') (v := v) (d := d') r t => by
    obtain ⟨h1, h2⟩ := RpK.val (k := k) t
    by_cases e : k' = k
    · subst e
      refine ⟨fun d h => ?_, fun h => ?_⟩
      · rw [valD, if_pos (keqD_self _)] at h
        cases h
        exact ⟨v, valV_pos rfl, r⟩
      · rw [valD, if_pos (keqD_self _)] at h
        cases h
    · rw [valD, if_neg (keqD_ne e), valV_neg e]
      exact ⟨h1, h2⟩
theorem RpK.any {G : Hp} {k : Key} {kvs : List (Key × V)} {ds : List (D × D)} (r : RpK K G kvs ds) : (kvs.any fun kv => decide (kv.1 = k)) = hasD ds (kD k) := by
  rw [valV_any]
  unfold hasD
  obtain ⟨h1, h2⟩ := RpK.val (k := k) r
  cases e : valD ds (kD k) with
  | none => rw [h2 e]; rfl
  | some d =>
    obtain ⟨v, hv, _⟩ := h1 d e
    rw [hv]
    rfl
theorem RpK.updK {G : Hp} {k : Key} {v : V} {d : D} (rv : Rp K G v d) : ∀ {kvs : List (Key × V)} {ds : List (D × D)}, RpK K G kvs ds → RpK K G (kvs.map fun kv => if kv.1 = k then (kv.1, v) else kv) (updD ds (kD k) d)
  | _, _, .nil => .nil
  | _, _, .cons (k := k') r t => by
    have ih := RpK.updK (k := k) rv t
    by_cases e : k' = k
    · subst e
      rw [List.map_cons, updD, if_pos (keqD_self _), if_pos rfl]
      exact .cons rv ih
    · rw [List.map_cons, updD, if_neg (keqD_ne e), if_neg e]
      exact .cons r ih
theorem RpK.snoc {G : Hp} {k : Key} {v : V} {d : D} (rv : Rp K G v d) : ∀ {kvs : List (Key × V)} {ds : List (D × D)}, RpK K G kvs ds → RpK K G (kvs ++ [(k, v)]) (ds ++ [(kD k, d)])
  | _, _, .nil => .cons rv .nil
  | _, _, .cons r t => .cons r (RpK.snoc rv t)
theorem RpK.put {G : Hp} {k : Key} {v : V} {d : D} {kvs : List (Key × V)} {ds : List (D × D)} (r : RpK K G kvs ds) (rv : Rp K G v d) : RpK K G (putK kvs k v) (putD ds (kD k) d) := by
  unfold putK putD
  rw [RpK.any (k := k) r]
  split
  · exact r.updK rv
  · exact r.snoc rv
theorem RpK.length {G : Hp} : ∀ {kvs : List (Key × V)} {ds : List (D × D)}, RpK K G kvs ds → kvs.length = ds.length
  | _, _, .nil => rfl
  | _, _, .cons _ t => congrArg (· + 1) (RpK.length t)
def mergeD (ds : List (D × D)) : List (D × D) → List (D × D)
  | [] => ds
  | kd :: r => mergeD (putD ds kd.1 kd.2) r
def pairsOf : List D → Option (List (D × D))
  | [] => some []
  | .tuple [k, d] :: r => match keyOf k, pairsOf r with
    | some _, some l => some ((k, d) :: l)
    | _, _ => none
  | _ :: _ => none
def dictD : List D → Option D
  | [.list ds] => (pairsOf ds).map fun l => .dict (mergeD [] l)
  | _ => none
theorem pairs_rp {G H : Hp} (sub : Same G H) : ∀ {xs : List V} {ds : List D} {l : List (D × D)}, RpA K G xs ds → pairsOf ds = some l → ∃ (ps : List Addr) (kvs : List (Key × V)), xs = ps.map V.ref ∧ Paired (fun p kv => SqT K H p [kV kv.1, kv.2]) ps kvs ∧ RpK K G kvs l
  | _, _, l, .nil, e => by cases e; exact ⟨[], [], rfl, .nil, .nil⟩
  | _, _, l, .cons (d := d) (ds := ds) (v := v) r t, e => by
    unfold pairsOf at e
    split at e
    · rename_i heq
      cases heq
    · rename_i k d' r' heq
      obtain ⟨rfl, rfl⟩ := List.cons.inj heq
      cases hk : keyOf k with
      | none => rw [hk] at e; cases e
      | some k' =>
        cases hp : pairsOf ds with
        | none => rw [hk, hp] at e; cases e
        | some l' =>
          rw [hk, hp] at e
          cases e
          obtain ⟨ps, kvs, rfl, pp, rk⟩ := pairs_rp sub t hp
          have ek := keyOf_some hk
          subst ek
          cases r with
          | tup h a =>
            cases a with
            | cons r1 a =>
              cases a with
              | cons r2 a =>
                cases a
                have e1 := r1.key
                subst e1
                exact ⟨_ :: ps, (k', _) :: kvs, rfl, .cons (Same.sqT sub h) pp, .cons r2 rk⟩
    · cases e
theorem RpK.merge {G : Hp} : ∀ {more : List (Key × V)} {ms : List (D × D)} {kvs : List (Key × V)} {ds : List (D × D)}, RpK K G more ms → RpK K G kvs ds → RpK K G (mergeK kvs more) (mergeD ds ms)
  | _, _, _, _, .nil, r => r
  | _, _, _, _, .cons (k := k) rv t, r => by
    have h := RpK.merge t (r.put (k := k) rv)
    exact h
def rDictP (K : PySem.W.Frag) : List V → Hp → VK → Prop := fun xs H Q => ∃ (a : Addr) (ps : List Addr) (kvs : List (Key × V)), xs = [.ref a] ∧ SqL K H a (ps.map V.ref) ∧ Paired (fun p kv => SqT K H p [kV kv.1, kv.2]) ps kvs ∧ ∀ p, H p = none → Q (.ref p) (upd H p (.dK (mergeK [] kvs)))
theorem v_dict : OpNN K (rDictP K) dictD := fun G H xs ds d Q sub r e q => by
  unfold dictD at e
  split at e
  · rename_i ds'
    rw [Option.map_eq_some_iff] at e
    obtain ⟨l, hl, rfl⟩ := e
    obtain ⟨v, rfl, rr⟩ := rp1 r
    cases rr with
    | lst h a =>
      obtain ⟨ps, kvs, rfl, pp, rk⟩ := pairs_rp sub a hl
      exact ⟨_, ps, kvs, rfl, SqL.of (sub _ _ h), pp, fun p np => q p _ np ⟨sub.free np, .inr (.inl ⟨_, _, rfl, upd_same, rk.merge .nil⟩)⟩⟩
  · cases e
theorem RpT.noval {G : Hp} {k : Key} : ∀ {kvs : List (List Key × V)} {ds : List (D × D)}, RpT K G kvs ds → valD ds (kD k) = none
  | _, _, .nil => rfl
  | _, _, .cons r t => by
    have ih := RpT.noval (k := k) t
    cases k <;> exact ih
theorem dget_rd {H : Hp} {a : Addr} {kvs : List (Key × V)} {k : Key} (e : Rd H a (.dK kvs)) : DGet H a (kV k) (valV kvs k) := .inl ⟨kvs, k, e, rfl, rfl⟩
def dgetD : D → D → Option D
  | .dict ds, k => match keyOf k with
    | some _ => valD ds k
    | none => none
  | _, _ => none
theorem EvI.dget (ha : EvI K tw own W cl ta fa) (hb : EvI K tw own W cl tb fb) : EvI K tw own W cl (tDGet ta tb) (Hz.op2 dgetD fa fb) := fun H0 P G env σ H Q hp ok ans => by
  refine ha H0 P G env σ H _ hp ok (ans.bind.mono (fun a ha G1 H1 x g1 ok1 rx => ?_) fun _ h => h)
  refine hb H0 P G1 a.2 σ H1 _ hp ok1 (ha.bind.mono (fun b hb G2 H2 y g2 ok2 ry => ?_) fun _ h => h)
  obtain ⟨d, e, q⟩ := ans_lift hb
  obtain ⟨a1, a2⟩ := a
  obtain ⟨b1, b2⟩ := b
  have rx := rx.mono g2.1
  cases a1 <;> first | (cases e; done) | skip
  rename_i ds
  simp only [dgetD] at e
  cases hk : keyOf b1 with
  | none => rw [hk] at e; cases e
  | some k =>
    rw [hk] at e
    have ek := keyOf_some hk
    subst ek
    have ey := ry.key
    subst ey
    cases rx with
    | dic h r =>
      obtain ⟨v, hv, rv⟩ := (RpK.val r).1 d e
      exact ⟨_, v, rfl, hv ▸ dget_rd (Same.rd ok2.sub h), q G2 H2 v (g1.trans g2) ok2 rv⟩
    | dit h r =>
      have e' : valD ((PyData.bool true, PyData.none) :: _) (kD k) = some d := e
      have e2 : (if keqD (.bool true) (kD k) = true then some PyData.none else valD _ (kD k)) = some d := e'
      rw [if_neg (by cases k <;> simp [keqD, keq0, kD]), RpT.noval r] at e2
      cases e2
    | scr h =>
      cases k <;> cases e
    | ins h c r =>
      cases k <;> cases e
    | rcd h r =>
      have e2 : (if keqD (.bool false) (kD k) = true then some (PyData.int 1) else valD _ (kD k)) = some d := e
      rw [if_neg (by cases k <;> simp [keqD, keq0, kD])] at e2
      obtain ⟨v, hv, rv⟩ := (RpK.val r).1 d e2
      exact ⟨_, v, rfl, hv ▸ dget_rd (Same.rd ok2.sub h), q G2 H2 v (g1.trans g2) ok2 rv⟩
def revD : D → Option D
  | .list ds => some (.list ds.reverse)
  | _ => none
end
section
variable {X : Cx} {tw : List Nat} {own : List Nat} {W : WX} {cl : Nat → Addr} {a b c e : Expr} {es : List Expr} {pos p p1 p2 p3 : Pos} {ta tb te : TE} {fa fb fe : Env → R (D × Env)} {tA : TA} {fA : Env → R (List D × Env)}
theorem hu_of {k : Nat} {A : Around} (r : Room k A) : A.units + 1 < cLine := by have := r.un; omega
theorem dn_bty {x : Str} {T : String} {r : List V → Hp → VK → Prop} {g : List D → Option D} (hc : CallR X (.type T) r) (hv : OpNN X.K r g) (hm : X.mg x = none) (hbt : bootBuiltins x = some (.type T)) (ha : DA X tw own W cl (e :: es) tA fA) (hg : Gl X x := by rfl) (hn : x ≠ "__name__" := by decide) (hdb : (x == ("__debug__" : Str)) = false := by decide)
    (he : starEach (e :: es) X.env = (false, eval e X.env) :: starEach es X.env := by rfl) (hpl : (backTo pos (starEach es X.env)).any (·.1) = false := by rfl) : DN X tw own W cl (.Call (.Name x p) (e :: es) [] pos) (tCB r tA) (opN g fA) :=
  ⟨pe_callTy hc hg hm hbt ha.pe hn hdb he hpl, EvN.opN hv ha.ev⟩
theorem dn_dict (hm : X.mg "dict" = none) (ha : DA X tw own W cl [e] tA fA) (hc : X.calm = true := by rfl) (hg : Gl X "dict" := by rfl) (he : starEach [e] X.env = (false, eval e X.env) :: starEach [] X.env := by rfl) (hpl : (backTo pos (starEach [] X.env)).any (·.1) = false := by rfl) :
    DN X tw own W cl (.Call (.Name "dict" p) [e] [] pos) (tCB (rDictP X.K) tA) (opN dictD fA) := dn_bty (call_dictP hc) v_dict hm boot_dict ha hg (by decide) (by decide) he hpl
theorem de_dget (hu : X.A.units + 1 < cLine) (ha : DI X tw own W cl a ta fa) (hb : DI X tw own W cl b tb fb) (hs : NoSl b := by exact fun _ _ => rfl) : DI X tw own W cl (.Subscript a b pos) (tDGet ta tb) (op2 dgetD fa fb) := ⟨pe_dget hu ha.pe hb.pe hs, EvI.dget ha.ev hb.ev⟩
theorem EvS.retO {K : PySem.W.Frag} {oN oL : List Nat} (h : EvI K tw own W cl te fe) : EvS K tw own oN oL W cl (tRet te) (retS fe) := EvS.of fun H0 P G env σ H E hp ok ans => by
  refine h H0 P G env σ H _ hp ok (ans.bind.mono (fun a ha G1 H1 x g1 ok1 rx => ?_) fun c h H' fr => h σ H' ok.ln fr)
  obtain ⟨G2, g2, ok2⟩ := StOk.freezeAll hp own.length own G1 (Nat.le_refl _) ok1
  exact ha G2 σ H1 x (g1.trans g2) ok2 (rx.mono g2.1)
theorem ds_retO {oN oL : List Nat} (h : DI X tw own W cl e te fe) : DS X tw own oN oL W cl (.Return (some e) pos) (tRet te) (retS fe) := ⟨ps_ret h.pe, EvS.retO h.ev⟩
end
end Hz

namespace Hz
open PySem PySem.Spec PyProof.Rows L2 L2H

/-! ### a def that is handed the error that is handled -/
section
variable {P : Program} {w : World} {K : PySem.W.Frag} {mg : Str → Option Value} {base : Heap} {cl : Nat → Addr} {js : List Nat} {CX : CXT}
end
section
variable {X : Cx} {cl : Nat → Addr} {js : List Nat} {CX : CXT} {f : Addr} {fd : FuncData} {k : Nat}
end
end Hz

namespace Hz
open PySem PySem.Spec PyProof.Rows L2 L2H

/-! ### list.count -/
/-! ### one question: isinstance(e, c) -/
theorem RoomH.u65 {k : Nat} {A : Around} (r : RoomH k A) : A.units + 65 < cLine := by have := r.un; omega
/-! ### try: .. except X as n: return f(n), the whole body of a def -/
section
variable {P : Program} {w : World} {K : PySem.W.Frag} {mg : Str → Option Value} {base : Heap} {cl : Nat → Addr} {js : List Nat}
end
end Hz

namespace Hz
open PySem PySem.Spec PyProof.Rows L2

/-! ### [f, g, ..][i](args) -/
section
variable {X : Cx} {cl : Nat → Addr} {k n : Nat} {e : Expr} {es : List Expr} {fs : List (Addr × (List D → R D))} {pos q lp sp p3 : Pos} {W : WX} {tw : List Nat} {own : List Nat} {ti : TE} {fi : Env → R (D × Env)} {tA : TA} {fA : Env → R (List D × Env)}
end

/-! ### reading the def that tells which error it is -/
end Hz

namespace Hz
open PySem PySem.Spec PyProof.Rows L2

/-! ### a tuple of texts in the module -/
section
variable {X : Cx} {tw : List Nat} {own : List Nat} {W : WX} {cl : Nat → Addr} {pos : Pos} {x : Str}
end
/-! ### list(xs) -/
theorem vn_list {K : PySem.W.Frag} : OpNN K (rListOf K) listD := fun G H xs ds d Q sub r e q => by
  obtain ⟨ys, h, rfl⟩ := list_shape e
  rcases h with rfl | rfl
  · obtain ⟨v, rfl, rr⟩ := rp1 r
    cases rr with
    | lst h a => exact ⟨_, _, rfl, .inl (SqL.of (sub _ _ h)), fun l nl => q l _ nl ⟨sub.free nl, .inl ⟨_, _, rfl, upd_same, a⟩⟩⟩
  · obtain ⟨v, rfl, rr⟩ := rp1 r
    cases rr with
    | tup h a => exact ⟨_, _, rfl, .inr (Same.sqT sub h), fun l nl => q l _ nl ⟨sub.free nl, .inl ⟨_, _, rfl, upd_same, a⟩⟩⟩
section
variable {X : Cx} {tw : List Nat} {own : List Nat} {W : WX} {cl : Nat → Addr} {e : Expr} {p pos : Pos} {tA : TA} {fA : Env → R (List D × Env)}
theorem dn_list (hm : X.mg "list" = none) (ha : DA X tw own W cl [e] tA fA) (hg : Gl X "list" := by rfl) (he : starEach [e] X.env = (false, eval e X.env) :: starEach [] X.env := by rfl) (hpl : (backTo pos (starEach [] X.env)).any (·.1) = false := by rfl) :
    DN X tw own W cl (.Call (.Name "list" p) [e] [] pos) (tCB (rListOf X.K) tA) (opN listD fA) := dn_bty call_list_of vn_list hm boot_list ha hg (by decide) (by decide) he hpl
end
end Hz

namespace Hz
open PySem PySem.Spec PyProof.Rows L2
/-! ### k in d, k not in d: numbers, texts as keys -/
def numKeys : List (D × D) → Bool
  | (.bool _, _) :: _ => false
  | (.none, _) :: _ => false
  | _ => true
section
variable {K : PySem.W.Frag} {tw : List Nat} {own : List Nat} {W : WX} {cl : Nat → Addr} {ta tb : TE} {fa fb : Env → R (D × Env)}
end
section
variable {X : Cx} {tw : List Nat} {own : List Nat} {W : WX} {cl : Nat → Addr} {a b : Expr} {pos : Pos} {ta tb : TE} {fa fb : Env → R (D × Env)}
end
end Hz

/-! ### enumerate of a tuple: the same road as for a list, by the tuple's own iterator -/
namespace Hz
open PySem PySem.Sem
open AutoSeq1 (wpAny_loadPart')
section
variable {prog : Program} {w : World} {A : Around} {E : Value → Shared → Prop} {s : Shared}
end
end Hz
namespace Hz
open PySem PySem.Spec PyProof.Rows L2
section
variable {K : PySem.W.Frag} {tw : List Nat} {own : List Nat} {W : WX} {cl : Nat → Addr} {ta : TA} {fa : Env → R (List D × Env)}
end
section
variable {X : Cx} {tw : List Nat} {own : List Nat} {W : WX} {cl : Nat → Addr} {e : Expr} {p pos tpos : Pos} {ta : TA} {fa : Env → R (List D × Env)}
end
end Hz

namespace Hz
open PySem PySem.Spec PyProof.Rows L2
/-! ### sorted(set(xs)), xs a list of pairs of small numbers: by one number for each pair -/
section
variable {K : PySem.W.Frag}
end
section
variable {X : Cx} {tw : List Nat} {own : List Nat} {W : WX} {cl : Nat → Addr} {a : Expr} {p p2 q pos : Pos} {ta : TE} {fa : Env → R (D × Env)}
end
/-! ### slices by twos -/
section
variable {X : Cx}
variable {tw : List Nat} {own : List Nat} {W : WX} {cl : Nat → Addr} {a : Expr} {p p1 p2 p3 pos : Pos} {ta : TE} {fa : Env → R (D × Env)}
end
end Hz

/-! ### set of a tuple of tuples: the library's way for a list, turned to the tuple's iterator -/
namespace Hz
open PySem PySem.Spec PyProof.Rows L2
section
variable {P : Program} {w : World} {A : Around} {E : Value → Shared → Prop} {s : Shared}
end
section
variable {X : Cx}
end
section
variable {X : Cx} {tw : List Nat} {own : List Nat} {W : WX} {cl : Nat → Addr} {a : Expr} {p p2 q pos : Pos} {ta : TE} {fa : Env → R (D × Env)}
end
end Hz

namespace Hz
open PySem PySem.Spec PyProof.Rows L2
/-! ### a chain of three comparisons, as a test -/
section
variable {X : Cx} {a b c d : Expr} {ta tb tc td : TE} {pos : Pos}
end
section
variable {K : PySem.W.Frag} {tw : List Nat} {own : List Nat} {W : WX} {cl : Nat → Addr} {ta tb tc td : TE} {fa fb fc fd : Env → R (D × Env)}
end
section
variable {X : Cx} {tw : List Nat} {own : List Nat} {W : WX} {cl : Nat → Addr} {a b c d : Expr} {ta tb tc td : TE} {fa fb fc fd : Env → R (D × Env)} {pos : Pos}
end
end Hz

namespace Hz
open PySem PySem.Spec PyProof.Rows L2
/-! ### sorted(t), t a tuple of pairs of small numbers, all different -/
theorem perm_lift {α β : Type} {f : α → β} {l m : List β} (h : l.Perm m) : ∀ ks : List α, m = ks.map f → ∃ L : List α, L.Perm ks ∧ l = L.map f := by
  induction h with
  | nil =>
    intro ks e
    have : ks = [] := List.map_eq_nil_iff.mp e.symm
    subst this
    exact ⟨[], List.Perm.refl _, rfl⟩
  | cons x _ ih =>
    intro ks e
    cases ks with
    | nil => cases e
    | cons k ks =>
      rw [List.map_cons] at e
      injection e with e1 e2
      obtain ⟨L, h1, h2⟩ := ih ks e2
      exact ⟨k :: L, h1.cons k, by rw [List.map_cons, e1, h2]⟩
  | swap x y l =>
    intro ks e
    match ks, e with
    | [], e => cases e
    | [_], e => simp at e
    | a :: b :: ks, e =>
      simp only [List.map_cons, List.cons.injEq] at e
      obtain ⟨e1, e2, e3⟩ := e
      exact ⟨b :: a :: ks, List.Perm.swap a b ks, by rw [List.map_cons, List.map_cons, e1, e2, e3]⟩
  | trans _ _ ih1 ih2 =>
    intro ks e
    obtain ⟨L2, h1, h2⟩ := ih2 ks e
    obtain ⟨L1, h3, h4⟩ := ih1 L2 h2
    exact ⟨L1, h3.trans h1, h4⟩
section
variable {prog : Program} {w : World} {A : Around} {E : Value → Shared → Prop} {s : Shared}
theorem collect_sz {Q : List Value → Shared → Prop} (it : Addr) {T : String} {o : Obj} {items : Array Value} {n : Nat} (hT : T = "list" ∨ T = "tuple")
    (ho : s.heap.get? it = some o) (hc : o.cls = .type T) (hd : o.data = .seq items n)
    (hQ : ∀ h', (∀ b o', s.heap.get? b = some o' → h'.get? b = some o') → s.heap.objs.size ≤ h'.objs.size → Q items.toList { s with heap := h' }) (hsz : items.size ≤ sizeLine := by size_fits) :
    wpAny (model prog w) A (collect (.ref it)) Q E s := by
  unfold collect
  refine wpAny_bind (wpAny_runValue (codeAny_builtin F.entry_proto_collect ?_))
  rw [Around.under_plainId F.plain_proto_collect _]
  show wpAny _ A.in1 (newList [] >>= fun l => again (.builtin "list.__iadd__" ⟨[l, .ref it], []⟩)) _ _ s
  refine wpAny_bind (wpAny_newObj_type ?_)
  refine wpAny_pure ⟨plainId_quiet F.plain_list_iadd _, codeAny_builtin F.entry_list_iadd ?_⟩
  rw [Around.under_plainId F.plain_list_iadd _]
  show wpAny _ A.in1 (Builtin.List.listExtendWith (.ref s.heap.objs.size) (.ref it) (.ref s.heap.objs.size)) _ _ _
  have hS : (s.heap.push { cls := .type "list", data := .seq ([] : List Value).toArray }).get? s.heap.objs.size = some { cls := .type "list", data := .seq #[] 0 } := Heap.get?_push_size _ rfl
  have hS₂ := Heap.get?_update_self (Obj.mapSeq (· ++ items)) hS rfl
  have fin' : wpAny (model prog w) A (match Value.ref s.heap.objs.size with
      | Value.ref a => do
        match (← load a).data with
          | Data.seq xs _ => pure xs.toList
          | _ => unsupported "internal:collect"
      | _ => unsupported "internal:collect") Q E { s with heap := (s.heap.push { cls := .type "list", data := .seq ([] : List Value).toArray }).update s.heap.objs.size (Obj.mapSeq (· ++ items)) } := by
    show wpAny _ A (load s.heap.objs.size >>= _) _ _ _
    refine wpAny_bind (wpAny_load hS₂ ?_)
    refine wpAny_pure ?_
    have e : ((#[] : Array Value) ++ items).toList = items.toList := by simp
    show Q ((#[] : Array Value) ++ items).toList _
    rw [e]
    refine hQ _ (fun b o' hb => ?_) (by rw [Heap.size_update, Heap.size_push]; exact Nat.le_succ _)
    exact (Heap.get?_update_other _ _ (Nat.ne_of_gt (Heap.lt_size hb))).trans (Heap.get?_push_of_some _ hb)
  refine wpAny_mono (wpAny_extend_seq (hsz := hsz) (A := A) (R := fun r s' => r = .ok (.ret (.ref s.heap.objs.size)) ∧ s' = { s with heap := (s.heap.push { cls := .type "list", data := .seq ([] : List Value).toArray }).update s.heap.objs.size (Obj.mapSeq (· ++ items)) })
    (s := { s with heap := s.heap.push { cls := .type "list", data := .seq ([] : List Value).toArray } }) _ it _ 0 hT hS (Heap.get?_push_of_some _ ho) hc hd ⟨rfl, rfl⟩) (fun fin s' h => ?_) (fun e s' h => ?_)
  · cases fin with
    | done f =>
      obtain ⟨e, rfl⟩ := h
      cases e
      exact fin'
    | again c' => exact ⟨h.1, codeAny_mono h.2 fun r s'' hr => by obtain ⟨rfl, rfl⟩ := hr; exact fin'⟩
  · exact absurd h.1 (by simp)
end
section
variable {X : Cx}
end
section
variable {X : Cx} {tw : List Nat} {own : List Nat} {W : WX} {cl : Nat → Addr} {a : Expr} {p pos : Pos} {ta : TE} {fa : Env → R (D × Env)}
end
end Hz

namespace Hz
open PySem PySem.Spec PyProof.Rows L2
/-! ### texts: str, int, split, join -/
def strsOf : List D → Option (List Str)
  | [] => some []
  | .str a :: r => (strsOf r).map (a :: ·)
  | _ => none
theorem strsOf_eq : ∀ {ds : List D} {ys : List Str}, strsOf ds = some ys → ds = ys.map PyData.str
  | [], ys, h => by
    cases h
    rfl
  | d :: ds, ys, h => by
    cases d <;> first | (cases h; done) | skip
    rename_i a
    simp only [strsOf, Option.map_eq_some_iff] at h
    obtain ⟨r, e, rfl⟩ := h
    rw [strsOf_eq e]
    rfl
def splitM : D → D → Option D
  | .str a, .str b => if (b.length == 0) = false ∧ a.length ≤ 100000 then some (.list ((Txt.split a b).map PyData.str)) else none
  | _, _ => none
def joinM : D → D → Option D
  | .str a, .list ds => match strsOf ds with
    | some ys => if (ys.map (·.length)).sum + ys.length * a.length ≤ 16777216 then some (.str (Txt.join a ys)) else none
    | none => none
  | _, _ => none
section
variable {X : Cx}
end
section
variable {K : PySem.W.Frag}
end
/-! methods of texts with one argument: the text comes first -/
def isStrD : D → Bool
  | .str _ => true
  | _ => false
def strM (g : D → D → Option D) (a b : Env → R (D × Env)) : Env → R (D × Env) := fun e => (a e).bind fun x => if isStrD x.1 = true then (b x.2).bind fun y => (lift (g x.1 y.1)).bind fun d => .ok (d, y.2) else .bad
section
variable {K : PySem.W.Frag} {tw : List Nat} {own : List Nat} {W : WX} {cl : Nat → Addr} {ta tb : TE} {fa fb : Env → R (D × Env)}
def OpS (K : PySem.W.Frag) (r : V → List V → Hp → VK → Prop) (g : D → D → Option D) : Prop := ∀ (G H : Hp) (x y : V) (dx dy d : D) (Q : VK), Same G H → Rp K G x dx → Rp K G y dy → g dx dy = some d → (∀ G' H' v, Grow G H G' H' → Rp K G' v d → Q v H') → r x [y] H Q
theorem EvI.strM {r : V → List V → Hp → VK → Prop} {g : D → D → Option D} (ho : OpS K r g) (ha : EvI K tw own W cl ta fa) (hb : EvI K tw own W cl tb fb) : EvI K tw own W cl (tM1 r ta tb) (Hz.strM g fa fb) := fun H0 P G env σ H Q hp ok ans => by
  refine ha H0 P G env σ H _ hp ok (ans.bind.mono (fun a ha' G1 H1 x g1 ok1 rx => ?_) fun _ h => h)
  by_cases ht : isStrD a.1 = true
  · rw [if_pos ht] at ha'
    refine ⟨?_, hb H0 P G1 a.2 σ H1 _ hp ok1 (ha'.bind.mono (fun b hb' G2 H2 y g2 ok2 ry => ?_) fun _ h => h)⟩
    · obtain ⟨a1, a2⟩ := a
      cases rx <;> first | exact ⟨_, rfl⟩ | cases ht
    · obtain ⟨d, e, q⟩ := ans_lift hb'
      exact ho G2 H2 x y a.1 b.1 d Q ok2.sub (rx.mono g2.1) ry e fun G' H' v gg rv => q G' H' v ((g1.trans g2).trans (gg.gr ok2)) (ok2.grow gg) rv
  · rw [if_neg ht] at ha'
    exact ha'.elim
theorem v_split : OpS K (fun x xs H Q => ∃ a b, x = .str a ∧ xs = [.str b] ∧ (b.length == 0) = false ∧ a.length + 2 ≤ sizeLine ∧ rNewStrs (Txt.split a b) H Q) splitM := fun G H x y dx dy d Q sub rx ry e q => by
  cases rx <;> first | (cases e; done) | skip
  cases ry <;> first | (cases e; done) | skip
  rename_i a b
  simp only [splitM] at e
  split at e
  · rename_i hc
    cases e
    refine ⟨a, b, rfl, rfl, hc.1, by rw [sizeLine_eq]; omega, fun p np => ?_⟩
    exact q _ _ _ (Grow.lay sub np) (.lst upd_same (RpA.of_strs _))
  · cases e
theorem v_join : OpS K (fun x xs H Q => ∃ a p, ∃ ys : List Str, x = .str a ∧ xs = [.ref p] ∧ (SqL K H p (ys.map V.str) ∨ SqT K H p (ys.map V.str)) ∧ (ys.map (·.length)).sum + ys.length * a.length ≤ 16777216 ∧ Q (.str (Txt.join a ys)) H) joinM := fun G H x y dx dy d Q sub rx ry e q => by
  cases rx <;> first | (cases e; done) | skip
  rename_i a
  cases ry <;> first | (cases e; done) | skip
  rename_i l vs ds h r
  simp only [joinM] at e
  split at e
  · rename_i ys hys
    split at e
    · rename_i hz
      cases e
      have ed := strsOf_eq hys
      subst ed
      have ev := RpA.strs r
      subst ev
      exact ⟨a, l, ys, rfl, rfl, .inl (SqL.of (sub _ _ h)), hz, q G H _ (Grow.refl sub) (.str _)⟩
    · cases e
  · cases e
end
section
variable {X : Cx} {tw : List Nat} {own : List Nat} {W : WX} {cl : Nat → Addr} {o e : Expr} {apos pos : Pos} {ta tb : TE} {fa fb : Env → R (D × Env)} {k : Nat}
theorem de_m_split (hr : Room k X.A) (ho : DI X tw own W cl o ta fa) (he : DI X tw own W cl e tb fb) (hs : starEach [e] X.env = [(false, eval e X.env)] := by rfl) (hbase : attributeBase o "split" X.env (eval o X.env) = eval o X.env := by rfl) (hline : (apos.endLine == pos.line) = true := by rfl) :
    DI X tw own W cl (.Call (.Attribute o "split" apos) [e] [] pos) (tM1 (fun x xs H Q => ∃ a b, x = .str a ∧ xs = [.str b] ∧ (b.length == 0) = false ∧ a.length + 2 ≤ sizeLine ∧ rNewStrs (Txt.split a b) H Q) ta tb) (strM splitM fa fb) := ⟨pe_split ho.pe he.pe hs hbase hline, EvI.strM v_split ho.ev he.ev⟩
theorem de_m_join (hr : Room k X.A) (ho : DI X tw own W cl o ta fa) (he : DI X tw own W cl e tb fb) (hs : starEach [e] X.env = [(false, eval e X.env)] := by rfl) (hbase : attributeBase o "join" X.env (eval o X.env) = eval o X.env := by rfl) (hline : (apos.endLine == pos.line) = true := by rfl) :
    DI X tw own W cl (.Call (.Attribute o "join" apos) [e] [] pos) (tM1 (fun x xs H Q => ∃ a p, ∃ ys : List Str, x = .str a ∧ xs = [.ref p] ∧ (SqL X.K H p (ys.map V.str) ∨ SqT X.K H p (ys.map V.str)) ∧ (ys.map (·.length)).sum + ys.length * a.length ≤ 16777216 ∧ Q (.str (Txt.join a ys)) H) ta tb) (strM joinM fa fb) := ⟨pe_join ho.pe he.pe hs hbase hline, EvI.strM v_join ho.ev he.ev⟩
end
/-! a text some times -/
end Hz

/-! ### sum of a tuple -/
namespace Hz
open PySem PySem.Spec PyProof.Rows L2
section
variable {prog : Program} {w : World} {A : Around} {E : Value → Shared → Prop} {s : Shared} {l : Addr}
end
section
variable {X : Cx}
end
/-! ### len of a dict -/
/-! ### sorted(list of ints) -/
section
variable {X : Cx} {tw : List Nat} {own : List Nat} {W : WX} {cl : Nat → Addr} {e : Expr} {p pos : Pos} {tA : TA} {fA : Env → R (List D × Env)} {k : Nat}
end
/-! ### a dict of ours with number keys -/
def ownD (e : Env) (i : Nat) : Option (List (D × D)) := match e[i]? with
  | some (some (.dict ds)) => if numKeys ds = true then some ds else none
  | _ => none
theorem ownD_eq {e : Env} {i : Nat} {ds : List (D × D)} (h : ownD e i = some ds) : e[i]? = some (some (.dict ds)) ∧ numKeys ds = true := by
  unfold ownD at h
  split at h
  · split at h
    · rename_i h1 h2
      cases h
      exact ⟨h1, h2⟩
    · cases h
  · cases h
def dputS (i : Nat) (k v : Env → R (D × Env)) : Env → R (Fl × Env) := fun e => (v e).bind fun x => (k x.2).bind fun y => (lift (ownD y.2 i)).bind fun ds => (lift (keyOf y.1)).bind fun ky => if ds.length < 1000 then .ok (.nx, y.2.set i (some (.dict (putD ds (kD ky) x.1)))) else .bad
section
variable {K : PySem.W.Frag} {tw : List Nat} {own oL : List Nat} {W : WX} {cl : Nat → Addr} {ta tb : TE} {fa fb : Env → R (D × Env)}
theorem flat_num {ds : List (D × D)} (h : numKeys ds = true) : flatD (.dict ds) = true := by
  unfold flatD
  split
  · rename_i e
    cases e
    simp [numKeys] at h
  · rfl
theorem own_dict {H0 : Hp} {P : Par} {G : Hp} {env : Env} {σ : L2.St} {H : Hp} {i : Nat} {ds : List (D × D)} (ok : StOk K H0 P own G env σ H) (hi : i ∈ own) (h : ownD env i = some ds) :
    ∃ p kvs, σ[i]? = some (some (.ref p)) ∧ H p = some (.dK kvs) ∧ G p = none ∧ RpK K G kvs ds := by
  obtain ⟨e0, hk⟩ := ownD_eq h
  obtain ⟨p, e1, c⟩ := ok.celF e0 hi (flat_num hk)
  obtain ⟨hg, c⟩ := c
  rcases c with ⟨vs, ds', e, e2, r⟩ | ⟨vs, ds', e, e2, r⟩ | ⟨vs, ds', e, e2, r⟩
  · cases e
  · cases e
    exact ⟨p, vs, e1, e2, hg, r⟩
  · cases e
    simp [numKeys] at hk
theorem EvS.dput {i : Nat} {tk tv : TE} {fk fv : Env → R (D × Env)} (hi : i ∈ own) (hk : EvI K tw own W cl tk fk) (hv : EvI K tw own W cl tv fv) : EvS K tw own own oL W cl (sDPut (tVar i) tk tv) (dputS i fk fv) := EvS.of fun H0 P G env σ H E hp ok ans => by
  obtain ⟨p0, e0⟩ := slot_of ok hi
  refine hv H0 P G env σ H _ hp ok (ans.bind.mono (fun a ha G1 H1 x g1 ok1 rx => ?_) fun c h H' fr => h σ H' ok.ln fr)
  refine ⟨.ref p0, e0, hk H0 P G1 a.2 σ H1 _ hp ok1 (ha.bind.mono (fun b hb G2 H2 y g2 ok2 ry => ?_) fun c h H' fr => h σ H' ok.ln fr)⟩
  obtain ⟨ds, eo, q1⟩ := ans_lift hb
  obtain ⟨ky, ek1, q⟩ := ans_lift q1
  clear q1
  obtain ⟨p, kvs, e1, hH, hg, r1⟩ := own_dict ok2 hi eo
  rw [e0] at e1
  cases e1
  obtain ⟨bd, be⟩ := b
  have ek := keyOf_some ek1
  simp only at ek
  subst ek
  have ey := ry.key
  subst ey
  by_cases hl : ds.length < 1000
  · rw [if_pos hl] at q
    refine ⟨p0, _, rfl, DPut.k hH (by rw [r1.length, sizeLine_eq]; omega), ?_⟩
    exact q G2 σ _ (g1.trans g2) (ok2.write (ownD_eq eo).1 hi e0 (flat_num (ownD_eq eo).2) ⟨hg, .inr (.inl ⟨_, _, rfl, upd_same, r1.put (rx.mono g2.1)⟩)⟩)
  · rw [if_neg hl] at q
    exact q.elim
end
section
variable {X : Cx} {tw : List Nat} {own oL : List Nat} {W : WX} {cl : Nat → Addr} {a b e : Expr} {p p1 p2 pos pos' q : Pos} {ta tb te : TE} {fa fb fe : Env → R (D × Env)}
theorem ds_dput (i : Nat) {x : Str} (hu : X.A.units + 1 < cLine) (hi : i ∈ own) (hx : PE X (.Name x q) (tVar i)) (hk : DI X tw own W cl b tb fb) (hv : DI X tw own W cl e te fe) (hs : swapsWith e (some (.Subscript (.Name x q) b pos')) pos.line X.env = pure false := by rfl) :
    DS X tw own own oL W cl (.Assign [.Subscript (.Name x q) b pos'] e pos) (sDPut (tVar i) tb te) (dputS i fb fe) := ⟨ps_dput hu hx hk.pe hv.pe hs, EvS.dput hi hk.ev hv.ev⟩
end
end Hz

/-! ### set of a tuple of texts -/
namespace Hz
open PySem PySem.Spec PyProof.Rows L2 PySem.Froz
section
variable {P : Program} {w : World} {A : Around} {E : Value → Shared → Prop} {s : Shared}
theorem add_old {a : Addr} {T : String} {D : SD} {l : List Str} {k : Str} {u : Tok} {Q : Bool → Shared → Prop} (ho : s.heap.get? a = some (sObj T D)) (F : TxOk P w D l) (hk : k ∈ l) (hb : l.length + 1 < scanBound)
    (h : Q false s) : wpAny (model P w) A (setAddHashed a (.str k u) (hashStr w k)) Q E s := by
  obtain ⟨es, ep, t⟩ := D
  have hd : (sObj T (es, ep, t)).data = .set es ep t := rfl
  have hf : t.fits es.size = true := F.fit
  have hel : ElemsOf (strKind P w) es.toList := F.el
  have hsz : es.size = l.length := F.sz
  have hb0 : es.size < scanBound := by omega
  have hkey : (strKind P w).is k (.str k u) = true := is_str k u
  obtain ⟨j, hsome⟩ : ∃ j, List.findIdx? (fun e => (strKind P w).is k e.2) es.toList = some j := by
    cases hr : List.findIdx? (fun e => (strKind P w).is k e.2) es.toList with
    | some j => exact ⟨j, rfl⟩
    | none =>
      obtain ⟨e, he, hp⟩ := (F.mem k).mp hk
      rw [List.findIdx?_eq_none_iff] at hr
      have := hr e he
      rw [hp] at this
      cases this
  unfold setAddHashed setAddHashedIn
  refine wpAny_holding (wpAny_bind (wpAny_setState_of ho hd hf ?_))
  dsimp only
  rw [byScan_of rfl hb0 hel]
  simp only [↓reduceIte]
  unfold setAddByScan
  refine wpAny_bind ?_
  refine wpAny_bind (wpAny_rule ?_)
  refine wpAny_bind (wpAny_setScan_of (knd := strKind P w) (k := k) hkey ho hd hf hel ?_)
  rw [hsome]
  dsimp only
  refine wpAny_pure ?_
  dsimp only
  exact wpAny_pure h
def ddS (l : List Str) (x : Str) : List Str := if x ∈ l then l else x :: l
def ddL (xs : List Str) : List Str := xs.foldl ddS []
theorem ddL_len : ∀ (xs l : List Str), (xs.foldl ddS l).length ≤ l.length + xs.length
  | [], l => Nat.le_refl _
  | x :: xs, l => by
    have := ddL_len xs (ddS l x)
    have h2 : (ddS l x).length ≤ l.length + 1 := by
      unfold ddS
      split <;> simp
    rw [List.foldl_cons, List.length_cons]
    omega
theorem set_update_txts {I : Addr} {fp wr : List Addr} {G : Array GenState → Array GenState → Prop} {n : Nat} {Pv : Nat → Value → Prop} {St : Nat → Shared → Prop} {R : Result → Shared → Prop}
    (W : WalksS P w A.in1 I fp wr G n Pv St) (S : Addr) (hSf : S ∉ fp) (xs : List Str) (hn : n = xs.length) (hb : xs.length + 2 < scanBound) (hval : ∀ i v, Pv i v → ∃ k t, xs[i]? = some k ∧ v = .str k t) :
    ∀ (k i : Nat) (s : Shared), n - i = k → i ≤ n → St i s → (∃ D, s.heap.get? S = some (sObj "set" D) ∧ TxOk P w D (ddL (xs.take i))) →
      (∀ s' D, Moved (S :: wr) G s s' → s'.heap.get? S = some (sObj "set" D) → TxOk P w D (ddL xs) → R (.ok (.ret .none)) s') →
      codeAny (model P w) A (.builtin "set.update.loop" ⟨[.ref S, .ref I], []⟩) R s := by
  have hSw : S ∉ wr := fun h => hSf (W.sub _ h)
  have hsub : ∀ b ∈ wr, b ∈ S :: wr := fun b hb => List.mem_cons_of_mem _ hb
  intro k
  induction k with
  | zero =>
    intro i s hk' hi hst ⟨D, hS, F⟩ hR
    have hin : i = n := by omega
    subst hin
    refine codeAny_builtin _root_.PyProof.Rows.F.entry_set_update_loop ?_
    rw [Around.under_plainId _root_.PyProof.Rows.F.plain_set_update_loop _]
    show wpAny _ A.in1 (pyNext (.ref I) >>= _) _ _ s
    refine wpAny_bind (W.done s _ _ hst fun s' hm => ?_)
    show wpAny _ A.in1 (ret Value.none) _ _ s'
    have e : xs.take i = xs := List.take_of_length_le (by omega)
    rw [e] at F
    exact wpAny_pure (hR s' D (hm.mono hsub) (hm.heap S _ hSw hS) F)
  | succ k ih =>
    intro i s hk' hi hst ⟨D, hS, F⟩ hR
    have hlt : i < n := by omega
    refine codeAny_builtin _root_.PyProof.Rows.F.entry_set_update_loop ?_
    rw [Around.under_plainId _root_.PyProof.Rows.F.plain_set_update_loop _]
    show wpAny _ A.in1 (pyNext (.ref I) >>= _) _ _ s
    refine wpAny_bind (W.item i s _ _ hlt hst fun v s' hP hst' hm => ?_)
    obtain ⟨z, t, hz, rfl⟩ := hval i v hP
    have hS' : s'.heap.get? S = some (sObj "set" D) := hm.heap S _ hSw hS
    have hlen : (ddL (xs.take i)).length + 1 < scanBound := by
      have h1 := ddL_len (xs.take i) []
      rw [List.length_take, List.length_nil] at h1
      unfold ddL
      omega
    have hst1 : ddL (xs.take (i + 1)) = ddS (ddL (xs.take i)) z := by
      rw [List.take_add_one, hz]
      unfold ddL
      rw [List.foldl_append]
      rfl
    show wpAny _ A.in1 (holding [Value.str z t] (setAdd S (.str z t)) >>= _) _ _ s'
    refine wpAny_bind (wpAny_holding ?_)
    unfold setAdd
    refine wpAny_holding ?_
    refine wpAny_bind ((strKind P w).pyHash (k := z) (is_str z t) ?_)
    by_cases hm2 : z ∈ ddL (xs.take i)
    · refine add_old (s := { s' with toks := s'.toks + 1 }) hS' F hm2 hlen ?_
      have F2 : TxOk P w D (ddL (xs.take (i + 1))) := by
        rw [hst1]
        unfold ddS
        rw [if_pos hm2]
        exact F
      refine wpAny_pure ⟨plainId_quiet _root_.PyProof.Rows.F.plain_set_update_loop _, ih (i + 1) _ (by omega) hlt (W.frame _ s' _ _ hst' (Nat.le_succ _) fun b hb o e => e) ⟨D, hS', F2⟩ fun s'' D2 hm'' hS'' F'' => ?_⟩
      exact hR s'' D2 (Moved.trans W.gtrans ((hm.mono hsub).then_heap (Nat.le_succ _) fun b o hb e => e) hm'') hS'' F''
    · refine add_x (s := { s' with toks := s'.toks + 1 }) hS' F hm2 hlen ?_
      have F2 : TxOk P w (addTx (hashStr w z) (.str z t) D) (ddL (xs.take (i + 1))) := by
        rw [hst1]
        unfold ddS
        rw [if_neg hm2]
        exact add_ok t F
      have hsb : Heap.SameBut S s'.heap (s'.heap.update S (fun _ => sObj "set" (addTx (hashStr w z) (.str z t) D))) := Heap.SameBut.update ..
      have hget : (s'.heap.update S (fun _ => sObj "set" (addTx (hashStr w z) (.str z t) D))).get? S = some (sObj "set" (addTx (hashStr w z) (.str z t) D)) := get_upd _ hS' rfl
      refine wpAny_pure ⟨plainId_quiet _root_.PyProof.Rows.F.plain_set_update_loop _, ih (i + 1) _ (by omega) hlt (W.frame _ s' _ _ hst' (Nat.le_succ _) fun b hb o e => ?_) ⟨_, hget, F2⟩ fun s'' D2 hm'' hS'' F'' => ?_⟩
      · rw [hsb.2 b (fun h : b = S => hSf (by rw [← h]; exact hb))]; exact e
      · refine hR s'' D2 (Moved.trans W.gtrans ((hm.mono hsub).then_heap (Nat.le_succ _) fun b o hb e => ?_) hm'') hS'' F''
        rw [hsb.2 b (fun h : b = S => hb (by rw [h]; exact List.mem_cons_self))]; exact e
theorem strs_get : ∀ {us : List Value} {ks : List Str} {i : Nat} {v : Value}, StrsAre us ks → us[i]? = some v → ∃ k t, ks[i]? = some k ∧ v = .str k t
  | _, _, i, v, .nil, h => by simp at h
  | _, _, 0, v, .cons y t r, h => by
    cases h
    exact ⟨y, t, rfl, rfl⟩
  | _, _, i + 1, v, .cons y t (vs := vs) (ys := ys) r, h => by
    have h' : vs[i]? = some v := by simpa using h
    obtain ⟨k, t', h1, h2⟩ := strs_get r h'
    exact ⟨k, t', by simpa using h1, h2⟩
theorem call_set_tupTx {l : Addr} {items : Array Value} (ks : List Str) {Q : Value → Shared → Prop} (hh : A.handled = none) (hl : s.heap.IsTuple l items) (hit : StrsAre items.toList ks) (hfew : ks.length < 1000)
    (h : ∀ (h' : Heap) (tk : Nat) D, h'.get? s.heap.objs.size = some (sObj "set" D) → TxOk P w D (ddL ks) → (∀ b o, s.heap.get? b = some o → h'.get? b = some o) → Q (.ref s.heap.objs.size) { s with heap := h', toks := tk }) :
    wpAny (model P w) A (call (.type "set") [.ref l]) Q E s := by
  have hisz : items.size = ks.length := by
    rw [← Array.length_toList]
    exact hit.length
  obtain ⟨c, tl, hmro⟩ := F.called_set.mro
  have hmade := F.called_set.made
  have hsub := F.called_set.sub
  refine wpAny_call (codeAny_of_tree ?_)
  show wpAny _ _ (callAny (.type "set") _) _ _ _
  refine wpAny_pure ⟨Code.quiet_builtin _ (by decide +kernel), codeAny_builtin F.entry_type_call ?_⟩
  rw [Around.under_plain (weight_type_call_type "set" [.ref l] []) rfl]
  have h1 := F.called_set.notType
  have h2 := F.called_set.canCreate
  have hct := F.typeCall_set_1 (.ref l)
  repeat (any_goals (first | assumption | wp_step))

  refine codeAny_mono (code_set_led1 (.ref l) (E := E) (Q₁ := fun obj s₁ => obj = .ref s.heap.objs.size ∧ s₁ = { s with heap := s.heap.push { cls := .type "set", dict := none, data := .set #[] 0 (.fresh 0 0 (!w.params.followText "set-order")) } }) ⟨rfl, rfl⟩) fun r s₁ hr => ?_
  cases r with
  | error e => exact hr
  | ok fl =>
    cases fl with
    | ret obj =>
      obtain ⟨rfl, rfl⟩ := hr
      have hS : (s.heap.push { cls := .type "set", dict := none, data := .set #[] 0 (.fresh 0 0 (!w.params.followText "set-order")) }).get? s.heap.objs.size = some { cls := .type "set", dict := none, data := .set #[] 0 (.fresh 0 0 (!w.params.followText "set-order")) } := Heap.get?_push_size _ rfl
      have hT : Shared.TypeIs { s with heap := s.heap.push { cls := .type "set", dict := none, data := .set #[] 0 (.fresh 0 0 (!w.params.followText "set-order")) } } (.ref s.heap.objs.size) "set" := ⟨_, hS, rfl⟩
      have hli := F.called_set.init.lookup
      have hbi := F.called_set.init.bind (.ref s.heap.objs.size)
      repeat (any_goals (first | assumption | wp_step))

      refine codeAny_mono (codeAny_call_builtin (R := wants (fun r s₂ => r = .none ∧ ∃ h' tk D, s₂ = { s with heap := h', toks := tk } ∧ h'.get? s.heap.objs.size = some (sObj "set" D) ∧ TxOk P w D (ddL ks) ∧
          (∀ b o, s.heap.get? b = some o → h'.get? b = some o)) E) F.called_set.init.plain F.entry_set_init (check_set_init_1 hT ?_)) fun r₂ s₂ hr₂ => ?_
      · obtain ⟨ol, hol, hcl, nl, hdl⟩ := hl
        obtain ⟨ocls, odict, odata, oslots⟩ := ol
        simp only at hcl hdl
        subst hcl; subst hdl
        have hol' : (s.heap.push { cls := .type "set", dict := none, data := .set #[] 0 (.fresh 0 0 (!w.params.followText "set-order")) }).get? l = some { cls := .type "tuple", dict := odict, data := .seq items nl, slots := oslots } := Heap.get?_push_of_some _ hol
        have hsls := F.sub_tuple_set
        have hslf := F.sub_tuple_frozenset
        have hne : (Value.type "tuple" == Value.type "dict") = false := by decide
        have hl1 : (s.heap.push { cls := .type "set", dict := none, data := .set #[] 0 (.fresh 0 0 (!w.params.followText "set-order")) }).IsTuple l items := ⟨_, hol', rfl, nl, rfl⟩
        unfold Builtin.«set.__init__» noKeywords Builtin.Frozenset.updateFrom
        generalize hPI : pyIter = PI
        wp_walk
        subst hPI

        refine wpAny_pyIter_tuple hl1 ?_
        refine wpAny_bind (wpAny_runValue ?_)
        have hlS : l < s.heap.objs.size := Heap.lt_size hol
        have hh3 : A.in1.in1.in1.handled = none := by simp [hh]
        have hz1 : (s.heap.push { cls := .type "set", dict := none, data := .set #[] 0 (.fresh 0 0 (!w.params.followText "set-order")) }).objs.size = s.heap.objs.size + 1 := Heap.size_push ..
        have hneI : l ≠ (s.heap.push { cls := .type "set", dict := none, data := .set #[] 0 (.fresh 0 0 (!w.params.followText "set-order")) }).objs.size := by
          rw [Heap.size_push]; exact Nat.ne_of_lt (Nat.lt_succ_of_lt hlS)
        have hSf : s.heap.objs.size ∉ [(s.heap.push { cls := .type "set", dict := none, data := .set #[] 0 (.fresh 0 0 (!w.params.followText "set-order")) }).objs.size, l] := by
          rw [Heap.size_push]; simp only [List.mem_cons, List.mem_singleton, List.not_mem_nil, or_false, not_or]
          exact ⟨Nat.ne_of_lt (Nat.lt_succ_self _), Nat.ne_of_gt hlS⟩
        have hval : ∀ (i : Nat) (v : Value), items[i]? = some v → ∃ k t, ks[i]? = some k ∧ v = .str k t := fun i v hv => by
          have q : items.toList[i]? = some v := by rw [Array.getElem?_toList]; exact hv
          exact strs_get hit q
        refine set_update_txts ((Walks.tuple hh3 _ l hneI items).toS) s.heap.objs.size
          hSf ks hisz (by unfold scanBound; omega) hval (items.size - 0) 0 _ (by omega) (Nat.zero_le _)
          ⟨⟨_, Heap.get?_push_size _ rfl, rfl, rfl⟩, (hl1.push _)⟩ ?hS0 ?hR
        case hS0 =>
          have hget : ((s.heap.push { cls := .type "set", dict := none, data := .set #[] 0 (.fresh 0 0 (!w.params.followText "set-order")) }).push { cls := .type "tuple_iterator", data := .fields #[.ref l, .int 0 0] }).get? s.heap.objs.size
              = some { cls := .type "set", dict := none, data := .set #[] 0 (.fresh 0 0 (!w.params.followText "set-order")) } := Heap.get?_push_of_some _ hS
          exact ⟨(#[], 0, .fresh 0 0 (!w.params.followText "set-order")), hget, TxOk.nil (by rfl)⟩
        case hR =>
          intro s' D hm hS' g'
          obtain ⟨h', g2, d', tk', os'⟩ := s'
          have eg : g2 = s.gens := hm.gens
          have ed : d' = s.drawn := hm.drawn
          have eo : os' = s.os := hm.os
          subst eg; subst ed; subst eo
          show wpAny _ _ _ _ _ _
          refine wpAny_pure ?_
          show wpAny _ _ (ret Value.none) _ _ _
          refine wpAny_pure ⟨rfl, h', tk', D, rfl, hS', g', fun b o e => ?_⟩
          have hb0 : b < s.heap.objs.size := Heap.lt_size e
          have hb1 : b ≠ s.heap.objs.size := Nat.ne_of_lt hb0
          have hb2 : b ≠ (s.heap.push { cls := .type "set", dict := none, data := .set #[] 0 (.fresh 0 0 (!w.params.followText "set-order")) }).objs.size := by
            rw [Heap.size_push]; exact Nat.ne_of_lt (Nat.lt_succ_of_lt hb0)
          exact hm.heap b o (by simp only [List.mem_cons, List.mem_singleton, List.not_mem_nil, or_false, not_or]; exact ⟨hb1, hb2⟩) (Heap.get?_push_of_some _ (Heap.get?_push_of_some _ e))

      · cases r₂ with
        | error e => exact hr₂
        | ok fl₂ =>
          cases fl₂ with
          | ret r =>
            obtain ⟨rfl, h', tk, D, rfl, hS', g', hk'⟩ := hr₂
            repeat (any_goals (first | assumption | wp_step))
            exact h _ _ _ hS' g' hk'
          | _ => exact hr₂.elim
    | _ => exact hr.elim

end
section
variable {X : Cx}
def tLenSetTx (K : PySem.W.Frag) (ta : TE) : TE := fun σ H Q => ta σ H fun x H1 => ∃ l, ∃ xs : List Str, x = .ref l ∧ SqT K H1 l (xs.map V.str) ∧ xs.length < 1000 ∧ Q (.int ((ddL xs).length : Nat)) H1
theorem pe_lenSetTx {a : Expr} {ta : TE} {p p2 q pos : Pos} (hc : X.calm = true) (hg : Gl X "len") (hm : X.mg "len" = none) (hg2 : Gl X "set") (hm2 : X.mg "set" = none) (ha : PE X a ta)
    (na : starEach [a] X.env = (false, eval a X.env) :: starEach [] X.env := by rfl) : PE X (.Call (.Name "len" p) [.Call (.Name "set" p2) [a] [] q] [] pos) (tLenSetTx X.K ta) := by
  refine ⟨fun pins s σ H Q I h => ?_⟩
  refine Call_ (ld_blt I hg hm boot_len ?_)
  refine PyProof.Rows.callWith_builtin1 (PyProof.Rows.args_cons ?_ rfl) rfl rfl
  refine Call_ (ld_blt I hg2 hm2 boot_set ?_)
  refine PyProof.Rows.callWith_type1 (PyProof.Rows.args_cons (thn (ha.run pins s σ H _ I h) fun v s1 ⟨x, H1, I1, r1, q1⟩ => PyProof.Rows.args_nil ?_) na) na rfl
  obtain ⟨l, xs, rfl, hq, h1, q1⟩ := q1
  cases r1
  obtain ⟨its, r, pl, hz⟩ := I1.tuple hq
  refine call_set_tupTx (P := X.prog) (w := X.w) xs (I1.ok.hd hc) pl (by simpa using strsAre_of r) h1 fun h' tk D hS F hk => ?_
  refine PyProof.Rows.args_nil ?_
  have I2 : Inv X pins σ H1 { s1 with heap := h', toks := tk } := I1.kept fun b o e => hk b o e
  have hl := ddL_len xs []
  rw [List.length_nil] at hl
  have hsz : D.1.size = (ddL xs).length := F.sz
  refine call_len_set hS ⟨rfl, rfl, rfl⟩ (show (sObj "set" D).data = .set D.1 D.2.1 D.2.2 from rfl) F.fit (by rw [hsz]; unfold ddL; omega) ⟨.int ((ddL xs).length : Nat), H1, I2.tok _, ⟨_, by rw [hsz]⟩, q1⟩
def lenSetD : D → Option D
  | .tuple ds => match strsOf ds with
    | some ys => if ys.length < 1000 then some (.int ((ddL ys).length : Nat)) else none
    | none => none
  | _ => none
variable {tw : List Nat} {own : List Nat} {W : WX} {cl : Nat → Addr} {a : Expr} {p p2 q pos : Pos} {ta : TE} {fa : Env → R (D × Env)}
theorem EvI.lenSet {K : PySem.W.Frag} (ha : EvI K tw own W cl ta fa) : EvI K tw own W cl (tLenSetTx K ta) (Hz.op1 lenSetD fa) := fun H0 P G env σ H Q hp ok ans => by
  refine ha H0 P G env σ H _ hp ok (ans.bind.mono (fun b hb G1 H1 x g1 ok1 rx => ?_) fun _ h => h)
  obtain ⟨d, e, qq⟩ := ans_lift hb
  obtain ⟨b1, b2⟩ := b
  cases rx <;> first | (cases e; done) | skip
  rename_i l xs ds h r _
  simp only [lenSetD] at e
  split at e
  · rename_i ys hys
    split at e
    · rename_i hl
      cases e
      have ed := strsOf_eq hys
      subst ed
      have ev := RpA.strs r
      subst ev
      exact ⟨l, ys, rfl, Same.sqT ok1.sub h, hl, qq G1 H1 _ g1 ok1 (.int _)⟩
    · cases e
  · cases e
theorem de_lenSet (hm : X.mg "len" = none) (hm2 : X.mg "set" = none) (ha : DI X tw own W cl a ta fa) (hc : X.calm = true := by rfl) (hg : Gl X "len" := by rfl) (hg2 : Gl X "set" := by rfl)
    (na : starEach [a] X.env = (false, eval a X.env) :: starEach [] X.env := by rfl) : DI X tw own W cl (.Call (.Name "len" p) [.Call (.Name "set" p2) [a] [] q] [] pos) (tLenSetTx X.K ta) (op1 lenSetD fa) := ⟨pe_lenSetTx hc hg hm hg2 hm2 ha.pe na, EvI.lenSet ha.ev⟩
end
end Hz

/-! ### set of a list of numbers, list(text), list(dict), d.get(k, x) -/
namespace Hz
open PySem PySem.Spec PyProof.Rows L2
section
variable {P : Program} {w : World} {A : Around} {E : Value → Shared → Prop} {s : Shared}
end
section
variable {X : Cx}
variable {tw : List Nat} {own : List Nat} {W : WX} {cl : Nat → Addr} {a : Expr} {p p2 q pos : Pos} {ta : TE} {fa : Env → R (D × Env)}
end
/-! ### list(text), list(dict) -/
section
variable {X : Cx}
def sgnV (x : Str) : List V := x.cps.toList.map fun c => V.str ⟨#[c]⟩
def rListS : List V → Hp → VK → Prop := fun xs H Q => ∃ x : Str, xs = [.str x] ∧ x.cps.size ≤ 1000000 ∧ ∀ l, H l = none → Q (.ref l) (upd H l (.lst (sgnV x)))
theorem call_listS (hc : X.calm = true) : CallR X (.type "list") rListS := by
  intro pins s σ H xs us Q I r h
  obtain ⟨x, rfl, hx, q⟩ := h
  obtain ⟨u, rfl, t, rfl⟩ := vals1 r
  refine call_list_str (I.ok.hd hc) x t (fun h' tk acc c' hk e hi => ?_) (sz100 hx)
  have hv : Vals (sgnV x) acc.toList := by
    have hl : (sgnV x).length = acc.toList.length := by
      unfold sgnV
      rw [List.length_map, Array.length_toList, Array.length_toList, hi.1]
    refine vals_of_at hl fun j y u h1 h2 => ?_
    obtain ⟨c, t', h3, rfl⟩ := hi.2 j u (by rw [← h2, Array.getElem?_toList])
    unfold sgnV at h1
    rw [List.getElem?_map, Array.getElem?_toList, h3] at h1
    cases h1
    exact ⟨_, rfl⟩
  refine ⟨.ref s.heap.objs.size, upd H s.heap.objs.size (.lst (sgnV x)), I.laid hk (Nat.le_refl _) (show ObjOk X.prog X.w _ _ _ (.lst (sgnV x)) from ⟨?_, acc.toList, c', hv, ?_⟩), rfl, q _ (I.hok.fresh (Nat.le_refl _))⟩
  · unfold sgnV
    rw [List.length_map, Array.length_toList]
    exact sz100 hx
  · rw [Array.toArray_toList]; exact e
def listS : List D → Option D
  | [.str x] => if x.cps.size ≤ 1000000 then some (.list (signsOf x)) else none
  | _ => none
theorem sgn_rp {K : PySem.W.Frag} {G : Hp} (x : Str) : RpA K G (sgnV x) (signsOf x) := by
  unfold sgnV signsOf
  induction x.cps.toList with
  | nil => exact .nil
  | cons c cs ih => exact .cons (.str _) ih
theorem vn_listS {K : PySem.W.Frag} : OpNN K rListS listS := fun G H xs ds d Q sub r e q => by
  unfold listS at e
  split at e
  · obtain ⟨v, rfl, rr⟩ := rp1 r
    cases rr
    split at e
    · rename_i x hx
      cases e
      exact ⟨x, rfl, hx, fun l nl => q l _ nl ⟨sub.free nl, .inl ⟨_, _, rfl, upd_same, sgn_rp x⟩⟩⟩
    · cases e
  · cases e
def rListK : List V → Hp → VK → Prop := fun xs H Q => ∃ (a : Addr) (kvs : List (Key × V)), xs = [.ref a] ∧ Rd H a (.dK kvs) ∧ ∀ p, H p = none → Q (.ref p) (upd H p (.lst (kvs.map fun kv => kV kv.1)))
def listK : List D → Option D
  | [.dict ds] => if numKeys ds = true then some (.list (ds.map (·.1))) else none
  | _ => none
theorem keys_rp {K : PySem.W.Frag} {G : Hp} : ∀ {kvs : List (Key × V)} {ds : List (D × D)}, RpK K G kvs ds → RpA K G (kvs.map fun kv => kV kv.1) (ds.map (·.1))
  | _, _, .nil => .nil
  | _, _, .cons (k := k) h a => .cons (by cases k with | inl i => exact .int i | inr x => exact .str x) (keys_rp a)
theorem vn_listK {K : PySem.W.Frag} : OpNN K rListK listK := fun G H xs ds d Q sub r e q => by
  unfold listK at e
  split at e
  · rename_i ds
    obtain ⟨v, rfl, rr⟩ := rp1 r
    split at e
    · rename_i hk
      cases e
      cases rr with
      | dic h1 a1 => exact ⟨_, _, rfl, Same.rd sub h1, fun p np => q p _ np ⟨sub.free np, .inl ⟨_, _, rfl, upd_same, keys_rp a1⟩⟩⟩
      | dit h1 a1 => simp [numKeys] at hk
      | scr h1 => simp [numKeys] at hk
      | ins _ _ _ => simp [numKeys] at hk
      | rcd _ _ => simp [numKeys] at hk
    · cases e
  · cases e
variable {tw : List Nat} {own : List Nat} {W : WX} {cl : Nat → Addr} {e : Expr} {p pos : Pos} {tA : TA} {fA : Env → R (List D × Env)}
theorem dn_listS (hm : X.mg "list" = none) (ha : DA X tw own W cl [e] tA fA) (hc : X.calm = true := by rfl) (hg : Gl X "list" := by rfl) (he : starEach [e] X.env = (false, eval e X.env) :: starEach [] X.env := by rfl) (hpl : (backTo pos (starEach [] X.env)).any (·.1) = false := by rfl) :
    DN X tw own W cl (.Call (.Name "list" p) [e] [] pos) (tCB rListS tA) (opN listS fA) := dn_bty (call_listS hc) vn_listS hm boot_list ha hg (by decide) (by decide) he hpl
theorem dn_listK (hm : X.mg "list" = none) (ha : DA X tw own W cl [e] tA fA) (hc : X.calm = true := by rfl) (hg : Gl X "list" := by rfl) (he : starEach [e] X.env = (false, eval e X.env) :: starEach [] X.env := by rfl) (hpl : (backTo pos (starEach [] X.env)).any (·.1) = false := by rfl) :
    DN X tw own W cl (.Call (.Name "list" p) [e] [] pos) (tCB rListK tA) (opN listK fA) := dn_bty (call_listD hc) vn_listK hm boot_list ha hg (by decide) (by decide) he hpl
end
/-! ### d.get(k, x), d ours -/
def dget2O (i : Nat) (a b : Env → R (D × Env)) : Env → R (D × Env) := fun e => (lift (ownD e i)).bind fun _ => (a e).bind fun y => (b y.2).bind fun z => (lift (ownD z.2 i)).bind fun ds => (lift (keyOf y.1)).bind fun k => .ok ((valD ds (kD k)).getD z.1, z.2)
section
variable {K : PySem.W.Frag} {tw : List Nat} {own oL : List Nat} {W : WX} {cl : Nat → Addr} {ta tb : TE} {fa fb : Env → R (D × Env)}
theorem EvI.dget2O {i : Nat} (hi : i ∈ own) (ha : EvI K tw own W cl ta fa) (hb : EvI K tw own W cl tb fb) : EvI K tw own W cl (tDGet2 (tVar i) ta tb) (Hz.dget2O i fa fb) := fun H0 P G env σ H Q hp ok ans => by
  obtain ⟨ds0, eo0, ans⟩ := ans_lift ans
  obtain ⟨p0, kvs0, e0, hH0, _, _⟩ := own_dict ok hi eo0
  refine ⟨.ref p0, e0, p0, rfl, .inl ⟨kvs0, .inl hH0⟩, ha H0 P G env σ H _ hp ok (ans.bind.mono (fun y hy G1 H1 vy g1 ok1 ry => ?_) fun _ h => h)⟩
  refine hb H0 P G1 y.2 σ H1 _ hp ok1 (hy.bind.mono (fun z hz G2 H2 vz g2 ok2 rz => ?_) fun _ h => h)
  obtain ⟨ds, eo, q1⟩ := ans_lift hz
  obtain ⟨k, ek1, q⟩ := ans_lift q1
  clear q1
  obtain ⟨p, kvs, e1, hH, hg, r1⟩ := own_dict ok2 hi eo
  rw [e0] at e1
  cases e1
  obtain ⟨yd, ye⟩ := y
  have ek := keyOf_some ek1
  simp only at ek
  subst ek
  have ey := ry.key
  subst ey
  refine ⟨_, DGet.k hH, ?_⟩
  cases hv : valD ds (kD k) with
  | none =>
    have hn := (RpK.val r1).2 hv
    rw [hn]
    rw [hv] at q
    exact q G2 H2 vz (g1.trans g2) ok2 rz
  | some d =>
    obtain ⟨v, hv', rv⟩ := (RpK.val r1).1 d hv
    rw [hv']
    rw [hv] at q
    exact q G2 H2 v (g1.trans g2) ok2 rv
end
section
variable {X : Cx} {tw : List Nat} {own oL : List Nat} {W : WX} {cl : Nat → Addr} {a b : Expr} {apos pos q : Pos} {ta tb : TE} {fa fb : Env → R (D × Env)}
theorem de_dget2O (i : Nat) {x : Str} (hu : X.A.units + 1 < cLine) (hi : i ∈ own) (hx : PE X (.Name x q) (tVar i)) (ha : DI X tw own W cl a ta fa) (hb : DI X tw own W cl b tb fb) (m : M2 X (.Name x q) "get" apos a b pos := by exact ⟨rfl, rfl, rfl, rfl⟩) :
    DI X tw own W cl (.Call (.Attribute (.Name x q) "get" apos) [a, b] [] pos) (tDGet2 (tVar i) ta tb) (dget2O i fa fb) := ⟨pe_dget2 hu hx ha.pe hb.pe m, EvI.dget2O hi ha.ev hb.ev⟩
end
end Hz

/-! ### t.index(x) of a tuple of words, s.index(x) of a text -/
namespace Hz
open PySem PySem.Spec PyProof.Rows L2
section
variable {X : Cx} {o e : Expr} {apos cpos : Pos} {to te : TE}
def rTIx (K : PySem.W.Frag) : V → List V → Hp → VK → Prop := fun x xs H Q => ∃ p, ∃ ys : List Str, ∃ z j, x = .ref p ∧ xs = [.str z] ∧ SqT K H p (ys.map V.str) ∧ ys[j]? = some z ∧ (∀ m, m < j → ys[m]? ≠ some z) ∧ Q (.int (j : Nat)) H
def tTIx (K : PySem.W.Frag) (to te : TE) : TE := fun σ H Q => to σ H fun x H1 => ∃ p xs, x = .ref p ∧ NoD K H1 p ∧ SqT K H1 p xs ∧ te σ H1 fun y H2 => rTIx K x [y] H2 Q
theorem nd_at {pins : List (Addr × Obj)} {σ : L2.St} {H : Hp} {s : Shared} {p : Addr} {xs : List V} (I : L2.Inv X pins σ H s) (nd : NoD X.K H p) (hq : SqT X.K H p xs) : s.TypeIs (.ref p) "tuple" ∧ ∃ ob, s.heap.get? p = some ob ∧ ob.dict = none := by
  obtain ⟨its, r, pl, hz⟩ := I.tuple hq
  refine ⟨pl.typeIs, ?_⟩
  rcases nd with ⟨ob, u, h, hd⟩ | ⟨ob, h, _, hd⟩
  · exact ⟨ob, (I.hok p _ h).1, hd⟩
  · exact ⟨ob, I.kIn p ob h, hd⟩
theorem pe_tix (ho : PE X o to) (he : PE X e te) (hbase : attributeBase o "index" X.env (eval o X.env) = eval o X.env := by rfl)
    (hfew : ((backTo cpos (starEach [e] X.env)).all (fun x => !x.1) && (backToKw cpos (keywordEach [] X.env)).all (fun x => x.1.isSome) && decide (([e] : List Expr).length + ([] : List Keyword).length + (if ([] : List Keyword).isEmpty then 0 else 1) < 30)) = true := by rfl)
    (hline : (apos.endLine == cpos.line) = true := by rfl) (hs : starEach [e] X.env = (false, eval e X.env) :: starEach [] X.env := by rfl) (hplain : (backTo cpos (starEach [] X.env)).any (·.1) = false := by rfl) :
    PE X (.Call (.Attribute o "index" apos) [e] [] cpos) (tTIx X.K to te) := by
  refine ⟨fun pins s σ H Q I h => ?_⟩
  refine wpAny_Call_method_late hbase hfew hline rfl (thn (ho.run pins s σ H _ I h) fun v s1 hx => ?_)
  obtain ⟨x, H1, I1, r1, p, xs, rfl, nd, hq, q1⟩ := hx
  cases r1
  obtain ⟨h1, ob, h2, h3⟩ := nd_at I1 nd hq
  refine ⟨"tuple", "tuple.index", PySem.F.plainAttrs_tuple, PySem.F.slot_tuple_index, PySem.F.type_tuple_index, h1, fun a z => by cases z; exact ⟨ob, h2, h3⟩, ?_⟩
  have hA := (pa_cons he pa_nil hs).run cpos pins s1 σ H1 (fun vs H2 => rTIx X.K (.ref p) vs H2 Q) I1 q1
  rw [hs] at hA ⊢
  refine Calls.callWith_builtin (by show (false || (backTo cpos (starEach [] X.env)).any (·.1)) = false; rw [hplain] <;> rfl) (Calls.evalArgs_plain ?_)
  exact thn hA fun us s2 hx => by
    obtain ⟨vs, H2, I2, r2, q2⟩ := hx
    exact mt_tup_index pins s2 σ H2 (.ref p) vs (.ref p) us Q I2 rfl r2 q2
end
/-! by data -/
def tixD : D → D → Option D
  | .tuple ds, .str z => match strsOf ds with
    | some ys => if z ∈ ys then some (.int (ys.idxOf z : Nat)) else none
    | none => none
  | _, _ => none
def tixM (a b : Env → R (D × Env)) : Env → R (D × Env) := fun e => (a e).bind fun x => match x.1 with
  | .tuple ds => if needN ds = true then (b x.2).bind fun y => (lift (tixD x.1 y.1)).bind fun d => .ok (d, y.2) else .bad
  | _ => .bad
def sixD : D → D → Option D
  | .str a, .str b => match Builtin.Str.occurrences a b 0 a.length 1 with
    | i :: _ => some (.int (i : Nat))
    | [] => none
  | _, _ => none
section
variable {K : PySem.W.Frag} {tw : List Nat} {own : List Nat} {W : WX} {cl : Nat → Addr} {ta tb : TE} {fa fb : Env → R (D × Env)}
theorem EvI.tix (ha : EvI K tw own W cl ta fa) (hb : EvI K tw own W cl tb fb) : EvI K tw own W cl (tTIx K ta tb) (tixM fa fb) := fun H0 P G env σ H Q hp ok ans => by
  refine ha H0 P G env σ H _ hp ok (ans.bind.mono (fun a ha' G1 H1 x g1 ok1 rx => ?_) fun _ h => h)
  obtain ⟨ad, ae⟩ := a
  cases rx <;> first | exact ha'.elim | skip
  rename_i p xs ds h r n
  simp only at ha'
  by_cases hn : needN ds = true
  · rw [if_pos hn] at ha'
    refine ⟨p, xs, rfl, Same.nd ok1.sub (n.1 hn), Same.sqT ok1.sub h, hb H0 P G1 ae σ H1 _ hp ok1 (ha'.bind.mono (fun b hb' G2 H2 y g2 ok2 ry => ?_) fun _ h => h)⟩
    obtain ⟨d, e, q⟩ := ans_lift hb'
    obtain ⟨bd, be⟩ := b
    cases ry <;> first | (cases e; done) | skip
    rename_i z
    simp only [tixD] at e
    split at e
    · rename_i ys hys
      split at e
      · rename_i hz
        cases e
        have ed := strsOf_eq hys
        subst ed
        have ev := RpA.strs r
        subst ev
        have hlt := List.idxOf_lt_length_of_mem hz
        refine ⟨p, ys, z, ys.idxOf z, rfl, rfl, Same.sqT ok2.sub (Same.sqT g2.1 h), ?_, fun m hm hc => ?_, q G2 H2 _ (g1.trans g2) ok2 (.int _)⟩
        · rw [List.getElem?_eq_getElem hlt]
          exact congrArg some (List.getElem_idxOf hlt)
        · have hml : m < ys.length := lt_of_get hc
          unfold List.idxOf at hm
          have := List.not_of_lt_findIdx hm
          rw [List.getElem?_eq_getElem hml] at hc
          have hc' : ys[m] = z := Option.some.inj hc
          rw [hc'] at this
          simp at this
      · cases e
    · cases e
  · rw [if_neg hn] at ha'
    exact ha'.elim
theorem v_six : OpS K (fun x xs H Q => ∃ a b i rest, x = .str a ∧ xs = [.str b] ∧ Builtin.Str.occurrences a b 0 a.length 1 = i :: rest ∧ Q (.int (i : Nat)) H) sixD := fun G H x y dx dy d Q sub rx ry e q => by
  cases rx <;> first | (cases e; done) | skip
  cases ry <;> first | (cases e; done) | skip
  rename_i a b
  simp only [sixD] at e
  split at e
  · rename_i i rest ho
    cases e
    exact ⟨a, b, i, rest, rfl, rfl, ho, q G H _ (Grow.refl sub) (.int _)⟩
  · cases e
end
section
variable {X : Cx} {tw : List Nat} {own : List Nat} {W : WX} {cl : Nat → Addr} {o e : Expr} {apos pos : Pos} {ta tb : TE} {fa fb : Env → R (D × Env)} {k : Nat}
theorem de_m_tix (hr : Room k X.A) (ho : DI X tw own W cl o ta fa) (he : DI X tw own W cl e tb fb) (hbase : attributeBase o "index" X.env (eval o X.env) = eval o X.env := by rfl)
    (hfew : ((backTo pos (starEach [e] X.env)).all (fun x => !x.1) && (backToKw pos (keywordEach [] X.env)).all (fun x => x.1.isSome) && decide (([e] : List Expr).length + ([] : List Keyword).length + (if ([] : List Keyword).isEmpty then 0 else 1) < 30)) = true := by rfl)
    (hline : (apos.endLine == pos.line) = true := by rfl) (hs : starEach [e] X.env = (false, eval e X.env) :: starEach [] X.env := by rfl) (hplain : (backTo pos (starEach [] X.env)).any (·.1) = false := by rfl) :
    DI X tw own W cl (.Call (.Attribute o "index" apos) [e] [] pos) (tTIx X.K ta tb) (tixM fa fb) := ⟨pe_tix ho.pe he.pe hbase hfew hline hs hplain, EvI.tix ho.ev he.ev⟩
theorem de_m_six (hr : Room k X.A) (ho : DI X tw own W cl o ta fa) (he : DI X tw own W cl e tb fb) (hs : starEach [e] X.env = [(false, eval e X.env)] := by rfl) (hbase : attributeBase o "index" X.env (eval o X.env) = eval o X.env := by rfl) (hline : (apos.endLine == pos.line) = true := by rfl) :
    DI X tw own W cl (.Call (.Attribute o "index" apos) [e] [] pos) (tM1 (fun x xs H Q => ∃ a b i rest, x = .str a ∧ xs = [.str b] ∧ Builtin.Str.occurrences a b 0 a.length 1 = i :: rest ∧ Q (.int (i : Nat)) H) ta tb) (strM sixD fa fb) := ⟨pe_m1 PySem.F.slot_str_index PySem.F.type_str_index mt_sindex ho.pe he.pe hs hbase hline, EvI.strM v_six ho.ev he.ev⟩
end
end Hz

/-! ### a comprehension over a dict: the dict is locked meanwhile -/
namespace Hz
open PySem PySem.Spec PyProof.Rows L2
section
variable {K : PySem.W.Frag} {G G' H H' H0 H0' : Hp} {d : Addr} {kvs : List (Key × V)}
structure Sw (G G' : Hp) (d : Addr) (kvs : List (Key × V)) : Prop where
  ne : ∀ a, a ≠ d → G' a = G a
  old : Rd G d (.dK kvs)
  new : Rd G' d (.dK kvs)
theorem Sw.no (s : Sw G G' d kvs) {a : Addr} {u : HO} (h : G a = some u) (h1 : ∀ k, u ≠ .dK k) (h2 : ∀ o k, u ≠ .frz o (.dK k)) : a ≠ d := fun z => by
  subst z
  rcases s.old with e | ⟨o, e⟩
  · rw [h] at e
    exact h1 _ (Option.some.inj e)
  · rw [h] at e
    exact h2 _ _ (Option.some.inj e)
theorem Sw.at (s : Sw G G' d kvs) {a : Addr} {u : HO} (h : G a = some u) (h1 : ∀ k, u ≠ .dK k) (h2 : ∀ o k, u ≠ .frz o (.dK k)) : G' a = some u := by
  rw [s.ne a (s.no h h1 h2)]
  exact h
theorem Sw.rd (s : Sw G G' d kvs) {a : Addr} {u : HO} (h : Rd G a u) (h1 : ∀ k, u ≠ .dK k) (h2 : ∀ o k, u ≠ .frz o (.dK k)) : Rd G' a u := by
  rcases h with h | ⟨o, h⟩
  · exact .inl (s.at h h1 h2)
  · exact .inr ⟨o, s.at h (fun k z => by cases z) fun o' k z => by cases z; exact h1 k rfl⟩
theorem rd_inj {G : Hp} {a : Addr} {k k' : List (Key × V)} (h : Rd G a (.dK k)) (h' : Rd G a (.dK k')) : k = k' := by
  rcases h with h | ⟨o, h⟩ <;> rcases h' with h' | ⟨o', h'⟩ <;> rw [h] at h' <;> cases h' <;> rfl
theorem Sw.dk (s : Sw G G' d kvs) {a : Addr} {k : List (Key × V)} (h : Rd G a (.dK k)) : Rd G' a (.dK k) := by
  by_cases z : a = d
  · subst z
    rw [rd_inj h s.old]
    exact s.new
  · rcases h with h | ⟨o, h⟩
    · exact .inl (by rw [s.ne a z]; exact h)
    · exact .inr ⟨o, by rw [s.ne a z]; exact h⟩
theorem Sw.sqT (s : Sw G G' d kvs) {a : Addr} {xs : List V} (h : SqT K G a xs) : SqT K G' a xs := by
  rcases h with h | h
  · exact .inl (s.rd h (fun k z => by cases z) fun o k z => by cases z)
  · exact .inr h
theorem Sw.sqL (s : Sw G G' d kvs) {a : Addr} {xs : List V} (h : SqL K G a xs) : SqL K G' a xs := by
  rcases h with h | h
  · exact .inl (s.rd h (fun k z => by cases z) fun o k z => by cases z)
  · exact .inr h
theorem Sw.nd (s : Sw G G' d kvs) {a : Addr} (h : NoD K G a) : NoD K G' a := by
  rcases h with ⟨o, xs, h, hd⟩ | h
  · exact .inl ⟨o, xs, s.at h (fun k z => by cases z) (fun o' k z => by cases z), hd⟩
  · exact .inr h
mutual
theorem Rp.sw (s : Sw G G' d kvs) : ∀ {v : V} {x : D}, Rp K G v x → Rp K G' v x
  | _, _, .non => .non
  | _, _, .bl b => .bl b
  | _, _, .int i => .int i
  | _, _, .str x => .str x
  | _, _, .lst h a => .lst (s.at h (fun k z => by cases z) fun o k z => by cases z) (RpA.sw s a)
  | _, _, .scr h => .scr (s.sqL h)
  | _, _, .tup h a n => .tup (s.sqT h) (RpA.sw s a) ⟨fun z => s.nd (n.1 z), fun z => s.at (n.2 z) (fun k z => by cases z) fun o k z => (by cases z)⟩
  | _, _, .dic h a => .dic (s.dk h) (RpK.sw s a)
  | _, _, .dit h a => .dit (s.at h (fun k z => by cases z) fun o k z => by cases z) (RpT.sw s a)
  | _, _, .ins h c a => .ins (s.at h (fun k z => by cases z) fun o k z => by cases z) c (RpK.sw s a)
  | _, _, .rcd h a => .rcd (s.dk h) (RpK.sw s a)
theorem RpA.sw (s : Sw G G' d kvs) : ∀ {vs : List V} {xs : List D}, RpA K G vs xs → RpA K G' vs xs
  | _, _, .nil => .nil
  | _, _, .cons h a => .cons (Rp.sw s h) (RpA.sw s a)
theorem RpK.sw (s : Sw G G' d kvs) : ∀ {vs : List (Key × V)} {xs : List (D × D)}, RpK K G vs xs → RpK K G' vs xs
  | _, _, .nil => .nil
  | _, _, .cons h a => .cons (Rp.sw s h) (RpK.sw s a)
theorem RpT.sw (s : Sw G G' d kvs) : ∀ {vs : List (List Key × V)} {xs : List (D × D)}, RpT K G vs xs → RpT K G' vs xs
  | _, _, .nil => .nil
  | _, _, .cons h a => .cons (Rp.sw s h) (RpT.sw s a)
end
theorem Sw.gd (s : Sw G G' d kvs) : ∃ u, G d = some u := by
  rcases s.old with e | ⟨o, e⟩ <;> exact ⟨_, e⟩
theorem Sw.none (s : Sw G G' d kvs) {p : Addr} (h : G p = none) : G' p = none := by
  rw [s.ne p fun z => ?_]
  · exact h
  · obtain ⟨u, hu⟩ := s.gd
    rw [z, hu] at h
    cases h
theorem Cell.sw (s : Sw G G' d kvs) {p : Addr} {x : D} (c : Cell K G H p x) (hH : H' p = H p) : Cell K G' H' p x := by
  obtain ⟨cg, c⟩ := c
  refine ⟨s.none cg, ?_⟩
  rcases c with ⟨vs, ds, e1, e2, r⟩ | ⟨vs, ds, e1, e2, r⟩ | ⟨vs, ds, e1, e2, r⟩
  · exact .inl ⟨vs, ds, e1, hH.trans e2, r.sw s⟩
  · exact .inr (.inl ⟨vs, ds, e1, hH.trans e2, r.sw s⟩)
  · exact .inr (.inr ⟨vs, ds, e1, hH.trans e2, r.sw s⟩)
theorem Fl1.sw (s : Sw G G' d kvs) {v : V} {x : D} {os : Os} (h : Fl1 K G v x os) : Fl1 K G' v x os := by
  cases h with
  | lst r => exact .lst (r.sw s)
  | dic r => exact .dic (r.sw s)
theorem FlA.sw (s : Sw G G' d kvs) : ∀ {vs : List V} {ds : List D} {os : Os}, FlA K G vs ds os → FlA K G' vs ds os
  | _, _, _, .nil => .nil
  | _, _, _, .cons h t => .cons (h.sw s) (FlA.sw s t)
theorem FlK.sw (s : Sw G G' d kvs) : ∀ {vs : List (Key × V)} {ds : List (D × D)} {os : Os}, FlK K G vs ds os → FlK K G' vs ds os
  | _, _, _, .nil => .nil
  | _, _, _, .cons h t => .cons (h.sw s) (FlK.sw s t)
theorem Fd.sw (s : Sw G G' d kvs) {n : Nat} {v : V} {x : D} {os : Os} (h : Fd K G n v x os) : Fd K G' n v x os := by
  cases h with
  | fz r => exact .fz (r.sw s)
  | fl r => exact .fl (r.sw s)
  | ll r => exact .ll (r.sw s)
  | dl r => exact .dl (r.sw s)
theorem DFs.sw (s : Sw G G' d kvs) : ∀ {fs : List (Str × V)} {ds : List (D × D)} {os : Os}, DFs K G fs ds os → DFs K G' fs ds os
  | _, _, _, .nil => .nil
  | _, _, _, .cons h t => .cons (h.sw s) (DFs.sw s t)
theorem CellO.sw (s : Sw G G' d kvs) {p : Addr} {x : D} {os : Os} (h : CellO K G p x os) : CellO K G' p x os := by
  cases h with
  | lst r => exact .lst (r.sw s)
  | dic r => exact .dic (r.sw s)
  | dit r => exact .dit (r.sw s)
  | ins c r => exact .ins c (r.sw s)
  | rcd r => exact .rcd (r.sw s)
variable {P : Par} {own : List Nat} {env : Env} {σ : L2.St}
theorem StOk.sw (s : Sw G G' d kvs) (ok : StOk K H0 P own G env σ H) (hH : ∀ a, a ≠ d → H' a = H a) (hG : G' d = H' d) (h0 : ∀ a, a ≠ d → H0' a = H0 a) (hd : H0' d = none ∨ H0' d = H' d) : StOk K H0' P own G' env σ H' := by
  have npd : ¬ P.is d := fun z => by
    obtain ⟨u, hu⟩ := s.gd
    rw [(ok.isd d z).2] at hu
    cases hu
  refine ⟨fun a u h => ?_, fun a o h n => ?_, fun a o h => ?_, ok.len, fun i x h n => ?_, ?_, ok.par, fun x hx => ?_, ok.ln⟩
  · by_cases z : a = d
    · rw [z] at h ⊢
      rw [← hG]
      exact h
    · rw [s.ne a z] at h
      rw [hH a z]
      exact ok.sub a u h
  · by_cases z : a = d
    · rw [z] at h ⊢
      rcases hd with e | e
      · rw [e] at h
        cases h
      · rw [← e]
        exact h
    · rw [h0 a z] at h
      rw [hH a z]
      exact ok.fr a o h n
  · by_cases z : a = d
    · rw [z, ← hG]
      rcases s.new with e | ⟨o, e⟩ <;> exact ⟨_, e, fun _ xs y => by cases y⟩
    · rw [h0 a z] at h
      rw [hH a z]
      exact ok.dom a o h
  · obtain ⟨v, e, r⟩ := ok.val i x h n
    exact ⟨v, e, r.sw s⟩
  · obtain ⟨f, h1, h2⟩ := ok.cel
    refine ⟨f, fun i hi => ?_, h2⟩
    obtain ⟨p, x, e1, e2, c, hh, z⟩ := h1 i hi
    have ne : ∀ y ∈ dm (f i), y ≠ d := fun y hy w => by
      obtain ⟨o, _, hg, _⟩ := hh.there hy
      obtain ⟨u, hu⟩ := s.gd
      rw [w, hu] at hg
      cases hg
    refine ⟨p, x, e1, e2, c.sw s, hh.mono (fun y m => s.none (hh.there m).choose_spec.2.1) (fun y o m => ?_), fun y hy => ?_⟩
    · rw [hH y (ne y (dm_mem.mpr ⟨o, m⟩))]
      exact (hh.at_ y o m).1
    · rw [h0 y (ne y hy)]
      exact z y hy
  · obtain ⟨⟨o, ho, n⟩, hg⟩ := ok.isd x hx
    have ne : x ≠ d := fun z => npd (z ▸ hx)
    exact ⟨⟨o, by rw [h0 x ne]; exact ho, n⟩, s.none hg⟩
theorem items_keys {od : Obj} {ds : List (D × D)} (h : G d = some (.frz od (.dK kvs))) (r : RpK K G kvs ds) : Items K G (Itk d od kvs) (ds.map (·.1)) := fun i G2 H2 s1 s2 => by
  have hd := s2 _ _ (s1 _ _ h)
  have rr := keys_rp r
  have hl : kvs.length = ds.length := r.length
  refine ⟨fun x hx => ?_, fun hn => ?_⟩
  · have hi := lt_of_get hx
    rw [List.length_map] at hi
    refine ⟨⟨hd, by omega⟩, fun y H3 hy => ?_⟩
    obtain ⟨rfl, k, v, hk, rfl⟩ := hy
    refine ⟨G2, Grow.refl s2, ?_⟩
    obtain ⟨v', hv', rv⟩ := rr.get hx
    rw [List.getElem?_map, hk] at hv'
    cases hv'
    exact rv.mono s1
  · have := List.getElem?_eq_none_iff.mp hn
    rw [List.length_map] at this
    exact ⟨hd, by omega⟩
end
def keysI (i : Nat) : Env → R (List D × Env) := fun e => match e[i]? with
  | some (some (.dict ds)) => if numKeys ds = true then .ok (ds.map (·.1), e) else .bad
  | _ => .bad
section
variable {K : PySem.W.Frag} {tw : List Nat} {own sl vs : List Nat} {W : WX} {cl : Nat → Addr}
def tKc (i : Nat) (g : TG) (tt : TT) (te : TE) (vs : List Nat) : TE := fun σ H Q => tLockE (tLc (iKeys (tVar i)) g tt te vs) σ H Q ∨ tLc (iKeys (tVar i)) g tt te vs σ H Q
theorem EvN.compK {i : Nat} {g : TG} {tt : TT} {te : TE} {b : D → Env → Option Env} {c : Env → R (Bool × Env)} {el : Env → R (D × Env)} (hio : i ∉ own) (hg : EvG K own sl g b) (ht : EvT K tw own WF cl tt c) (he : EvI K tw own WF cl te el)
    (hsl : ∀ i ∈ sl, i ∈ vs) (hv : ∀ i ∈ vs, i ∉ own) : EvN K tw own W cl (tKc i g tt te vs) (compD (keysI i) vs b c el) := fun H0 P G env σ H Q hp ok ans => by
  unfold compD keysI at ans
  split at ans
  · rename_i ds hds
    by_cases hk : numKeys ds = true
    · rw [if_pos hk] at ans
      simp only [bind_ok] at ans
      obtain ⟨v, hσ, rv⟩ := ok.val i _ hds hio
      cases rv with
      | @dic d kvs _ hd rk =>
        rcases hd with hd | ⟨od, hd⟩
        · refine .inl ⟨d, .dK kvs, ok.sub _ _ hd, trivial, fun od => ?_⟩
          have s1 : Sw G (upd G d (.frz od (.dK kvs))) d kvs := ⟨fun a z => upd_ne z, .inl hd, .inr ⟨od, upd_same⟩⟩
          obtain ⟨H0x, h1, h2, h3⟩ : ∃ H0x : Hp, (∀ a, a ≠ d → H0x a = H0 a) ∧ (H0x d = none ∨ H0x d = upd H d (.frz od (.dK kvs)) d) ∧ (H0x d = none → H0 d = none) := by
            cases hq : H0 d with
            | none => exact ⟨H0, fun _ _ => rfl, .inl hq, fun _ => rfl⟩
            | some o => exact ⟨upd H0 d (.frz od (.dK kvs)), fun a z => upd_ne z, .inr (by rw [upd_same, upd_same]), fun z => by rw [upd_same] at z; cases z⟩
          have ok1 : StOk K H0x P own (upd G d (.frz od (.dK kvs))) env σ (upd H d (.frz od (.dK kvs))) := ok.sw s1 (fun a z => upd_ne z) (by rw [upd_same, upd_same]) h1 h2
          refine ⟨.ref d, hσ, d, od, rfl, .inl ⟨kvs, upd_same, ?_⟩⟩
          refine comp_core (a := (ds.map (fun x : D × D => x.1), env)) (Q := fun v H' => H' d = some (.frz od (.dK kvs)) ∧ Q v (upd H' d (.dK kvs))) (er := fun c => ∀ H', Frm H0 P H' → W (.ref (cl c)) none σ H') hg ht he hsl hv hp ok1 (items_keys upd_same (rk.sw s1)) (Ans.mono ans (fun r hr G1 H1 p o gr ok2 np c2 => ?_) fun _ h => h)
          have gd : G1 d = some (.frz od (.dK kvs)) := gr.1 _ _ upd_same
          have hd1 : H1 d = some (.frz od (.dK kvs)) := ok2.sub _ _ gd
          have pd : p ≠ d := fun z => by rw [z, hd1] at np; cases np
          refine ⟨by rw [upd_ne (Ne.symm pd)]; exact hd1, ?_⟩
          have s2 : Sw G1 (upd G1 d (.dK kvs)) d kvs := ⟨fun a z => upd_ne z, .inr ⟨od, gd⟩, .inl upd_same⟩
          have ok3 : StOk K H0 P own (upd G1 d (.dK kvs)) r.2 σ (upd H1 d (.dK kvs)) := ok2.sw s2 (fun a z => upd_ne z) (by rw [upd_same, upd_same]) (fun a z => (h1 a z).symm) (by
            cases hq : H0 d with
            | none => exact .inl rfl
            | some u =>
              refine .inr ?_
              rw [upd_same]
              have npd : ¬ P.is d := fun z => by
                have := (ok.isd d z).2
                rw [hd] at this
                cases this
              rw [← hq]
              have q3 := ok.fr d u hq npd
              rw [hq, ← q3]
              exact ok.sub _ _ hd)
          have e3 : upd (upd H1 p o) d (.dK kvs) = upd (upd H1 d (.dK kvs)) p o := by
            funext a
            by_cases z : a = d
            · rw [z, upd_same, upd_ne (Ne.symm pd), upd_same]
            · by_cases y : a = p
              · rw [y, upd_ne pd, upd_same, upd_same]
              · rw [upd_ne z, upd_ne y, upd_ne y, upd_ne z]
          rw [e3]
          refine hr (upd G1 d (.dK kvs)) (upd H1 d (.dK kvs)) p o ⟨fun a u ha => ?_, fun a u ha hnt => ?_⟩ ok3 (by rw [upd_ne pd]; exact np) (c2.sw s2 (by rw [upd_same, upd_same]))
          · by_cases z : a = d
            · rw [z] at ha ⊢
              rw [upd_same, ← ha, hd]
            · rw [upd_ne z]
              exact gr.1 a u (by rw [upd_ne z]; exact ha)
          · by_cases z : a = d
            · rw [z, upd_same, hd]
            · rw [upd_ne z, gr.2 a u (by rw [h1 a z]; exact ha) hnt, upd_ne z]
        · refine .inr ⟨.ref d, hσ, d, od, rfl, .inl ⟨kvs, ok.sub _ _ hd, ?_⟩⟩
          exact comp_core (a := (ds.map (fun x : D × D => x.1), env)) hg ht he hsl hv hp ok (items_keys hd rk) ans
      | dit _ _ => simp [numKeys] at hk
      | scr _ => simp [numKeys] at hk
      | ins _ _ _ => simp [numKeys] at hk
      | rcd _ _ => simp [numKeys] at hk
    · rw [if_neg hk] at ans
      exact ans.elim
  · exact ans.elim
end
section
variable {X : Cx} {tw : List Nat} {own sl : List Nat} {W : WX} {cl : Nat → Addr} {tg : Expr} {pos : Pos} {ft : Env → R (Bool × Env)} {fe : Env → R (D × Env)}
theorem dn_compK (i : Nat) {x : Str} {q : Pos} {elt : Expr} {ifs : List Expr} {scope : Scope} {ow : List (Str × Nat)} {vs : List Nat} {gt : Shared → Hp → Addr → List (Str × Addr) → List Addr → TG} {tt : Shared → Hp → Addr → List (Str × Addr) → List Addr → TT} {te : Shared → Hp → Addr → List (Str × Addr) → List Addr → TE} {bd : D → Env → Option Env} (nd : X.N.Nodup) (hx : PE X (.Name x q) (tVar i)) (ok : BlkOk X.N X.env.scope scope ow)
    (hg : ∀ (s : Shared) (H : Hp) (C : Addr) (cl' : List (Str × Addr)) (fp : List Addr), DG (X.blk s H scope (compEnvC scope cl' C X.env) fp) own sl tg (gt s H C cl' fp) bd)
    (ht : ∀ (s : Shared) (H : Hp) (C : Addr) (cl' : List (Str × Addr)) (fp : List Addr), DTs (X.blk s H scope (compEnvC scope cl' C X.env) fp) tw own WF cl ifs (tt s H C cl' fp) ft)
    (he : ∀ (s : Shared) (H : Hp) (C : Addr) (cl' : List (Str × Addr)) (fp : List Addr), DI (X.blk s H scope (compEnvC scope cl' C X.env) fp) tw own WF cl elt (te s H C cl' fp) fe)
    (hio : i ∉ own := by decide) (hsl : ∀ i ∈ sl, i ∈ ow.map (·.2) := by decide) (hv : ∀ i ∈ ow.map (·.2), i ∉ own := by decide) (hc : X.calm = true := by rfl) (hs : ∀ y, foldedSetIterable (.Name x q) X.env y = pure y := by intro _; rfl) (hvs : ow.map (·.2) = vs := by rfl) (egt : ∀ s H C cl' fp, gt s H C cl' fp = gt X.s_0 (fun _ => none) 0 [] [] := by intros; rfl) (ett : ∀ s H C cl' fp, tt s H C cl' fp = tt X.s_0 (fun _ => none) 0 [] [] := by intros; rfl) (ete : ∀ s H C cl' fp, te s H C cl' fp = te X.s_0 (fun _ => none) 0 [] [] := by intros; rfl) :
    DN X tw own W cl (.ListComp elt [⟨tg, .Name x q, ifs, 0⟩] scope pos) (tKc i (gt X.s_0 (fun _ => none) 0 [] []) (tt X.s_0 (fun _ => none) 0 [] []) (te X.s_0 (fun _ => none) 0 [] []) vs) (compD (keysI i) vs bd ft fe) := by
  subst hvs
  have pc := pe_lc (elt := elt) (pos := pos) hc nd (pi_keys (tg := tg) hx) ok (fun s H C cl' fp => egt s H C cl' fp ▸ (hg s H C cl' fp).pg) (fun s H C cl' fp => ett s H C cl' fp ▸ (ht s H C cl' fp).pe) (fun s H C cl' fp => ete s H C cl' fp ▸ (he s H C cl' fp).pe) hs
  exact ⟨pe_either (pe_lock pc) pc, EvN.compK hio (hg X.s_0 (fun _ => none) 0 [] []).ev (ht X.s_0 (fun _ => none) 0 [] []).ev (he X.s_0 (fun _ => none) 0 [] []).ev hsl hv⟩
end
end Hz

/-! ### a list comprehension whose elements may raise (a def's own comprehension) -/
namespace Hz
open PySem PySem.Spec PyProof.Rows L2
open PySem.W (hideAll of_hideAll hideAll_get hideAll_none)
section
variable {M : Model} {A : Around} {E : Value → Shared → Prop} {s : Shared} {env : PySem.Env}
end
section
variable {M : Model} {A : Around} {E : Value → Shared → Prop} {s : Shared} {Z : Obj → Prop} {base : Heap} {env : PySem.Env} {outer l : List PySem.Env} {L L' e : Addr}
end
section
variable {X : Cx} {pins : List (Addr × Obj)} {σ : L2.St} {H : Hp} {s : Shared} {W Wb : WX} {scope : Scope} {ce : PySem.Env} {fp : List Addr} {Qf : Value → Shared → Prop} {acc : Value}
end
section
variable {K : PySem.W.Frag} {tw : List Nat} {own sl vs : List Nat} {W : WX} {cl : Nat → Addr}
end
section
variable {X : Cx}
end
section
variable {X : Cx} {tw : List Nat} {own sl : List Nat} {W : WX} {cl : Nat → Addr} {tg : Expr} {pos : Pos} {ft : Env → R (Bool × Env)} {fe : Env → R (D × Env)}
end
end Hz

namespace Hz
open PySem PySem.Spec PyProof.Rows L2
/-! ### dicts with pairs of numbers as keys -/
def keyT : D → Option (Int × Int)
  | .tuple [.int x, .int y] => some (x, y)
  | _ => none
theorem keyT_eq {d : D} {p : Int × Int} (h : keyT d = some p) : d = .tuple [.int p.1, .int p.2] := by
  unfold keyT at h
  split at h
  · cases h
    rfl
  · cases h
def kT (p : Int × Int) : List Key := [.inl p.1, .inl p.2]
def pkD (p : Int × Int) : D := .tuple [.int p.1, .int p.2]
theorem keyT_k {k : List Key} {p : Int × Int} : keyT (.tuple (k.map kD)) = some p ↔ k = kT p := by
  constructor
  · intro h
    have e := keyT_eq h
    injection e with e
    match k, e with
    | [a, b], e =>
      simp only [List.map_cons, List.map_nil, List.cons.injEq, and_true] at e
      obtain ⟨e1, e2⟩ := e
      cases a <;> cases b <;> simp [kD] at e1 e2
      unfold kT
      rw [e1, e2]
    | [], e => simp at e
    | [_], e => simp at e
    | _ :: _ :: _ :: _, e => simp at e
  · rintro rfl
    rfl
def valT : List (D × D) → Int × Int → Option D
  | [], _ => none
  | (k, d) :: r, p => if keyT k = some p then some d else valT r p
def hasT (ds : List (D × D)) (p : Int × Int) : Bool := ds.any fun e => decide (keyT e.1 = some p)
def putT (ds : List (D × D)) (p : Int × Int) (d : D) : List (D × D) := if hasT ds p = true then ds.map (fun e => if keyT e.1 = some p then (e.1, d) else e) else ds ++ [(pkD p, d)]
section
variable {K : PySem.W.Frag} {G : Hp}
theorem RpT.val {p : Int × Int} : ∀ {kvs : List (List Key × V)} {ds : List (D × D)}, RpT K G kvs ds → (∀ d, valT ds p = some d → ∃ v, valV kvs (kT p) = some v ∧ Rp K G v d) ∧ (valT ds p = none → valV kvs (kT p) = none)
  | _, _, .nil => ⟨fun _ h => (by cases h), fun _ => rfl⟩
  | _, _, .cons (k := k) r t => by
    obtain ⟨i1, i2⟩ := RpT.val (p := p) t
    unfold valT
    by_cases e : k = kT p
    · rw [if_pos (keyT_k.mpr e)]
      refine ⟨fun d h => ?_, fun h => by cases h⟩
      cases h
      exact ⟨_, valV_pos e, r⟩
    · rw [if_neg (fun z => e (keyT_k.mp z))]
      refine ⟨fun d h => ?_, fun h => ?_⟩
      · obtain ⟨v, hv, rv⟩ := i1 d h
        exact ⟨v, by rw [valV_neg e]; exact hv, rv⟩
      · rw [valV_neg e]
        exact i2 h
theorem RpT.has {p : Int × Int} : ∀ {kvs : List (List Key × V)} {ds : List (D × D)}, RpT K G kvs ds → (kvs.any fun kv => decide (kv.1 = kT p)) = hasT ds p
  | _, _, .nil => rfl
  | _, _, .cons (k := k) r t => by
    have ih := RpT.has (p := p) t
    unfold hasT at ih ⊢
    rw [List.any_cons, List.any_cons, ih]
    congr 1
    exact decide_eq_decide.mpr keyT_k.symm
theorem RpT.repl {p : Int × Int} {v : V} {d : D} (rv : Rp K G v d) : ∀ {kvs : List (List Key × V)} {ds : List (D × D)}, RpT K G kvs ds → RpT K G (kvs.map fun kv => if kv.1 = kT p then (kv.1, v) else kv) (ds.map fun e => if keyT e.1 = some p then (e.1, d) else e)
  | _, _, .nil => .nil
  | _, _, .cons (k := k) r t => by
    have ih := RpT.repl (p := p) rv t
    rw [List.map_cons, List.map_cons]
    by_cases e : k = kT p
    · rw [if_pos e, if_pos (keyT_k.mpr e)]
      exact .cons rv ih
    · rw [if_neg e, if_neg (fun z => e (keyT_k.mp z))]
      exact .cons r ih
theorem RpT.snoc {p : Int × Int} {v : V} {d : D} (rv : Rp K G v d) : ∀ {kvs : List (List Key × V)} {ds : List (D × D)}, RpT K G kvs ds → RpT K G (kvs ++ [(kT p, v)]) (ds ++ [(pkD p, d)])
  | _, _, .nil => .cons rv .nil
  | _, _, .cons r t => .cons r (RpT.snoc rv t)
theorem RpT.put {p : Int × Int} {v : V} {d : D} (rv : Rp K G v d) {kvs : List (List Key × V)} {ds : List (D × D)} (r : RpT K G kvs ds) : RpT K G (putK kvs (kT p) v) (putT ds p d) := by
  unfold putK putT
  rw [r.has]
  split
  · exact r.repl rv
  · exact r.snoc rv
theorem RpT.length : ∀ {kvs : List (List Key × V)} {ds : List (D × D)}, RpT K G kvs ds → kvs.length = ds.length
  | _, _, .nil => rfl
  | _, _, .cons _ t => by simp [RpT.length t]
theorem Rp.dT {v : V} {ds : List (D × D)} (r : Rp K G v (.dict ((.bool true, .none) :: ds))) : ∃ a kvs, v = .ref a ∧ G a = some (.dT kvs) ∧ RpT K G kvs ds := by
  cases r with
  | dit h r => exact ⟨_, _, rfl, h, r⟩
  | dic h r =>
    exfalso
    generalize e : ((PyData.bool true, PyData.none) :: ds : List (D × D)) = l at r
    cases r with
    | nil => cases e
    | cons rv t =>
      rename_i k _ _ _ _
      injection e with e _
      injection e with e _
      cases k <;> cases e
end
section
variable {K : PySem.W.Frag} {tw : List Nat} {own oL : List Nat} {W : WX} {cl : Nat → Addr} {ta tb tc : TE} {fa fb fc : Env → R (D × Env)}
end
section
variable {X : Cx} {tw : List Nat} {own oL : List Nat} {W : WX} {cl : Nat → Addr} {a b c e : Expr} {p p1 p2 pos pos' q apos : Pos} {ta tb tc te : TE} {fa fb fc fe : Env → R (D × Env)}
end
end Hz

namespace Hz
open PySem PySem.Spec PyProof.Rows L2
/-! ### sorted(d.keys()), the keys pairs of small numbers -/
section
open PySem.W PySem.Calls PyProof.V
variable {prog : Program} {w : World} {A : Around} {E : Value → Shared → Prop} {s : Shared} {T : String} {r d : Addr} {n : Nat} {P : Nat → Value → Prop} {OK : Heap → Prop}
end
section
variable {X : Cx}
end
end Hz

namespace Hz
open PySem PySem.Spec PyProof.Rows L2
/-! ### tuples that stand already may be frozen -/
/-! ### sorted(d.keys()) -/
section
variable {K : PySem.W.Frag}
end
section
variable {X : Cx} {tw : List Nat} {own : List Nat} {W : WX} {cl : Nat → Addr} {a : Expr} {p p2 q pos apos : Pos} {ta : TE} {fa : Env → R (D × Env)}
end
end Hz

namespace Hz
open PySem PySem.Spec PyProof.Rows L2
/-! ### dict(xs), xs a list of pairs whose keys are pairs of numbers -/
section
variable {X : Cx}
end
section
variable {K : PySem.W.Frag}
end
section
variable {X : Cx} {tw : List Nat} {own : List Nat} {W : WX} {cl : Nat → Addr} {e : Expr} {pos p : Pos} {tA : TA} {fA : Env → R (List D × Env)}
end
end Hz

namespace Hz
open PySem PySem.Spec PyProof.Rows L2
/-! ### defs that give a list of their own: the caller owns it -/
def spN (K : PySem.W.Frag) (cl : Nat → Addr) (n : Nat) (F : List D → R D) : Sp := fun vs H Q E => ∃ G ds, Same G H ∧ RpA K G vs ds ∧ ds.length = n ∧
  Ans (F ds) (fun d => ∀ G' H' p os, Grow G H G' H' → (∀ x ∈ dm os, H x = none) → CellO K G' p d os → Held G' H' os → Q (.ref p) H') (fun c => ∀ H', Same H H' → E (.ref (cl c)) none H')
theorem spN.len {K : PySem.W.Frag} {cl : Nat → Addr} {n : Nat} {F : List D → R D} (vs : List V) (H : Hp) (Q : VK) (E : XK) (h : spN K cl n F vs H Q E) : vs.length = n := by
  obtain ⟨G, ds, _, r, e, _⟩ := h
  rw [r.length]
  exact e
section
variable {X : Cx} {tw : List Nat} {own oM : List Nat} {W : WX} {cl : Nat → Addr} {st : Stmt} {sts : List Stmt} {ts tu : TS} {f g : Env → R (Fl × Env)} {pos q : Pos}
end
section
variable {P : Program} {w : World} {K : PySem.W.Frag} {mg : Str → Option Value} {base : Heap} {cl : Nat → Addr}
end
section
variable {K : PySem.W.Frag} {tw : List Nat} {own : List Nat} {W : WX} {cl : Nat → Addr} {tA : TA} {fA : Env → R (List D × Env)}
end
section
variable {X : Cx} {tw : List Nat} {own : List Nat} {W : WX} {cl : Nat → Addr} {e : Expr} {es : List Expr} {pos p : Pos} {tA : TA} {fA : Env → R (List D × Env)}
end
end Hz

namespace Hz
open PySem PySem.Spec PyProof.Rows L2
open PySem.W (AlikeAll iter_listW moved_old cmpIn_lt argBest_fold)
/-! ### min(xs), xs a list of data that are alike -/
section
variable {X : Cx}
end
section
variable {K : PySem.W.Frag}
end
section
variable {X : Cx} {tw : List Nat} {own : List Nat} {W : WX} {cl : Nat → Addr} {e : Expr} {pos p : Pos} {tA : TA} {fA : Env → R (List D × Env)}
end
end Hz

namespace Hz
open PySem PySem.Spec PyProof.Rows L2
/-! ### xs.extend(tuple) -/

section
variable {X : Cx}
end
section
variable {K : PySem.W.Frag} {tw : List Nat} {own : List Nat} {W : WX} {cl : Nat → Addr} {te : TE} {fe : Env → R (D × Env)}
end
section
variable {X : Cx} {tw : List Nat} {own oL : List Nat} {W : WX} {cl : Nat → Addr} {e : Expr} {pos : Pos} {te : TE} {fe : Env → R (D × Env)}
end
end Hz

namespace Hz
open PySem PySem.Spec PyProof.Rows L2
/-! ### a, b, c = x, y, z with plain local names: stored from the right -/
section
variable {X : Cx} {tw : List Nat} {own oL : List Nat} {W : WX} {cl : Nat → Addr} {ks : List Bool} {tA : TA} {fA : Env → R (List D × Env)}
end
end Hz

namespace Hz
open PySem PySem.Spec PyProof.Rows L2
/-! ### text.count(text) -/
def countM : D → D → Option D
  | .str a, .str b => some (.int (Txt.count a b))
  | _, _ => none
section
variable {K : PySem.W.Frag}
theorem v_count : OpS K (fun x xs H Q => ∃ a b, x = .str a ∧ xs = [.str b] ∧ Q (.int (Txt.count a b)) H) countM := fun G H x y dx dy d Q sub rx ry e q => by
  cases rx <;> first | (cases e; done) | skip
  cases ry <;> first | (cases e; done) | skip
  rename_i a b
  simp only [countM] at e
  cases e
  exact ⟨a, b, rfl, rfl, q G H _ (Grow.refl sub) (.int _)⟩
end
section
variable {X : Cx} {tw : List Nat} {own : List Nat} {W : WX} {cl : Nat → Addr} {o e : Expr} {apos pos : Pos} {ta tb : TE} {fa fb : Env → R (D × Env)} {k : Nat}
theorem de_m_count (hr : Room k X.A) (ho : DI X tw own W cl o ta fa) (he : DI X tw own W cl e tb fb) (hs : starEach [e] X.env = [(false, eval e X.env)] := by rfl) (hbase : attributeBase o "count" X.env (eval o X.env) = eval o X.env := by rfl) (hline : (apos.endLine == pos.line) = true := by rfl) :
    DI X tw own W cl (.Call (.Attribute o "count" apos) [e] [] pos) (tM1 (fun x xs H Q => ∃ a b, x = .str a ∧ xs = [.str b] ∧ Q (.int (Txt.count a b)) H) ta tb) (strM countM fa fb) := ⟨pe_m1 F.slot_str_count F.type_str_count mt_count ho.pe he.pe hs hbase hline, EvI.strM v_count ho.ev he.ev⟩
end
end Hz

/-! looks at what is ours: frozen for the time of an expression that changes nothing -/
namespace Hz
open PySem PySem.Spec PyProof.Rows L2

mutual
def lightD : D → Bool
  | .tuple ds => lightL ds
  | .list _ => false
  | .dict _ => false
  | .none => true
  | .bool _ => true
  | .int _ => true
  | .str _ => true
def lightL : List D → Bool
  | [] => true
  | d :: ds => lightD d && lightL ds
end
def TupS (G G' : Hp) : Prop := (∀ a xs, G a = some (.tup xs) → G' a = some (.tup xs)) ∧ ∀ a o xs, G a = some (.frz o (.tup xs)) → G' a = some (.frz o (.tup xs))
section
variable {K : PySem.W.Frag} {G G' : Hp}
theorem TupS.sq (e : TupS G G') {a : Addr} {xs : List V} (h : SqT K G a xs) : SqT K G' a xs := by
  rcases h with (h | ⟨o, h⟩) | h
  · exact .inl (.inl (e.1 _ _ h))
  · exact .inl (.inr ⟨o, e.2 _ _ _ h⟩)
  · exact .inr h
theorem TupS.nd (e : TupS G G') {a : Addr} (h : NoD K G a) : NoD K G' a := by
  rcases h with ⟨o, xs, h, hd⟩ | h
  · exact .inl ⟨o, xs, e.2 _ _ _ h, hd⟩
  · exact .inr h
mutual
theorem Rp.light (e : TupS G G') : ∀ {v : V} {d : D}, Rp K G v d → lightD d = true → Rp K G' v d
  | _, _, .non, _ => .non
  | _, _, .bl b, _ => .bl b
  | _, _, .int i, _ => .int i
  | _, _, .str x, _ => .str x
  | _, _, .lst h a, l => by simp [lightD] at l
  | _, _, .scr h, l => by simp [lightD] at l
  | _, _, .tup h a n, l => .tup (e.sq h) (RpA.light e a (by simpa [lightD] using l)) ⟨fun z => e.nd (n.1 z), fun z => e.1 _ _ (n.2 z)⟩
  | _, _, .dic h a, l => by simp [lightD] at l
  | _, _, .dit h a, l => by simp [lightD] at l
  | _, _, .ins h c a, l => by simp [lightD] at l
  | _, _, .rcd h a, l => by simp [lightD] at l
theorem RpA.light (e : TupS G G') : ∀ {vs : List V} {ds : List D}, RpA K G vs ds → lightL ds = true → RpA K G' vs ds
  | _, _, .nil, _ => .nil
  | _, _, .cons h a, l => by
    simp only [lightL, Bool.and_eq_true] at l
    exact .cons (Rp.light e h l.1) (RpA.light e a l.2)
end
theorem RpK.light (e : TupS G G') : ∀ {vs : List (Key × V)} {ds : List (D × D)}, RpK K G vs ds → lightL (ds.map (·.2)) = true → RpK K G' vs ds
  | _, _, .nil, _ => .nil
  | _, _, .cons h a, l => by
    simp only [List.map_cons, lightL, Bool.and_eq_true] at l
    exact .cons (h.light e l.1) (RpK.light e a l.2)
end
open Classical in
noncomputable def onF (F : Addr → Prop) (A B : Hp) : Hp := fun a => if F a then A a else B a
theorem onF_in {F : Addr → Prop} {A B : Hp} {a : Addr} (h : F a) : onF F A B a = A a := if_pos h
theorem onF_out {F : Addr → Prop} {A B : Hp} {a : Addr} (h : ¬ F a) : onF F A B a = B a := if_neg h
section
variable {K : PySem.W.Frag} {H0 : Hp} {P : Par} {own : List Nat} {G H : Hp} {env : Env} {σ : L2.St}
def NF (o : HO) : Prop := ∀ b u, o ≠ .frz b u
theorem Fl1.nf {v : V} {d : D} {os : Os} (h : Fl1 K G v d os) : ∀ x o, (x, o) ∈ os → NF o := by
  cases h <;> (intro x o m b u z; cases List.mem_singleton.mp m; cases z)
theorem FlA.nf : ∀ {vs : List V} {ds : List D} {os : Os}, FlA K G vs ds os → ∀ x o, (x, o) ∈ os → NF o
  | _, _, _, .nil, x, o, m => by cases m
  | _, _, _, .cons h t, x, o, m => (List.mem_append.mp m).elim (h.nf x o) (FlA.nf t x o)
theorem FlK.nf : ∀ {vs : List (Key × V)} {ds : List (D × D)} {os : Os}, FlK K G vs ds os → ∀ x o, (x, o) ∈ os → NF o
  | _, _, _, .nil, x, o, m => by cases m
  | _, _, _, .cons h t, x, o, m => (List.mem_append.mp m).elim (h.nf x o) (FlK.nf t x o)
theorem Fd.nf {n : Nat} {v : V} {d : D} {os : Os} (h : Fd K G n v d os) : ∀ x o, (x, o) ∈ os → NF o := by
  intro x o m
  cases h with
  | fz r => cases m
  | fl r => exact r.nf x o m
  | ll r => exact (List.mem_cons.mp m).elim (fun z => by cases z; exact fun b u y => by cases y) (r.nf x o)
  | dl r => exact (List.mem_cons.mp m).elim (fun z => by cases z; exact fun b u y => by cases y) (r.nf x o)
theorem DFs.nf : ∀ {fs : List (Str × V)} {ds : List (D × D)} {os : Os}, DFs K G fs ds os → ∀ x o, (x, o) ∈ os → NF o
  | _, _, _, .nil, x, o, m => by cases m
  | _, _, _, .cons h t, x, o, m => (List.mem_append.mp m).elim (h.nf x o) (DFs.nf t x o)
theorem CellO.nf {p : Addr} {d : D} {os : Os} (h : CellO K G p d os) : ∀ x o, (x, o) ∈ os → NF o := by
  intro x o m
  cases h with
  | lst r => cases List.mem_singleton.mp m; exact fun b u y => by cases y
  | dic r => cases List.mem_singleton.mp m; exact fun b u y => by cases y
  | dit r => cases List.mem_singleton.mp m; exact fun b u y => by cases y
  | ins c r =>
    rcases List.mem_cons.mp m with z | m
    · cases z
      exact fun b u y => by cases y
    · exact (List.mem_cons.mp m).elim (fun z => by cases z; exact fun b u y => by cases y) (r.nf x o)
  | rcd r => exact (List.mem_cons.mp m).elim (fun z => by cases z; exact fun b u y => by cases y) (r.nf x o)
def Foot (G H : Hp) (F : Addr → Prop) : Prop := ∀ x, F x → ∃ o, H x = some o ∧ G x = none ∧ NT o ∧ NF o
theorem StOk.borrow (s : StOk K H0 P own G env σ H) : ∃ F, Foot G H F ∧ StOk K H ([], P.2) [] (onF F H G) env σ H := by
  obtain ⟨f, h1, h2⟩ := s.cel
  let F : Addr → Prop := fun x => ∃ i ∈ own, x ∈ dm (f i)
  have ft : Foot G H F := fun x ⟨i, hi, hx⟩ => by
    obtain ⟨_, _, _, _, c, hh, _⟩ := h1 i hi
    obtain ⟨o, ho⟩ := dm_mem.mp hx
    obtain ⟨a1, a2, a3⟩ := hh.at_ x o ho
    exact ⟨o, a1, a2, a3, c.nf x o ho⟩
  have gg : Same G (onF F H G) := fun a o ha => by
    rw [onF_out fun z => ?_]
    · exact ha
    · obtain ⟨u, _, hg, _⟩ := ft a z
      rw [ha] at hg
      cases hg
  refine ⟨F, ft, fun a o ha => ?_, fun a o h _ => h, fun a o h => ⟨o, h, id⟩, s.len, fun i d he _ => ?_, ⟨fun _ => [], fun i z => absurd z List.not_mem_nil, fun i z => absurd z List.not_mem_nil⟩, fun q z => absurd z List.not_mem_nil, fun x ⟨q, z, _⟩ => absurd z List.not_mem_nil, s.ln⟩
  · by_cases z : F a
    · rw [onF_in z] at ha
      exact ha
    · rw [onF_out z] at ha
      exact s.sub a o ha
  · by_cases hi : i ∈ own
    · obtain ⟨p, d', e1, e2, c, hh, _⟩ := h1 i hi
      rw [he] at e1
      cases e1
      exact ⟨.ref p, e2, c.rp gg fun x o m => by rw [onF_in ⟨i, hi, dm_mem.mpr ⟨o, m⟩⟩]; exact (hh.at_ x o m).1⟩
    · obtain ⟨v, e1, r⟩ := s.val i d he hi
      exact ⟨v, e1, r.mono gg⟩
theorem StOk.hide (s : StOk K H0 P own G env σ H) : StOk K H ([], P.2) [] G (wipeE env own) σ H := by
  refine ⟨s.sub, fun a o h _ => h, fun a o h => ⟨o, h, id⟩, by rw [wipeE_length]; exact s.len, fun i d he _ => ?_, ⟨fun _ => [], fun i z => absurd z List.not_mem_nil, fun i z => absurd z List.not_mem_nil⟩, fun q z => absurd z List.not_mem_nil, fun x ⟨q, z, _⟩ => absurd z List.not_mem_nil, s.ln⟩
  obtain ⟨h1, h2⟩ := wipeE_some he
  exact s.val i d h2 h1
theorem Foot.back {F : Addr → Prop} {G' H' : Hp} (ft : Foot G H F) (sub : Same G H) (gr : Gr H (onF F H G) G') (gh : Same G' H') (hh : Same H H') : Grow G H (onF F (fun _ => none) G') H' ∧ TupS G' (onF F (fun _ => none) G') := by
  refine ⟨⟨fun a o ha => ?_, fun a o ha => ?_, hh, fun a o ha n => ?_⟩, fun a xs ha => ?_, fun a u xs ha => ?_⟩
  · have nf : ¬ F a := fun z => by
      obtain ⟨u, _, hg, _⟩ := ft a z
      rw [ha] at hg
      cases hg
    rw [onF_out nf]
    exact gr.1 a o (by rw [onF_out nf]; exact ha)
  · by_cases z : F a
    · rw [onF_in z] at ha
      cases ha
    · rw [onF_out z] at ha
      exact gh a o ha
  · by_cases z : F a
    · rw [onF_in z]
      obtain ⟨u, _, hg, _⟩ := ft a z
      exact hg.symm
    · rw [onF_out z, gr.2 a o ha n, onF_out z]
  · have nf : ¬ F a := fun z => by
      obtain ⟨o, ho, _, n, _⟩ := ft a z
      have h1 := hh a o ho
      rw [gh a _ ha] at h1
      cases h1
      exact n xs rfl
    rw [onF_out nf]
    exact ha
  · have nf : ¬ F a := fun z => by
      obtain ⟨o, ho, _, _, n⟩ := ft a z
      have h1 := hh a o ho
      rw [gh a _ ha] at h1
      cases h1
      exact n _ _ rfl
    rw [onF_out nf]
    exact ha
/-! ### quiet: nothing that stands is changed -/
def QI (K : PySem.W.Frag) (own : List Nat) (W : WX) (cl : Nat → Addr) (t : TE) (f : Env → R D) : Prop :=
  ∀ (H0 : Hp) (P : Par) (G : Hp) (env : Env) (σ : L2.St) (H : Hp) (Q : VK), StOk K H0 P own G env σ H →
    Ans (f env) (fun d => ∀ G' H' v, Grow G H G' H' → Rp K G' v d → Q v H') (fun c => ∀ H', Same H H' → W (.ref (cl c)) none σ H') → t σ H Q
def QA (K : PySem.W.Frag) (own : List Nat) (W : WX) (cl : Nat → Addr) (t : TA) (f : Env → R (List D)) : Prop :=
  ∀ (H0 : Hp) (P : Par) (G : Hp) (env : Env) (σ : L2.St) (H : Hp) (Q : List V → Hp → Prop), StOk K H0 P own G env σ H →
    Ans (f env) (fun ds => ∀ G' H' vs, Grow G H G' H' → RpA K G' vs ds → Q vs H') (fun c => ∀ H', Same H H' → W (.ref (cl c)) none σ H') → t σ H Q
def QT (K : PySem.W.Frag) (own : List Nat) (W : WX) (cl : Nat → Addr) (t : TT) (f : Env → R Bool) : Prop :=
  ∀ (H0 : Hp) (P : Par) (G : Hp) (env : Env) (σ : L2.St) (H : Hp) (Q : Bool → Hp → Prop), StOk K H0 P own G env σ H →
    Ans (f env) (fun b => ∀ G' H', Grow G H G' H' → Q b H') (fun c => ∀ H', Same H H' → W (.ref (cl c)) none σ H') → t σ H Q
def QN (K : PySem.W.Frag) (own : List Nat) (W : WX) (cl : Nat → Addr) (t : TE) (f : Env → R D) : Prop :=
  ∀ (H0 : Hp) (P : Par) (G : Hp) (env : Env) (σ : L2.St) (H : Hp) (Q : VK), StOk K H0 P own G env σ H →
    Ans (f env) (fun d => ∀ G' H' p os, Grow G H G' H' → (∀ x ∈ dm os, H x = none) → CellO K G' p d os → Held G' H' os → Q (.ref p) H') (fun c => ∀ H', Same H H' → W (.ref (cl c)) none σ H') → t σ H Q
theorem StOk.frm (s : StOk K H0 P own G env σ H) {H' : Hp} (h : Same H H') : Frm H0 P H' := fun a o h0 n => h a o (s.fr a o h0 n)
theorem Frm.same {H H' : Hp} {n : Nat} (h : Frm H ([], n) H') : Same H H' := fun a o ha => h a o ha fun ⟨q, z, _⟩ => absurd z List.not_mem_nil
variable {W : WX} {cl : Nat → Addr} {tw : List Nat}
def brwQ (f : Env → R (D × Env)) : Env → R D := fun e => (f e).bind fun x => if lightD x.1 = true then .ok x.1 else .bad
theorem EvI.brwQ {t : TE} {f : Env → R (D × Env)} (h : EvI K [] [] W cl t f) : QI K own W cl t (Hz.brwQ f) := fun H0 P G env σ H Q ok ans => by
  obtain ⟨F, ft, okb⟩ := ok.borrow
  refine h H ([], P.2) _ env σ H Q rfl okb (ans.bind.mono (fun a ha G' H' v gr ok' rv => ?_) fun c hc H' fr => hc H' fr.same)
  by_cases hl : lightD a.1 = true
  · rw [if_pos hl] at ha
    obtain ⟨g, tp⟩ := ft.back ok.sub gr ok'.sub ok'.fr.same
    exact ha _ H' v g (rv.light tp hl)
  · rw [if_neg hl] at ha
    exact ha.elim
def brwB (f : Env → R (Bool × Env)) : Env → R Bool := fun e => (f e).bind fun x => .ok x.1
theorem EvT.brwB {t : TT} {f : Env → R (Bool × Env)} (h : EvT K [] [] W cl t f) : QT K own W cl t (Hz.brwB f) := fun H0 P G env σ H Q ok ans => by
  obtain ⟨F, ft, okb⟩ := ok.borrow
  refine h H ([], P.2) _ env σ H Q rfl okb (ans.bind.mono (fun a ha G' H' gr ok' => ?_) fun c hc H' fr => hc H' fr.same)
  obtain ⟨g, tp⟩ := ft.back ok.sub gr ok'.sub ok'.fr.same
  exact ha _ H' g
def lightC : D → Bool
  | .list ds => lightL ds
  | .dict ds => flatD (.dict ds) && lightL (ds.map (·.2))
  | _ => false
def brwN (f : Env → R (D × Env)) : Env → R D := fun e => (f e).bind fun x => if lightC x.1 = true then .ok x.1 else .bad
theorem RpT.light {G G' : Hp} (e : TupS G G') : ∀ {vs : List (List Key × V)} {ds : List (D × D)}, RpT K G vs ds → lightL (ds.map (·.2)) = true → RpT K G' vs ds
  | _, _, .nil, _ => .nil
  | _, _, .cons h a, l => by
    simp only [List.map_cons, lightL, Bool.and_eq_true] at l
    exact .cons (h.light e l.1) (RpT.light e a l.2)
theorem CellO.light {G G' : Hp} (e : TupS G G') {p : Addr} {d : D} {os : Os} (c : CellO K G p d os) (h : lightC d = true) : CellO K G' p d os := by
  cases c with
  | lst r => exact .lst (r.light e h)
  | dic r =>
    simp only [lightC, Bool.and_eq_true] at h
    exact .dic (r.light e h.2)
  | dit r =>
    simp only [lightC, Bool.and_eq_true, List.map_cons, lightL] at h
    exact .dit (r.light e h.2.2)
  | ins _ _ => simp [lightC, flatD] at h
  | rcd _ => simp [lightC, flatD] at h
theorem EvNo.brwN {t : TE} {f : Env → R (D × Env)} (h : EvNo K [] [] W cl t f) : QN K own W cl t (Hz.brwN f) := fun H0 P G env σ H Q ok ans => by
  obtain ⟨F, ft, okb⟩ := ok.borrow
  refine h H ([], P.2) _ env σ H Q rfl okb (ans.bind.mono (fun a ha G1 H1 G' H' p os gr ok1 gw hf c hd => ?_) fun c hc H' fr => hc H' fr.same)
  by_cases hl : lightC a.1 = true
  · rw [if_pos hl] at ha
    have sh1 : Same H H1 := ok1.fr.same
    have sh : Same H H' := sh1.trans gw.hh
    have gr' : Gr H (onF F H G) G' := gr.trans (gw.gr ok1)
    obtain ⟨g, tp⟩ := ft.back ok.sub gr' gw.gh sh
    refine ha _ H' p os g (fun x hx => sh1.free (hf x hx)) (c.light tp hl) (hd.mono (fun x m => ?_) fun x o m => (hd.at_ x o m).1)
    by_cases z : F x
    · rw [onF_in z]
    · rw [onF_out z]
      exact (hd.there m).choose_spec.2.1
  · rw [if_neg hl] at ha
    exact ha.elim
def hidQ (own : List Nat) (f : Env → R (D × Env)) : Env → R D := fun e => (f (wipeE e own)).bind fun x => .ok x.1
theorem EvI.hidQ {t : TE} {f : Env → R (D × Env)} (h : EvI K [] [] W cl t f) : QI K own W cl t (Hz.hidQ own f) := fun H0 P G env σ H Q ok ans => by
  refine h H ([], P.2) G _ σ H Q rfl ok.hide (ans.bind.mono (fun a ha G' H' v gr ok' rv => ?_) fun c hc H' fr => hc H' fr.same)
  exact ha G' H' v ⟨gr.1, ok'.sub, ok'.fr.same, gr.2⟩ rv
theorem EvNo.hidQ {t : TE} {f : Env → R (D × Env)} (h : EvNo K [] [] W cl t f) : QN K own W cl t (Hz.hidQ own f) := fun H0 P G env σ H Q ok ans => by
  refine h H ([], P.2) G _ σ H Q rfl ok.hide (ans.bind.mono (fun a ha G1 H1 G' H' p os gr ok1 gw hf c hd => ?_) fun c hc H' fr => hc H' fr.same)
  have sh1 : Same H H1 := ok1.fr.same
  exact ha G' H' p os ⟨gr.1.trans gw.gg, gw.gh, sh1.trans gw.hh, fun x o hx n => (gw.new x o (sh1 x o hx) n).trans (gr.2 x o hx n)⟩ (fun x hx => sh1.free (hf x hx)) c hd
/-! as any expression -/
def quI (f : Env → R D) : Env → R (D × Env) := fun e => (f e).bind fun d => .ok (d, e)
def quT (f : Env → R Bool) : Env → R (Bool × Env) := fun e => (f e).bind fun d => .ok (d, e)
theorem QI.toI {t : TE} {f : Env → R D} (h : QI K own W cl t f) : EvI K tw own W cl t (quI f) := fun H0 P G env σ H Q hp ok ans => by
  refine h H0 P G env σ H Q ok (ans.bind.mono (fun d hd G' H' v g rv => hd G' H' v (g.gr ok) (ok.grow g) rv) fun c hc H' sm => hc H' (ok.frm sm))
theorem QN.toNo {t : TE} {f : Env → R D} (h : QN K own W cl t f) : EvNo K tw own W cl t (quI f) := fun H0 P G env σ H Q hp ok ans => by
  refine h H0 P G env σ H Q ok (ans.bind.mono (fun d hd G' H' p os g hf c hh => hd G H G' H' p os Gr.refl ok g hf c hh) fun c hc H' sm => hc H' (ok.frm sm))
/-! rules for quiet expressions -/
def qNil : Env → R (List D) := fun _ => .ok []
def qCons (a : Env → R D) (b : Env → R (List D)) : Env → R (List D) := fun e => (a e).bind fun x => (b e).bind fun y => .ok (x :: y)
def qTup (a : Env → R (List D)) : Env → R D := fun e => (a e).bind fun x => .ok (.tuple x)
def qCall (F : List D → R D) (a : Env → R (List D)) : Env → R D := fun e => (a e).bind F
def qOp2 (g : D → D → Option D) (a b : Env → R D) : Env → R D := fun e => (a e).bind fun x => (b e).bind fun y => lift (g x y)
theorem QA.nil : QA K own W cl tNil qNil := fun H0 P G env σ H Q ok ans => ans G H [] (Grow.refl ok.sub) .nil
theorem QA.cons {te : TE} {tA : TA} {fe : Env → R D} {fA : Env → R (List D)} (ha : QI K own W cl te fe) (hb : QA K own W cl tA fA) : QA K own W cl (tCons te tA) (qCons fe fA) := fun H0 P G env σ H Q ok ans => by
  refine ha H0 P G env σ H _ ok (ans.bind.mono (fun a ha' G1 H1 x g1 rx => ?_) fun _ h => h)
  refine hb H0 P G1 env σ H1 _ (ok.grow g1) (ha'.bind.mono (fun b hb' G2 H2 y g2 ry => ?_) fun _ h H' sm => h H' (g1.hh.trans sm))
  exact hb' G2 H2 (x :: y) (g1.trans g2) (.cons (rx.mono g2.gg) ry)
theorem QI.tup {tA : TA} {fA : Env → R (List D)} (ha : QA K own W cl tA fA) (hl : ∀ env r, fA env = .ok r → r.length ≤ 1000) : QI K own W cl (tTupP tA) (qTup fA) := fun H0 P G env σ H Q ok ans => by
  refine ha H0 P G env σ H _ ok (ans.bind.monoE (fun a e ha' G1 H1 vs g1 rx => ?_) fun _ h => h)
  refine ⟨by rw [rx.length]; exact sz100 (Nat.le_trans (hl env a e) (by decide)), fun p ob np hd => ?_⟩
  have gg : Grow G1 H1 (upd G1 p (tupO ob vs)) (upd H1 p (tupO ob vs)) := Grow.lay g1.gh np
  exact ha' _ _ (.ref p) (g1.trans gg) (Rp.lay upd_same hd (rx.mono gg.gg))
theorem QI.call {n : Nat} {F : List D → R D} {tA : TA} {fA : Env → R (List D)} (ha : QA K own W cl tA fA) (hl : ∀ env r, fA env = .ok r → r.length = n) : QI K own W cl (tCallS (spP K cl n F) (WE W) tA) (qCall F fA) := fun H0 P G env σ H Q ok ans => by
  refine ha H0 P G env σ H _ ok (ans.bind.monoE (fun a e ha' G1 H1 vs g1 rx => ?_) fun _ h => h)
  refine ⟨G1, a, g1.gh, rx, hl env a e, ha'.mono (fun d q G' H' v gg rv => q G' H' v (g1.trans gg) rv) fun c h H' hs => h H' (g1.hh.trans hs)⟩
theorem QI.op2 {r : R2} {g : D → D → Option D} {ta tb : TE} {fa fb : Env → R D} (ho : Op2 K r g) (ha : QI K own W cl ta fa) (hb : QI K own W cl tb fb) : QI K own W cl (tOp r ta tb) (qOp2 g fa fb) := fun H0 P G env σ H Q ok ans => by
  refine ha H0 P G env σ H _ ok (ans.bind.mono (fun a ha' G1 H1 x g1 rx => ?_) fun _ h => h)
  refine hb H0 P G1 env σ H1 _ (ok.grow g1) (ha'.bind.mono (fun b hb' G2 H2 y g2 ry => ?_) fun _ h H' sm => h H' (g1.hh.trans sm))
  have hb'' : Ans ((lift (g a b)).bind .ok) (fun d => ∀ G' H' v, Grow G H G' H' → Rp K G' v d → Q v H') (fun c => ∀ H', Same H H' → W (.ref (cl c)) none σ H') := by
    cases hg : g a b with
    | none => rw [hg] at hb'; exact hb'.elim
    | some d => rw [hg] at hb'; exact hb'
  obtain ⟨d, e, q⟩ := ans_lift hb''
  exact ho G2 H2 x y a b d Q g2.gh (rx.mono g2.gg) ry e fun G' H' v gg rv => q G' H' v ((g1.trans g2).trans gg) rv
end
end Hz

/-! instances: their attributes, their methods -/
namespace Hz
open PySem PySem.Spec PyProof.Rows L2 L2H

def insD (ds : List (D × D)) : D := .dict [(.bool false, .dict ds)]
def insOf : D → Option (List (D × D))
  | .dict [(.bool false, .dict ds)] => some ds
  | _ => none
theorem insOf_eq {d : D} {ds : List (D × D)} (h : insOf d = some ds) : d = insD ds := by
  unfold insOf at h
  split at h
  · cases h
    rfl
  · cases h
def fldD (f : Str) (d : D) : Option D := (insOf d).bind fun ds => valD ds (.str f)
def mOk (m : Str) (d : D) : Bool := match insOf d with
  | some ds => (valD ds (.str m)).isNone
  | none => false
theorem valV_fK (f : Str) : ∀ fs : List (Str × V), valV (fK fs) (.inr f) = fs.lookup f
  | [] => rfl
  | (g, v) :: fs => by
    have ih := valV_fK f fs
    unfold fK at ih ⊢
    rw [List.map_cons, List.lookup_cons]
    unfold valV at ih ⊢
    by_cases h : f = g
    · subst h
      simp
    · have h1 : (f == g) = false := by simpa using h
      rw [h1]
      have h2 : (decide ((Sum.inr g : Key) = .inr f)) = false := decide_eq_false fun z => h (Sum.inr.inj z).symm
      simp only [List.find?_cons]
      first
        | (rw [h2]; exact ih)
        | (simp [Ne.symm h] at ih ⊢; exact ih)
theorem Rp.insI {K : PySem.W.Frag} {G : Hp} {v : V} {ds : List (D × D)} (r : Rp K G v (insD ds)) : ∃ a C dx fs, v = .ref a ∧ G a = some (.ins C dx fs) ∧ PostC K C ∧ RpK K G (fK fs) ds := by
  unfold insD at r
  generalize e : PyData.dict [(PyData.bool false, PyData.dict ds)] = d at r
  cases r with
  | ins h c a =>
    cases e
    exact ⟨_, _, _, _, rfl, h, c, a⟩
  | dic h a =>
    cases e
    generalize e2 : [(PyData.bool false, PyData.dict ds)] = l at a
    cases a with
    | nil => cases e2
    | @cons k v kvs d' ds' h1 h2 =>
      injection e2 with e3 _
      injection e3 with e4 _
      cases k <;> cases e4
  | scr h => cases e
  | dit h a => cases e
  | rcd h a => cases e
  | _ => cases e
structure PoF (K : PySem.W.Frag) (C : Addr) : Prop where
  at_ : PostC K C
  cl : Cls K C
  no : ∀ f, f ∈ (["tree", "book", "shows", "items_left", "at", "tellings", "here", "broken", "fogs", "wrong", "books", "got_there", "told"] : List Str) → NoAttr K C f
theorem PoF.eq {K : PySem.W.Frag} {C C' : Addr} (h : PoF K C) (h' : PostC K C') : C' = C := by
  have := h'.symm.trans h.at_
  cases this
  rfl
section
variable {K : PySem.W.Frag} {tw own : List Nat} {W : WX} {cl : Nat → Addr} {ta : TE} {fa : Env → R (D × Env)} {tA : TA} {fA : Env → R (List D × Env)} {C : Addr}
theorem fld_rp {G H : Hp} {x : V} {dx d : D} {f : Str} (pf : PoF K C) (hf : f ∈ (["tree", "book", "shows", "items_left", "at", "tellings", "here", "broken", "fogs", "wrong", "books", "got_there", "told"] : List Str)) (sub : Same G H) (rx : Rp K G x dx) (e : fldD f dx = some d) :
    ∃ a C dx fs v, x = .ref a ∧ H a = some (.ins C dx fs) ∧ Cls K C ∧ NoAttr K C f ∧ fs.lookup f = some v ∧ Rp K G v d := by
  obtain ⟨ds, h1, h2⟩ := Option.bind_eq_some_iff.mp e
  rw [insOf_eq h1] at rx
  obtain ⟨a, C', dx', fs, rfl, hg, hc, r⟩ := rx.insI
  cases pf.eq hc
  obtain ⟨v, hv, rv⟩ := (RpK.val (k := .inr f) r).1 d h2
  rw [valV_fK] at hv
  exact ⟨a, C, dx', fs, v, rfl, sub _ _ hg, pf.cl, pf.no f hf, hv, rv⟩
theorem EvI.fld {f : Str} (pf : PoF K C) (hf : f ∈ (["tree", "book", "shows", "items_left", "at", "tellings", "here", "broken", "fogs", "wrong", "books", "got_there", "told"] : List Str)) (ha : EvI K tw own W cl ta fa) : EvI K tw own W cl (tFld K ta f) (Hz.op1 (fldD f) fa) := fun H0 P G env σ H Q hp ok ans => by
  refine ha H0 P G env σ H _ hp ok (ans.bind.mono (fun a ha' G1 H1 x g1 ok1 rx => ?_) fun _ h => h)
  obtain ⟨d, e, q⟩ := ans_lift ha'
  obtain ⟨a', C', dx, fs, v, h1, h2, h3, h4, h5, h6⟩ := fld_rp pf hf ok1.sub rx e
  exact ⟨a', C', dx, fs, v, h1, h2, h3, h4, h5, q G1 H1 v g1 ok1 h6⟩
def callMP (m : Str) (F : List D → R D) (a : Env → R (D × Env)) (b : Env → R (List D × Env)) : Env → R (D × Env) := fun e => (a e).bind fun x => if mOk m x.1 = true then (b x.2).bind fun y => (F (x.1 :: y.1)).bind fun d => .ok (d, y.2) else .bad
def spM (K : PySem.W.Frag) (cl : Nat → Addr) (n : Nat) (F : List D → R (D × D)) : Sp := fun vs H Q E => ∃ G p vb dt db os, vs = .ref p :: vb ∧ Same G H ∧ CellO K G p dt os ∧ Held G H os ∧ RpA K G vb db ∧ db.length + 1 = n ∧
  Ans (F (dt :: db)) (fun a => ∀ G' H' v os', Does K G H os G' H' p a.2 os' → Rp K G' v a.1 → Q v H') (fun c => ∀ H', Same H H' → E (.ref (cl c)) none H')
theorem spM.len {cl : Nat → Addr} {n : Nat} {F : List D → R (D × D)} (vs : List V) (H : Hp) (Q : VK) (E : XK) (h : spM K cl n F vs H Q E) : vs.length = n := by
  obtain ⟨G, p, vb, dt, db, os, rfl, _, _, _, rb, e, _⟩ := h
  rw [← e, ← rb.length, List.length_cons]
def callM (m : Str) (F : List D → R (D × D)) (i : Nat) (b : Env → R (List D × Env)) : Env → R (D × Env) := fun e => match e[i]? with
  | some (some t0) => if mOk m t0 = true then (b e).bind fun y => match y.2[i]? with
      | some (some t) => (F (t :: y.1)).bind fun r => .ok (r.1, y.2.set i (some r.2))
      | _ => .bad
    else .bad
  | _ => .bad
theorem CellO.insI {G H : Hp} {p : Addr} {d : D} {os : Os} {ds : List (D × D)} (c : CellO K G p d os) (h : Held G H os) (e : insOf d = some ds) : ∃ C dx fs o, PostC K C ∧ DFs K G fs ds o ∧ os = (p, .ins C dx fs) :: (dx, .own p) :: o ∧ H p = some (.ins C dx fs) := by
  rw [insOf_eq e] at c
  unfold insD at c
  generalize e : PyData.dict [(PyData.bool false, PyData.dict ds)] = d' at c
  cases c with
  | ins hc hd =>
    cases e
    exact ⟨_, _, _, _, hc, hd, rfl, (h.at_ _ _ List.mem_cons_self).1⟩
  | dic a =>
    cases e
    generalize e2 : [(PyData.bool false, PyData.dict ds)] = l at a
    cases a with
    | nil => cases e2
    | @cons k v kvs d' ds' h1 h2 =>
      injection e2 with e3 _
      injection e3 with e4 _
      cases k <;> cases e4
  | dit a => cases e
  | rcd a => cases e
  | lst a => cases e
theorem DFs.none {G : Hp} {m : Str} : ∀ {fs : List (Str × V)} {ds : List (D × D)} {o : Os}, DFs K G fs ds o → valD ds (.str m) = Option.none → fs.lookup m = Option.none
  | _, _, _, .nil, _ => rfl
  | _, _, _, .cons (f := f) (ds := ds) h t, e => by
    have e' : (if keqD (.str f) (.str m) = true then some _ else valD ds (.str m)) = Option.none := e
    have hk : keqD (.str f) (.str m) = decide (f = m) := by simp [keqD, keq0]
    rw [hk] at e'
    by_cases z : f = m
    · subst z
      simp at e'
    · rw [if_neg (by simpa using z)] at e'
      rw [List.lookup_cons, show (m == f) = false by simpa using Ne.symm z]
      exact DFs.none t e'
/-! ### what is asked ahead of any change -/
def EvC (K : PySem.W.Frag) (own : List Nat) (W : WX) (cl : Nat → Addr) (t : TS) (f : Env → R Unit) : Prop :=
  ∀ (H0 : Hp) (P : Par) (G : Hp) (env : Env) (σ : L2.St) (H : Hp) (E : Ends), StOk K H0 P own G env σ H →
    Ans (f env) (fun _ => ∀ G' H', Grow G H G' H' → E.nx σ H') (fun c => ∀ H', Same H H' → W (.ref (cl c)) none σ H') → t E σ H
def dropC (f : Env → R D) : Env → R Unit := fun e => (f e).bind fun _ => .ok ()
def guardC (f : Env → R Bool) (k : Nat) : Env → R Unit := fun e => (f e).bind fun b => if b = true then .err k else .ok ()
theorem EvC.drop {te : TE} {f : Env → R D} (h : QI K own W cl te f) : EvC K own W cl (tDrop te) (dropC f) := fun H0 P G env σ H E ok ans => by
  refine h H0 P G env σ H _ ok (ans.bind.mono (fun a ha G' H' v g rv => ha G' H' g) fun _ h => h)
def EvW (K : PySem.W.Frag) (k : Nat) (oN : List Nat) (W : WX) (cl : Nat → Addr) (t : TS) (f : Env → R (Fl × Env)) : Prop :=
  ∀ (H0 : Hp) (P : Par) (G : Hp) (env : Env) (σ : L2.St) (H : Hp) (E : Ends), P.1.map (·.1) = [k] → StOk K H0 P [k] G env σ H → Same H0 H →
    Ans (f env) (Aft K [k] oN [k] H0 P G E) (fun c => ∀ (σ' : L2.St) (H' : Hp), σ'.length = P.2 → Same H0 H' → W (.ref (cl c)) none σ' H') → t E σ H
def chkS (c : Env → R Unit) (g : Env → R (Fl × Env)) : Env → R (Fl × Env) := fun e => (c e).bind fun _ => g e
def neS (f : Env → R (Fl × Env)) : Env → R (Fl × Env) := fun e => (f e).ne
end
section
variable {P : Program} {w : World} {K : PySem.W.Frag} {mg : Str → Option Value} {base : Heap} {cl : Nat → Addr}
end
end Hz

/-! attributes that are set, and changed in place -/
namespace Hz
open PySem PySem.Spec PyProof.Rows L2 L2H

abbrev flds : List Str := ["tree", "book", "shows", "items_left", "at", "tellings", "here", "broken", "fogs", "wrong", "books", "got_there", "told"]
def setD (f : Str) (d : D) : List (D × D) → List (D × D)
  | [] => [(.str f, d)]
  | (k, x) :: r => if keqD k (.str f) = true then (k, d) :: r else (k, x) :: setD f d r
theorem keqS (f g : Str) : keqD (.str f) (.str g) = decide (f = g) := by simp [keqD, keq0]
section
variable {K : PySem.W.Frag} {G : Hp}
theorem DFs.put {f : Str} : ∀ {fs : List (Str × V)} {ds : List (D × D)} {os : Os}, DFs K G fs ds os → ∃ o0 o1 o2, os = o0 ++ (o1 ++ o2) ∧
    ∀ G', Same G G' → ∀ v' d' o1', Fd K G' (fk f) v' d' o1' → DFs K G' (putF f v' fs) (setD f d' ds) (o0 ++ (o1' ++ o2))
  | _, _, _, .nil => ⟨[], [], [], rfl, fun G' e v' d' o1' h => DFs.cons (o1 := o1') (o2 := []) h .nil⟩
  | _, _, _, .cons (f := g) (v := v) (d := d) (o1 := a) (o2 := b) (fs := fs) (ds := ds) h t => by
    by_cases z : g = f
    · subst z
      refine ⟨[], a, b, rfl, fun G' e v' d' o1' h' => ?_⟩
      have h1 : putF g v' ((g, v) :: fs) = (g, v') :: fs := by simp [putF]
      have h2 : setD g d' ((.str g, d) :: ds) = (.str g, d') :: ds := by simp [setD, keqS]
      rw [h1, h2]
      exact DFs.cons (o1 := o1') (o2 := b) h' (t.mono e)
    · obtain ⟨o0, o1, o2, e1, hp⟩ := DFs.put (f := f) t
      refine ⟨a ++ o0, o1, o2, by rw [e1, List.append_assoc], fun G' e v' d' o1' h' => ?_⟩
      have h1 : putF f v' ((g, v) :: fs) = (g, v) :: putF f v' fs := by simp [putF, z]
      have h2 : setD f d' ((.str g, d) :: ds) = (.str g, d) :: setD f d' ds := by simp [setD, keqS, z]
      rw [h1, h2, List.append_assoc]
      exact .cons (h.mono e) (hp G' e v' d' o1' h')
theorem DFs.at {f : Str} {d : D} : ∀ {fs : List (Str × V)} {ds : List (D × D)} {os : Os}, DFs K G fs ds os → valD ds (.str f) = some d → ∃ v o0 o1 o2, fs.lookup f = some v ∧ os = o0 ++ (o1 ++ o2) ∧ Fd K G (fk f) v d o1 ∧
    ∀ G', Same G G' → ∀ d' o1', Fd K G' (fk f) v d' o1' → DFs K G' fs (setD f d' ds) (o0 ++ (o1' ++ o2))
  | _, _, _, .nil, e => by cases e
  | _, _, _, .cons (f := g) (v := v) (d := dg) (o1 := a) (o2 := b) (fs := fs) (ds := ds) h t, e => by
    have e' : (if keqD (.str g) (.str f) = true then some dg else valD ds (.str f)) = some d := e
    rw [keqS] at e'
    by_cases z : g = f
    · subst z
      simp at e'
      subst e'
      refine ⟨v, [], a, b, by simp, rfl, h, fun G' e d' o1' h' => ?_⟩
      have h2 : setD g d' ((.str g, dg) :: ds) = (.str g, d') :: ds := by simp [setD, keqS]
      rw [h2]
      exact DFs.cons (o1 := o1') (o2 := b) h' (t.mono e)
    · rw [if_neg (by simpa using z)] at e'
      obtain ⟨w, o0, o1, o2, l, e1, hf, hp⟩ := DFs.at (f := f) t e'
      refine ⟨w, a ++ o0, o1, o2, by rw [List.lookup_cons, show (f == g) = false by simpa using Ne.symm z]; exact l, by rw [e1, List.append_assoc], hf, fun G' e d' o1' h' => ?_⟩
      have h2 : setD f d' ((.str g, dg) :: ds) = (.str g, dg) :: setD f d' ds := by simp [setD, keqS, z]
      rw [h2, List.append_assoc]
      exact .cons (h.mono e) (hp G' e d' o1' h')
theorem DFs.len : ∀ {fs : List (Str × V)} {ds : List (D × D)} {os : Os}, DFs K G fs ds os → fs.length = ds.length
  | _, _, _, .nil => rfl
  | _, _, _, .cons _ t => by simp [DFs.len t]
theorem Held.sub {G H : Hp} {a b c : Os} (h : Held G H (a ++ (b ++ c))) : Held G H b := by
  refine ⟨fun x o m => h.at_ x o (List.mem_append_right _ (List.mem_append_left _ m)), ?_⟩
  have := h.nd
  rw [dm_append, List.nodup_append] at this
  have := this.2.1
  rw [dm_append, List.nodup_append] at this
  exact this.1
structure Does1 (G H : Hp) (os : Os) (G' H' : Hp) (os' : Os) : Prop where
  gg : Same G G'
  gh : Same G' H'
  kp : ∀ x o, H x = some o → x ∉ dm os → H' x = some o
  dd : ∀ x o, H x = some o → ∃ u, H' x = some u ∧ (NT o → NT u)
  gn : ∀ x o, H x = some o → NT o → G' x = G x
  hd : Held G' H' os'
  sb : ∀ x ∈ dm os', x ∈ dm os ∨ H x = none
theorem Does1.mid {G H G' H' : Hp} {a b c b' : Os} (h : Held G H (a ++ (b ++ c))) (x : Does1 G H b G' H' b') : Does1 G H (a ++ (b ++ c)) G' H' (a ++ (b' ++ c)) := by
  have nd := h.nd
  rw [dm_append, dm_append, List.nodup_append, List.nodup_append] at nd
  obtain ⟨n1, ⟨n2, n3, n4⟩, n5⟩ := nd
  have out : ∀ y, y ∈ dm a ∨ y ∈ dm c → y ∉ dm b := fun y hy hz => by
    rcases hy with hy | hy
    · exact n5 y hy y (List.mem_append_left _ hz) rfl
    · exact n4 y hz y hy rfl
  have inn : ∀ y, y ∈ dm a ∨ y ∈ dm c → ∃ o, (y, o) ∈ a ++ (b ++ c) := fun y hy => by
    rcases hy with hy | hy
    · obtain ⟨o, ho⟩ := dm_mem.mp hy
      exact ⟨o, List.mem_append_left _ ho⟩
    · obtain ⟨o, ho⟩ := dm_mem.mp hy
      exact ⟨o, List.mem_append_right _ (List.mem_append_right _ ho)⟩
  have out' : ∀ y, y ∈ dm a ∨ y ∈ dm c → y ∉ dm b' := fun y hy hz => by
    rcases x.sb y hz with w | w
    · exact out y hy w
    · obtain ⟨o, ho⟩ := inn y hy
      rw [(h.at_ y o ho).1] at w
      cases w
  have keep : ∀ y o, (y, o) ∈ a ∨ (y, o) ∈ c → H' y = some o ∧ G' y = none ∧ NT o := fun y o hy => by
    have hm : (y, o) ∈ a ++ (b ++ c) := by
      rcases hy with hy | hy
      · exact List.mem_append_left _ hy
      · exact List.mem_append_right _ (List.mem_append_right _ hy)
    have hdm : y ∈ dm a ∨ y ∈ dm c := hy.imp (fun z => dm_mem.mpr ⟨o, z⟩) fun z => dm_mem.mpr ⟨o, z⟩
    obtain ⟨h1, h2, h3⟩ := h.at_ y o hm
    exact ⟨x.kp y o h1 (out y hdm), (x.gn y o h1 h3).trans h2, h3⟩
  refine ⟨x.gg, x.gh, fun y o hy n => x.kp y o hy fun z => n ?_, x.dd, x.gn, ⟨fun y o hy => ?_, ?_⟩, fun y hy => ?_⟩
  · rw [dm_append, dm_append]
    exact List.mem_append_right _ (List.mem_append_left _ z)
  · rcases List.mem_append.mp hy with hy | hy
    · exact keep y o (.inl hy)
    · rcases List.mem_append.mp hy with hy | hy
      · exact x.hd.at_ y o hy
      · exact keep y o (.inr hy)
  · rw [dm_append, dm_append, List.nodup_append, List.nodup_append]
    refine ⟨n1, ⟨x.hd.nd, n3, fun y hy z hz w => ?_⟩, fun y hy z hz w => ?_⟩
    · rw [w] at hy
      exact out' z (.inr hz) hy
    · rw [← w] at hz
      rcases List.mem_append.mp hz with hz | hz
      · exact out' y (.inl hy) hz
      · exact n5 y hy y (List.mem_append_right _ hz) rfl
  · rw [dm_append, dm_append] at hy
    rcases List.mem_append.mp hy with hy | hy
    · obtain ⟨o, ho⟩ := inn y (.inl hy)
      exact .inl (dm_mem.mpr ⟨o, ho⟩)
    · rcases List.mem_append.mp hy with hy | hy
      · rcases x.sb y hy with w | w
        · refine .inl ?_
          rw [dm_append, dm_append]
          exact List.mem_append_right _ (List.mem_append_left _ w)
        · exact .inr w
      · obtain ⟨o, ho⟩ := inn y (.inr hy)
        exact .inl (dm_mem.mpr ⟨o, ho⟩)
theorem Does1.of_grow {G H G' H' : Hp} {o1 os : Os} (g : Grow G H G' H') (hf : ∀ x ∈ dm os, H x = none) (hd : Held G' H' os) : Does1 G H o1 G' H' os :=
  ⟨g.gg, g.gh, fun x o h _ => g.hh x o h, fun x o h => ⟨o, g.hh x o h, id⟩, g.new, hd, fun x hx => .inr (hf x hx)⟩
theorem Does1.refl {G H : Hp} {os : Os} (sub : Same G H) (h : Held G H os) : Does1 G H os G H os := ⟨Same.refl _, sub, fun x o h _ => h, fun x o h => ⟨o, h, id⟩, fun _ _ _ _ => rfl, h, fun x hx => .inl hx⟩
theorem Does1.one {G H : Hp} {p : Addr} {o o' : HO} {os : Os} (sub : Same G H) (h : Held G H ((p, o) :: os)) (n : NT o') : Does1 G H ((p, o) :: os) G (upd H p o') ((p, o') :: os) := by
  obtain ⟨h1, h2, h3⟩ := h.at_ p o List.mem_cons_self
  have nd := h.nd
  rw [show dm ((p, o) :: os) = p :: dm os from rfl, List.nodup_cons] at nd
  refine ⟨Same.refl _, fun a u ha => ?_, fun x u hx hn => ?_, fun x u hx => ?_, fun _ _ _ _ => rfl, ⟨fun x u hx => ?_, ?_⟩, fun x hx => .inl hx⟩
  · rw [upd_ne (ne_of_none ha h2)]
    exact sub a u ha
  · rw [upd_ne fun z => hn (by rw [z]; exact List.mem_cons_self)]
    exact hx
  · by_cases z : x = p
    · exact ⟨o', by rw [z, upd_same], fun _ => n⟩
    · exact ⟨u, by rw [upd_ne z]; exact hx, id⟩
  · rcases List.mem_cons.mp hx with z | z
    · cases z
      exact ⟨upd_same, h2, n⟩
    · obtain ⟨h4, h5, h6⟩ := h.at_ x u (List.mem_cons_of_mem _ z)
      refine ⟨?_, h5, h6⟩
      rw [upd_ne fun y => nd.1 (by rw [← y]; exact dm_mem.mpr ⟨u, z⟩)]
      exact h4
  · rw [show dm ((p, o') :: os) = p :: dm os from rfl, List.nodup_cons]
    exact nd
theorem Does1.trans {G H G1 H1 G2 H2 : Hp} {a b c : Os} (x : Does1 G H a G1 H1 b) (y : Does1 G1 H1 b G2 H2 c) : Does1 G H a G2 H2 c := by
  refine ⟨x.gg.trans y.gg, y.gh, fun z o h n => ?_, fun z o h => ?_, fun z o h n => ?_, y.hd, fun z hz => ?_⟩
  · refine y.kp z o (x.kp z o h n) fun w => ?_
    rcases x.sb z w with w | w
    · exact n w
    · rw [h] at w
      cases w
  · obtain ⟨u, hu, n1⟩ := x.dd z o h
    obtain ⟨u', hu', n2⟩ := y.dd z u hu
    exact ⟨u', hu', fun n => n2 (n1 n)⟩
  · obtain ⟨u, hu, n1⟩ := x.dd z o h
    exact (y.gn z u hu (n1 n)).trans (x.gn z o h n)
  · rcases y.sb z hz with w | w
    · exact x.sb z w
    · refine .inr ?_
      cases hq : H z with
      | none => rfl
      | some o =>
        obtain ⟨u, hu, _⟩ := x.dd z o hq
        rw [w] at hu
        cases hu
theorem Does1.toDoes {G H G' H' : Hp} {p : Addr} {d : D} {os os' : Os} (x : Does1 G H os G' H' os') (c : CellO K G' p d os') : Does K G H os G' H' p d os' := ⟨x.gg, x.gh, x.kp, x.dd, x.gn, c, x.hd, x.sb⟩
end
section
variable {K : PySem.W.Frag} {tw own oL : List Nat} {W : WX} {cl : Nat → Addr} {C : Addr} {H0 : Hp} {P : Par} {G H : Hp} {env : Env} {σ : L2.St}
def insAt (e : Env) (i : Nat) : Option (List (D × D)) := match e[i]? with
  | some (some d) => insOf d
  | _ => none
theorem insAt_eq {e : Env} {i : Nat} {ds : List (D × D)} (h : insAt e i = some ds) : e[i]? = some (some (insD ds)) := by
  unfold insAt at h
  split at h
  · rename_i d hd
    rw [hd, insOf_eq h]
  · cases h
theorem StOk.fldS {i : Nat} {f : Str} {ds : List (D × D)} (pf : PoF K C) (s : StOk K H0 P own G env σ H) (hi : i ∈ own) (he : insAt env i = some ds) : ∃ p dx fs, σ[i]? = some (some (.ref p)) ∧ H p = some (.ins C dx fs) ∧ fs.length = ds.length ∧
    ∀ G' H' v' d' o', Grow G H G' H' → (∀ x ∈ dm o', H x = none) → Held G' H' o' → Fd K G' (fk f) v' d' o' → Gr H0 G G' ∧ StOk K H0 P own G' (env.set i (some (insD (setD f d' ds)))) σ (upd H' p (.ins C dx (putF f v' fs))) := by
  obtain ⟨p, d, os, e1, e2, c, hh, _, cls⟩ := s.does hi
  have e3 := insAt_eq he
  rw [e1] at e3
  cases e3
  obtain ⟨C', dx, fs, o, hc, hd, rfl, hp⟩ := c.insI hh rfl
  cases pf.eq hc
  refine ⟨p, dx, fs, e2, hp, hd.len, fun G' H' v' d' o' g hf hh' hfd => ?_⟩
  obtain ⟨a0, a1, a2, rfl, hput⟩ := hd.put (f := f)
  have x1 : Does1 G H ((p, .ins C dx fs) :: (dx, .own p) :: (a0 ++ (a1 ++ a2))) G' H' ((p, .ins C dx fs) :: (dx, .own p) :: (a0 ++ (o' ++ a2))) := by
    have := Does1.mid (a := (p, .ins C dx fs) :: (dx, .own p) :: a0) (b := a1) (c := a2) (b' := o') hh (Does1.of_grow g hf hh')
    exact this
  have x2 := x1.trans (Does1.one (o' := .ins C dx (putF f v' fs)) g.gh x1.hd fun xs z => by cases z)
  exact cls _ _ _ _ (x2.toDoes (.ins hc (hput G' g.gg v' d' o' hfd)))
theorem StOk.fldW {i : Nat} {f : Str} {ds : List (D × D)} {d : D} (pf : PoF K C) (s : StOk K H0 P own G env σ H) (hi : i ∈ own) (he : insAt env i = some ds) (hv : valD ds (.str f) = some d) : ∃ p dx fs v o1, σ[i]? = some (some (.ref p)) ∧ H p = some (.ins C dx fs) ∧ fs.lookup f = some v ∧ Fd K G (fk f) v d o1 ∧ Held G H o1 ∧
    ∀ G' H' d' o1', Does1 G H o1 G' H' o1' → Fd K G' (fk f) v d' o1' → Gr H0 G G' ∧ StOk K H0 P own G' (env.set i (some (insD (setD f d' ds)))) σ H' := by
  obtain ⟨p, d, os, e1, e2, c, hh, _, cls⟩ := s.does hi
  have e3 := insAt_eq he
  rw [e1] at e3
  cases e3
  obtain ⟨C', dx, fs, o, hc, hd, rfl, hp⟩ := c.insI hh rfl
  cases pf.eq hc
  obtain ⟨v, a0, a1, a2, l, rfl, hfd, hput⟩ := hd.at hv
  have hh2 : Held G H (((p, .ins C dx fs) :: (dx, .own p) :: a0) ++ (a1 ++ a2)) := hh
  refine ⟨p, dx, fs, v, a1, e2, hp, l, hfd, hh2.sub, fun G' H' d' o1' x hf => ?_⟩
  have x1 := Does1.mid hh2 x
  exact cls _ _ _ _ (x1.toDoes (.ins hc (hput G' x.gg d' o1' hf)))
theorem StOk.fldR {i : Nat} {f : Str} {ds : List (D × D)} {d : D} (pf : PoF K C) (hff : f ∈ flds) (s : StOk K H0 P own G env σ H) (hi : i ∈ own) (he : insAt env i = some ds) (hv : valD ds (.str f) = some d) {Q : VK} (q : ∀ v o1, Fd K G (fk f) v d o1 → Held G H o1 → (∀ G' H' d' o1', Does1 G H o1 G' H' o1' → Fd K G' (fk f) v d' o1' → Gr H0 G G' ∧ StOk K H0 P own G' (env.set i (some (insD (setD f d' ds)))) σ H') → Q v H) :
    tFld K (tVar i) f σ H Q := by
  obtain ⟨p, dx, fs, v, o1, e2, hp, l, hfd, hh, w⟩ := s.fldW pf hi he hv
  exact ⟨.ref p, e2, p, C, dx, fs, v, rfl, hp, pf.cl, pf.no f hff, l, q v o1 hfd hh w⟩
/-! ### self.f = e -/
def fldS (i : Nat) (f : Str) (a : Env → R (D × Env)) : Env → R (Fl × Env) := fun e => (a e).bind fun x => (lift (insAt x.2 i)).bind fun ds => if ds.length < 1000 then .ok (.nx, x.2.set i (some (insD (setD f x.1 ds)))) else .bad
theorem EvS.fldS {i : Nat} {f : Str} {te : TE} {fe : Env → R (D × Env)} (pf : PoF K C) (hf : f ∈ flds) (hk : fk f = 0) (hi : i ∈ own) (h : EvI K tw own W cl te fe) : EvS K tw own own oL W cl (sFld K (tVar i) te f) (Hz.fldS i f fe) := EvS.of fun H0 P G env σ H E hp ok ans => by
  refine h H0 P G env σ H _ hp ok (ans.bind.mono (fun a ha G1 H1 x g1 ok1 rx => ?_) fun c h H' fr => h σ H' ok.ln fr)
  obtain ⟨ds, hd, q⟩ := ans_lift ha
  by_cases hl : ds.length < 1000
  · rw [if_pos hl] at q
    obtain ⟨p, dx, fs, e2, hp2, hlen, w⟩ := ok1.fldS (f := f) pf hi hd
    obtain ⟨gr, ok2⟩ := w G1 H1 x a.1 [] (Grow.refl ok1.sub) (fun x hx => by cases hx) ⟨(fun x o m => by cases m), List.nodup_nil⟩ (hk ▸ Fd.fz rx)
    exact ⟨.ref p, e2, p, C, dx, fs, rfl, hp2, pf.cl, pf.no f hf, by omega, q G1 σ _ (g1.trans gr) ok2⟩
  · rw [if_neg hl] at q
    exact q.elim
def newOk (f : Str) : D → Bool
  | .list ds => (fk f == 1) || (fk f == 2 && ds.isEmpty)
  | .dict ds => numKeys ds && ((fk f == 1) || (fk f == 2 && ds.isEmpty))
  | _ => false
theorem CellO.fd {G : Hp} {p : Addr} {d : D} {os : Os} {f : Str} (c : CellO K G p d os) (h : newOk f d = true) : Fd K G (fk f) (.ref p) d os := by
  cases c with
  | @lst vs ds r =>
    simp only [newOk, Bool.or_eq_true, Bool.and_eq_true, beq_iff_eq] at h
    rcases h with h | ⟨h, h2⟩
    · rw [h]
      exact .fl (.lst r)
    · have : ds = [] := by simpa using h2
      subst this
      cases r
      rw [h]
      exact .ll .nil
  | @dic vs ds r =>
    simp only [newOk, Bool.or_eq_true, Bool.and_eq_true, beq_iff_eq] at h
    obtain ⟨_, h⟩ := h
    rcases h with h | ⟨h, h2⟩
    · rw [h]
      exact .fl (.dic r)
    · have : ds = [] := by simpa using h2
      subst this
      cases r
      rw [h]
      exact .dl .nil
  | dit r => simp [newOk, numKeys] at h
  | ins _ _ => simp [newOk, numKeys] at h
  | rcd _ => simp [newOk, numKeys] at h
theorem Fl1.dicI {G : Hp} {v : V} {ds : List (D × D)} {os : Os} (h : Fl1 K G v (.dict ds) os) : ∃ p kvs, v = .ref p ∧ os = [(p, .dK kvs)] ∧ RpK K G kvs ds := by
  cases h with
  | dic r => exact ⟨_, _, rfl, rfl, r⟩
theorem Fl1.lstI {G : Hp} {v : V} {ds : List D} {os : Os} (h : Fl1 K G v (.list ds) os) : ∃ p vs, v = .ref p ∧ os = [(p, .lst vs)] ∧ RpA K G vs ds := by
  cases h with
  | lst r => exact ⟨_, _, rfl, rfl, r⟩
theorem Fd.flI {G : Hp} {n : Nat} {v : V} {d : D} {os : Os} (h : Fd K G n v d os) (e : n = 1) : Fl1 K G v d os := by
  cases h with
  | fl r => exact r
  | fz _ => cases e
  | ll _ => cases e
  | dl _ => cases e
theorem Fd.llI {G : Hp} {n : Nat} {v : V} {ds : List D} {os : Os} (h : Fd K G n v (.list ds) os) (e : n = 2) : ∃ p vs o, v = .ref p ∧ os = (p, .lst vs) :: o ∧ FlA K G vs ds o := by
  cases h with
  | ll r => exact ⟨_, _, _, rfl, rfl, r⟩
  | fz _ => cases e
  | fl _ => cases e
theorem Fd.dlI {G : Hp} {n : Nat} {v : V} {ds : List (D × D)} {os : Os} (h : Fd K G n v (.dict ds) os) (e : n = 2) : ∃ p kvs o, v = .ref p ∧ os = (p, .dK kvs) :: o ∧ FlK K G kvs ds o := by
  cases h with
  | dl r => exact ⟨_, _, _, rfl, rfl, r⟩
  | fz _ => cases e
  | fl _ => cases e
def fldAt (e : Env) (i : Nat) (f : Str) : Option D := (insAt e i).bind fun ds => valD ds (.str f)
def setAt (e : Env) (i : Nat) (f : Str) (d : D) : Env := match insAt e i with
  | some ds => e.set i (some (insD (setD f d ds)))
  | none => e
theorem StOk.fldA {i : Nat} {f : Str} {d : D} (pf : PoF K C) (hff : f ∈ flds) (s : StOk K H0 P own G env σ H) (hi : i ∈ own) (he : fldAt env i f = some d) {Q : VK} (q : ∀ v o1, Fd K G (fk f) v d o1 → Held G H o1 → Q v H) : tFld K (tVar i) f σ H Q := by
  obtain ⟨ds, h1, h2⟩ := Option.bind_eq_some_iff.mp he
  exact s.fldR pf hff hi h1 h2 fun v o1 a b _ => q v o1 a b
theorem StOk.fldC {i : Nat} {f : Str} {d : D} (pf : PoF K C) (s : StOk K H0 P own G env σ H) (hi : i ∈ own) (he : fldAt env i f = some d) : ∃ p dx fs v o1, σ[i]? = some (some (.ref p)) ∧ H p = some (.ins C dx fs) ∧ fs.lookup f = some v ∧ Fd K G (fk f) v d o1 ∧ Held G H o1 ∧
    ∀ G' H' d' o1', Does1 G H o1 G' H' o1' → Fd K G' (fk f) v d' o1' → Gr H0 G G' ∧ StOk K H0 P own G' (setAt env i f d') σ H' := by
  obtain ⟨ds, h1, h2⟩ := Option.bind_eq_some_iff.mp he
  obtain ⟨p, dx, fs, v, o1, a1, a2, a3, a4, a5, a6⟩ := s.fldW pf hi h1 h2
  refine ⟨p, dx, fs, v, o1, a1, a2, a3, a4, a5, fun G' H' d' o1' x y => ?_⟩
  unfold setAt
  rw [h1]
  exact a6 G' H' d' o1' x y
theorem StOk.fldQ {i : Nat} {f : Str} {d : D} {G' H' : Hp} (pf : PoF K C) (s : StOk K H0 P own G env σ H) (hi : i ∈ own) (he : fldAt env i f = some d) (g : Grow G H G' H') {p dx : Addr} {fs : List (Str × V)} {v : V} (h1 : σ[i]? = some (some (.ref p))) (h2 : H p = some (.ins C dx fs)) (h3 : fs.lookup f = some v) :
    ∃ o1, Fd K G' (fk f) v d o1 ∧ Held G' H' o1 ∧ ∀ G2 H2 d' o1', Does1 G' H' o1 G2 H2 o1' → Fd K G2 (fk f) v d' o1' → Gr H0 G G2 ∧ StOk K H0 P own G2 (setAt env i f d') σ H2 := by
  obtain ⟨p', dx', fs', v', o1, a1, a2, a3, a4, a5, a6⟩ := (s.grow g).fldC pf hi he
  rw [h1] at a1
  cases a1
  rw [g.hh _ _ h2] at a2
  cases a2
  rw [h3] at a3
  cases a3
  exact ⟨o1, a4, a5, fun G2 H2 d' o1' x y => ⟨(g.gr s).trans (a6 G2 H2 d' o1' x y).1, (a6 G2 H2 d' o1' x y).2⟩⟩
/-! ### self.f[k] = e, f a dict -/
def dputF (i : Nat) (f : Str) (k : Env → R D) (v : Env → R (D × Env)) : Env → R (Fl × Env) := fun e => (v e).bind fun x => (lift (fldAt x.2 i f)).bind fun d => (k x.2).bind fun y => (lift (keyOf y)).bind fun ky => match d with
  | .dict es => if es.length < 1000 then .ok (.nx, setAt x.2 i f (.dict (putD es (kD ky) x.1))) else .bad
  | _ => .bad
theorem EvS.dputF {i : Nat} {f : Str} {tk tv : TE} {fk' : Env → R D} {fv : Env → R (D × Env)} (pf : PoF K C) (hf : f ∈ flds) (hk1 : fk f = 1) (hi : i ∈ own) (hk : QI K own W cl tk fk') (hv : EvI K tw own W cl tv fv) : EvS K tw own own oL W cl (sDPut (tFld K (tVar i) f) tk tv) (Hz.dputF i f fk' fv) := EvS.of fun H0 P G env σ H E hp ok ans => by
  refine hv H0 P G env σ H _ hp ok (ans.bind.mono (fun a ha G1 H1 x g1 ok1 rx => ?_) fun c h H' fr => h σ H' ok.ln fr)
  obtain ⟨d, hd, ha⟩ := ans_lift ha
  obtain ⟨p, dx, fs, v, o1, a1, a2, a3, a4, a5, a6⟩ := ok1.fldC pf hi hd
  refine ⟨.ref p, a1, p, C, dx, fs, v, rfl, a2, pf.cl, pf.no f hf, a3, ?_⟩
  refine hk H0 P G1 a.2 σ H1 _ ok1 (ha.bind.mono (fun y hy G2 H2 vy g2 ry => ?_) fun c h H' sm => h σ H' ok.ln (ok1.frm sm))
  obtain ⟨ky, hky, q⟩ := ans_lift hy
  obtain ⟨o2, b4, b5, b6⟩ := ok1.fldQ pf hi hd g2 a1 a2 a3
  have b7 := b4.flI hk1
  cases d with
  | dict es =>
    obtain ⟨pd, kvs, rfl, rfl, r⟩ := b7.dicI
    by_cases hl : es.length < 1000
    · dsimp only at q
      rw [if_pos hl] at q
      have ek := keyOf_some hky
      subst ek
      have ey := ry.key
      subst ey
      have hH := (b5.at_ pd _ (List.mem_singleton.mpr rfl)).1
      refine ⟨pd, _, rfl, DPut.k hH (by rw [r.length, sizeLine_eq]; omega), ?_⟩
      obtain ⟨gr, ok3⟩ := b6 G2 _ _ _ (Does1.one (os := []) (o' := .dK (putK kvs ky x)) g2.gh b5 fun xs z => by cases z) (hk1 ▸ Fd.fl (.dic (r.put (rx.mono g2.gg))))
      exact q G2 σ _ (g1.trans gr) ok3
    · dsimp only at q
      rw [if_neg hl] at q
      exact q.elim
  | _ => exact q.elim
def fldL (e : Env) (i : Nat) (f : Str) : Option (List D) := match fldAt e i f with
  | some (.list es) => some es
  | _ => none
theorem fldL_eq {e : Env} {i : Nat} {f : Str} {es : List D} (h : fldL e i f = some es) : fldAt e i f = some (.list es) := by
  unfold fldL at h
  split at h
  · rename_i hd
    cases h
    exact hd
  · cases h
def fldT (e : Env) (i : Nat) (f : Str) : Option (List (D × D)) := match fldAt e i f with
  | some (.dict es) => some es
  | _ => none
theorem fldT_eq {e : Env} {i : Nat} {f : Str} {es : List (D × D)} (h : fldT e i f = some es) : fldAt e i f = some (.dict es) := by
  unfold fldT at h
  split at h
  · rename_i hd
    cases h
    exact hd
  · cases h
/-! ### self.f.append(e), f a list -/
def appF (i : Nat) (f : Str) (a : Env → R D) : Env → R (Fl × Env) := fun e => (lift (fldL e i f)).bind fun es => (a e).bind fun x => if es.length < 1000000 then .ok (.nx, setAt e i f (.list (es ++ [x]))) else .bad
theorem EvS.appF {i : Nat} {f : Str} {te : TE} {fe : Env → R D} (pf : PoF K C) (hf : f ∈ flds) (hk1 : fk f = 1) (hi : i ∈ own) (h : QI K own W cl te fe) : EvS K tw own own oL W cl (tDrop (tBM K "list" rAppend (tFld K (tVar i) f) (tCons te tNil))) (Hz.appF i f fe) := EvS.of fun H0 P G env σ H E hp ok ans => by
  obtain ⟨es, hd, ans⟩ := ans_lift ans
  obtain ⟨p, dx, fs, v, o1, a1, a2, a3, a4, a5, a6⟩ := ok.fldC pf hi (fldL_eq hd)
  obtain ⟨pd0, vs0, rfl, rfl, r0⟩ := (a4.flI hk1).lstI
  refine ⟨.ref p, a1, p, C, dx, fs, _, rfl, a2, pf.cl, pf.no f hf, a3, .inl ⟨rfl, vs0, SqL.of (a5.at_ _ _ (List.mem_singleton.mpr rfl)).1⟩, ?_⟩
  refine h H0 P G env σ H _ ok (ans.bind.mono (fun y hy G2 H2 x g2 rx => ?_) fun c h H' sm => h σ H' ok.ln (ok.frm sm))
  obtain ⟨o2, b4, b5, b6⟩ := ok.fldQ pf hi (fldL_eq hd) g2 a1 a2 a3
  obtain ⟨pd, vs, e1, rfl, r⟩ := (b4.flI hk1).lstI
  cases e1
  by_cases hl : es.length < 1000000
  · rw [if_pos hl] at hy
    have hH := (b5.at_ pd0 _ (List.mem_singleton.mpr rfl)).1
    obtain ⟨gr, ok3⟩ := b6 G2 _ _ _ (Does1.one (os := []) (o' := .lst (vs ++ [x])) g2.gh b5 fun xs z => by cases z) (hk1 ▸ Fd.fl (.lst (r.append (.cons rx .nil))))
    exact ⟨pd0, vs, x, rfl, rfl, hH, sz100l (by rw [r.length]; exact hl), hy G2 σ _ gr ok3⟩
  · rw [if_neg hl] at hy
    exact hy.elim
/-! ### lists and dicts of such -/
def setG (k d : D) : List (D × D) → List (D × D)
  | [] => []
  | (k', x) :: r => if keqD k' k = true then (k', d) :: r else (k', x) :: setG k d r
theorem FlA.at {G : Hp} {d : D} : ∀ {n : Nat} {vs : List V} {ds : List D} {os : Os}, FlA K G vs ds os → ds[n]? = some d → ∃ v o0 o1 o2, vs[n]? = some v ∧ os = o0 ++ (o1 ++ o2) ∧ Fl1 K G v d o1 ∧ ∀ G', Same G G' → ∀ d' o1', Fl1 K G' v d' o1' → FlA K G' vs (ds.set n d') (o0 ++ (o1' ++ o2))
  | _, _, _, _, .nil, e => by simp at e
  | 0, _, _, _, .cons (o1 := a) (o2 := b) h t, e => by
    simp at e
    subst e
    exact ⟨_, [], a, b, rfl, rfl, h, fun G' e d' o1' h' => FlA.cons (o1 := o1') (o2 := b) h' (t.mono e)⟩
  | n + 1, _, _, _, .cons (o1 := a) (o2 := b) h t, e => by
    obtain ⟨v, o0, o1, o2, h1, rfl, h2, h3⟩ := FlA.at (n := n) t (by simpa using e)
    refine ⟨v, a ++ o0, o1, o2, by simpa using h1, by rw [List.append_assoc], h2, fun G' e d' o1' h' => ?_⟩
    rw [List.append_assoc]
    exact .cons (h.mono e) (h3 G' e d' o1' h')
theorem FlA.snoc {G : Hp} {v : V} {d : D} {o : Os} : ∀ {vs : List V} {ds : List D} {os : Os}, FlA K G vs ds os → Fl1 K G v d o → FlA K G (vs ++ [v]) (ds ++ [d]) (os ++ o)
  | _, _, _, .nil, h => by
    have := FlA.cons (o1 := o) (o2 := []) h .nil
    rw [List.append_nil] at this
    exact this
  | _, _, _, .cons h' t, h => by
    rw [List.append_assoc]
    exact .cons h' (FlA.snoc t h)
theorem FlA.len {G : Hp} : ∀ {vs : List V} {ds : List D} {os : Os}, FlA K G vs ds os → vs.length = ds.length
  | _, _, _, .nil => rfl
  | _, _, _, .cons _ t => by simp [FlA.len t]
theorem FlK.len {G : Hp} : ∀ {vs : List (Key × V)} {ds : List (D × D)} {os : Os}, FlK K G vs ds os → vs.length = ds.length
  | _, _, _, .nil => rfl
  | _, _, _, .cons _ t => by simp [FlK.len t]
theorem valV_cons (k k' : Key) (v : V) (kvs : List (Key × V)) : valV ((k', v) :: kvs) k = if k' = k then some v else valV kvs k := by
  unfold valV
  rw [List.find?_cons]
  by_cases h : k' = k <;> simp [h]
theorem FlK.at {G : Hp} {d : D} {k : Key} : ∀ {vs : List (Key × V)} {ds : List (D × D)} {os : Os}, FlK K G vs ds os → valD ds (kD k) = some d → ∃ v o0 o1 o2, valV vs k = some v ∧ os = o0 ++ (o1 ++ o2) ∧ Fl1 K G v d o1 ∧ ∀ G', Same G G' → ∀ d' o1', Fl1 K G' v d' o1' → FlK K G' vs (setG (kD k) d' ds) (o0 ++ (o1' ++ o2))
  | _, _, _, .nil, e => by cases e
  | _, _, _, .cons (k := k') (v := v) (d := dg) (o1 := a) (o2 := b) (ds := ds) h t, e => by
    have e' : (if keqD (kD k') (kD k) = true then some dg else valD ds (kD k)) = some d := e
    rw [keqD_k] at e'
    by_cases z : k' = k
    · subst z
      simp at e'
      subst e'
      refine ⟨v, [], a, b, by rw [valV_cons, if_pos rfl], rfl, h, fun G' e d' o1' h' => ?_⟩
      have h2 : setG (kD k') d' ((kD k', dg) :: ds) = (kD k', d') :: ds := by simp [setG, keqD_k]
      rw [h2]
      exact FlK.cons (o1 := o1') (o2 := b) h' (t.mono e)
    · rw [if_neg (by simpa using z)] at e'
      obtain ⟨w, o0, o1, o2, l, rfl, hf, hp⟩ := FlK.at (k := k) t e'
      refine ⟨w, a ++ o0, o1, o2, by rw [valV_cons, if_neg z]; exact l, by rw [List.append_assoc], hf, fun G' e d' o1' h' => ?_⟩
      have h2 : setG (kD k) d' ((kD k', dg) :: ds) = (kD k', dg) :: setG (kD k) d' ds := by simp [setG, keqD_k, z]
      rw [h2, List.append_assoc]
      exact .cons (h.mono e) (hp G' e d' o1' h')
theorem FlK.none {G : Hp} {k : Key} : ∀ {vs : List (Key × V)} {ds : List (D × D)} {os : Os}, FlK K G vs ds os → valD ds (kD k) = Option.none → valV vs k = Option.none
  | _, _, _, .nil, e => rfl
  | _, _, _, .cons (k := k') (v := v) (d := dg) (ds := ds) h t, e => by
    have e' : (if keqD (kD k') (kD k) = true then some dg else valD ds (kD k)) = Option.none := e
    rw [keqD_k] at e'
    by_cases z : k' = k
    · subst z
      simp at e'
    · rw [if_neg (by simpa using z)] at e'
      rw [valV_cons, if_neg z]
      exact FlK.none t e'
theorem FlK.snoc {G : Hp} {k : Key} {v : V} {d : D} {o : Os} : ∀ {vs : List (Key × V)} {ds : List (D × D)} {os : Os}, FlK K G vs ds os → Fl1 K G v d o → FlK K G (vs ++ [(k, v)]) (ds ++ [(kD k, d)]) (os ++ o)
  | _, _, _, .nil, h => by
    have := FlK.cons (k := k) (o1 := o) (o2 := []) h .nil
    rw [List.append_nil] at this
    exact this
  | _, _, _, .cons h' t, h => by
    rw [List.append_assoc]
    exact .cons h' (FlK.snoc t h)
def dputL (i : Nat) (f key : Str) (n : Env → R D) (v : Env → R (D × Env)) : Env → R (Fl × Env) := fun e => (v e).bind fun x => (lift (fldL x.2 i f)).bind fun es => (n x.2).bind fun y => match y with
  | .int j => (lift (ixN es.length j)).bind fun m => match es[m]? with
    | some (.dict ks) => if ks.length < 1000 then .ok (.nx, setAt x.2 i f (.list (es.set m (.dict (putD ks (.str key) x.1))))) else .bad
    | _ => .bad
  | _ => .bad
theorem EvS.dputL {i : Nat} {f key : Str} {tn tv : TE} {fn : Env → R D} {fv : Env → R (D × Env)} (pf : PoF K C) (hf : f ∈ flds) (hk2 : fk f = 2) (hi : i ∈ own) (hn : QI K own W cl tn fn) (hv : EvI K tw own W cl tv fv) : EvS K tw own own oL W cl (sDPut (tOp (rIx K) (tFld K (tVar i) f) tn) (tC (.str key)) tv) (Hz.dputL i f key fn fv) := EvS.of fun H0 P G env σ H E hp ok ans => by
  refine hv H0 P G env σ H _ hp ok (ans.bind.mono (fun a ha G1 H1 x g1 ok1 rx => ?_) fun c h H' fr => h σ H' ok.ln fr)
  obtain ⟨es, hd, ha⟩ := ans_lift ha
  obtain ⟨p, dx, fs, v, o1, a1, a2, a3, a4, a5, a6⟩ := ok1.fldC pf hi (fldL_eq hd)
  refine ⟨.ref p, a1, p, C, dx, fs, v, rfl, a2, pf.cl, pf.no f hf, a3, ?_⟩
  refine hn H0 P G1 a.2 σ H1 _ ok1 (ha.bind.mono (fun y hy G2 H2 vy g2 ry => ?_) fun c h H' sm => h σ H' ok.ln (ok1.frm sm))
  obtain ⟨o2, b4, b5, b6⟩ := ok1.fldQ pf hi (fldL_eq hd) g2 a1 a2 a3
  obtain ⟨pl, vs, o, rfl, rfl, ra⟩ := b4.llI hk2
  have hH := (b5.at_ pl _ List.mem_cons_self).1
  cases ry with
  | int j =>
    obtain ⟨m, hm, q⟩ := ans_lift hy
    cases hem : es[m]? with
    | none => rw [hem] at q; exact q.elim
    | some dm0 =>
      rw [hem] at q
      cases dm0 with
      | dict ks =>
        obtain ⟨vm, c0, c1, c2, h1, rfl, h2, h3⟩ := ra.at hem
        obtain ⟨pd, kvs, rfl, rfl, rk⟩ := h2.dicI
        by_cases hl : ks.length < 1000
        · dsimp only at q
          rw [if_pos hl] at q
          have hi2 : atI vs j = some (.ref pd) := by
            unfold atI
            rw [ra.len, hm]
            exact h1
          refine .inl ⟨pl, vs, j, .ref pd, rfl, rfl, SqL.of hH, hi2, ?_⟩
          have hh2 : Held G2 H2 (((pl, .lst vs) :: c0) ++ ([(pd, .dK kvs)] ++ c2)) := b5
          have hpd := (hh2.sub.at_ pd _ (List.mem_singleton.mpr rfl)).1
          refine ⟨pd, _, rfl, DPut.k (k := .inr key) hpd (by rw [rk.length, sizeLine_eq]; omega), ?_⟩
          have x1 := Does1.mid hh2 (Does1.one (os := []) (o' := .dK (putK kvs (.inr key) x)) g2.gh hh2.sub fun xs z => by cases z)
          obtain ⟨gr, ok3⟩ := b6 G2 _ _ _ x1 (hk2 ▸ Fd.ll (h3 G2 (Same.refl _) _ _ (.dic (rk.put (k := .inr key) (rx.mono g2.gg)))))
          exact q G2 σ _ (g1.trans gr) ok3
        · dsimp only at q
          rw [if_neg hl] at q
          exact q.elim
      | _ => exact q.elim
  | _ => exact hy.elim
def appLN (i : Nat) (f : Str) (a : Env → R D) : Env → R (Fl × Env) := fun e => (lift (fldL e i f)).bind fun es => (a e).bind fun x => if es.length < 1000000 ∧ newOk "told" x = true then .ok (.nx, setAt e i f (.list (es ++ [x]))) else .bad
theorem CellO.f1 {G : Hp} {p : Addr} {d : D} {os : Os} (c : CellO K G p d os) (h : newOk "told" d = true) : Fl1 K G (.ref p) d os := (c.fd (f := "told") h).flI (by decide +kernel)
theorem EvS.appLN {i : Nat} {f : Str} {te : TE} {fe : Env → R D} (pf : PoF K C) (hf : f ∈ flds) (hk2 : fk f = 2) (hi : i ∈ own) (h : QN K own W cl te fe) : EvS K tw own own oL W cl (tDrop (tBM K "list" rAppend (tFld K (tVar i) f) (tCons te tNil))) (Hz.appLN i f fe) := EvS.of fun H0 P G env σ H E hp ok ans => by
  obtain ⟨es, hd, ans⟩ := ans_lift ans
  obtain ⟨p, dx, fs, v, o1, a1, a2, a3, a4, a5, a6⟩ := ok.fldC pf hi (fldL_eq hd)
  obtain ⟨pd0, vs0, o0, rfl, rfl, r0⟩ := a4.llI hk2
  have hH0 := (a5.at_ _ _ List.mem_cons_self).1
  refine ⟨.ref p, a1, p, C, dx, fs, _, rfl, a2, pf.cl, pf.no f hf, a3, .inl ⟨rfl, vs0, SqL.of hH0⟩, ?_⟩
  refine h H0 P G env σ H _ ok (ans.bind.mono (fun y hy G2 H2 pn on g2 hfr cn hn => ?_) fun c h H' sm => h σ H' ok.ln (ok.frm sm))
  by_cases hl : es.length < 1000000 ∧ newOk "told" y = true
  · rw [if_pos hl] at hy
    have x1 : Does1 G H ((pd0, .lst vs0) :: o0) G2 H2 ((pd0, .lst vs0) :: (o0 ++ on)) := by
      have hh : Held G H (((pd0, .lst vs0) :: o0) ++ ([] ++ [])) := by rw [List.append_nil, List.append_nil]; exact a5
      have := Does1.mid hh (Does1.of_grow (o1 := []) g2 hfr hn)
      simpa using this
    have x2 := x1.trans (Does1.one (o' := .lst (vs0 ++ [.ref pn])) g2.gh x1.hd fun xs z => by cases z)
    obtain ⟨gr, ok3⟩ := a6 G2 _ _ _ x2 (hk2 ▸ Fd.ll ((r0.mono g2.gg).snoc (cn.f1 hl.2)))
    exact ⟨pd0, vs0, .ref pn, rfl, rfl, g2.hh _ _ hH0, sz100l (by rw [r0.len]; exact hl.1), hy G2 σ _ gr ok3⟩
  · rw [if_neg hl] at hy
    exact hy.elim
def dputN (i : Nat) (f : Str) (k : Env → R D) (v : Env → R (D × Env)) : Env → R (Fl × Env) := fun e => (v e).bind fun x => (lift (fldT x.2 i f)).bind fun es => (k x.2).bind fun y => (lift (keyOf y)).bind fun ky => if es.length < 1000 ∧ newOk "told" x.1 = true ∧ (valD es (kD ky)).isNone = true then .ok (.nx, setAt x.2 i f (.dict (es ++ [(kD ky, x.1)]))) else .bad
theorem EvS.dputN {i : Nat} {f : Str} {tv : TE} {fv : Env → R (D × Env)} (pf : PoF K C) (hf : f ∈ flds) (hk2 : fk f = 2) (hi : i ∈ own) {j : Nat} (hj : j ∉ own) (hv : EvNo K tw own W cl tv fv) : EvS K tw own own oL W cl (sDPut (tFld K (tVar i) f) (tVar j) tv) (Hz.dputN i f (fun e => (varD j e).bind fun x => .ok x.1) fv) := EvS.of fun H0 P G env σ H E hp ok ans => by
  refine hv H0 P G env σ H _ hp ok (ans.bind.mono (fun a ha G1 H1 G2 H2 pn on g1 ok1 g2 hfr cn hn => ?_) fun c h H' fr => h σ H' ok.ln fr)
  obtain ⟨es, hd, ha⟩ := ans_lift ha
  obtain ⟨p, dx, fs, v, o1, a1, a2, a3, a4, a5, a6⟩ := ok1.fldC pf hi (fldT_eq hd)
  obtain ⟨pd, kvs, o0, rfl, rfl, r0⟩ := a4.dlI hk2
  have hH0 := (a5.at_ _ _ List.mem_cons_self).1
  refine ⟨.ref p, a1, p, C, dx, fs, _, rfl, g2.hh _ _ a2, pf.cl, pf.no f hf, a3, ?_⟩
  dsimp only [varD] at ha
  cases hjv : a.2[j]? with
  | none => rw [hjv] at ha; exact ha.elim
  | some oj =>
    cases oj with
    | none => rw [hjv] at ha; exact ha.elim
    | some dj =>
      rw [hjv] at ha
      obtain ⟨vj, e2, rj⟩ := ok1.val j dj hjv hj
      have ha' : Ans ((lift (keyOf dj)).bind fun ky => if es.length < 1000 ∧ newOk "told" a.1 = true ∧ (valD es (kD ky)).isNone = true then R.ok (Fl.nx, setAt a.2 i f (.dict (es ++ [(kD ky, a.1)]))) else .bad) _ _ := ha
      obtain ⟨ky, hky, q⟩ := ans_lift ha'
      have ek := keyOf_some hky
      subst ek
      have ey := rj.key
      subst ey
      refine ⟨_, e2, ?_⟩
      by_cases hl : es.length < 1000 ∧ newOk "told" a.1 = true ∧ (valD es (kD ky)).isNone = true
      · rw [if_pos hl] at q
        have hno : valV kvs ky = none := r0.none (by simpa using hl.2.2)
        have hput : putK kvs ky (.ref pn) = kvs ++ [(ky, .ref pn)] := by
          unfold putK
          rw [if_neg]
          intro z
          unfold valV at hno
          rw [Option.map_eq_none_iff, List.find?_eq_none] at hno
          obtain ⟨kv, h1, h2⟩ := List.any_eq_true.mp z
          exact hno kv h1 h2
        refine ⟨pd, _, rfl, DPut.k (g2.hh _ _ hH0) (by rw [r0.len, sizeLine_eq]; omega), ?_⟩
        rw [hput]
        have x1 : Does1 G1 H1 ((pd, .dK kvs) :: o0) G2 H2 ((pd, .dK kvs) :: (o0 ++ on)) := by
          have hh : Held G1 H1 (((pd, .dK kvs) :: o0) ++ ([] ++ [])) := by rw [List.append_nil, List.append_nil]; exact a5
          have := Does1.mid hh (Does1.of_grow (o1 := []) g2 hfr hn)
          simpa using this
        have x2 := x1.trans (Does1.one (o' := .dK (kvs ++ [(ky, .ref pn)])) g2.gh x1.hd fun xs z => by cases z)
        obtain ⟨gr, ok3⟩ := a6 G2 _ _ _ x2 (hk2 ▸ Fd.dl ((r0.mono g2.gg).snoc (cn.f1 hl.2.1)))
        exact q G2 σ _ (g1.trans gr) ok3
      · rw [if_neg hl] at q
        exact q.elim
def appD (i : Nat) (f : Str) (k a : Env → R D) : Env → R (Fl × Env) := fun e => (lift (fldT e i f)).bind fun es => (k e).bind fun y => (lift (keyOf y)).bind fun ky => match valD es (kD ky) with
  | some (.list xs) => (a e).bind fun x => if xs.length < 1000000 then .ok (.nx, setAt e i f (.dict (setG (kD ky) (.list (xs ++ [x])) es))) else .bad
  | _ => .bad
theorem EvS.appD {i : Nat} {f : Str} {tk te : TE} {fk' fe : Env → R D} (pf : PoF K C) (hf : f ∈ flds) (hk2 : fk f = 2) (hi : i ∈ own) (hk : QI K own W cl tk fk') (h : QI K own W cl te fe) : EvS K tw own own oL W cl (tDrop (tBM K "list" rAppend (tDGet (tFld K (tVar i) f) tk) (tCons te tNil))) (Hz.appD i f fk' fe) := EvS.of fun H0 P G env σ H E hp ok ans => by
  obtain ⟨es, hd, ans⟩ := ans_lift ans
  obtain ⟨p, dx, fs, v, o1, a1, a2, a3, a4, a5, a6⟩ := ok.fldC pf hi (fldT_eq hd)
  refine ⟨.ref p, a1, p, C, dx, fs, v, rfl, a2, pf.cl, pf.no f hf, a3, ?_⟩
  refine hk H0 P G env σ H _ ok (ans.bind.mono (fun y hy G1 H1 vy g1 ry => ?_) fun c h H' sm => h σ H' ok.ln (ok.frm sm))
  obtain ⟨ky, hky, hz⟩ := ans_lift hy
  clear hy
  have ek := keyOf_some hky
  subst ek
  have ey := ry.key
  subst ey
  obtain ⟨o2, b4, b5, b6⟩ := ok.fldQ pf hi (fldT_eq hd) g1 a1 a2 a3
  obtain ⟨pd, kvs, o0, rfl, rfl, r0⟩ := b4.dlI hk2
  have hH0 := (b5.at_ _ _ List.mem_cons_self).1
  cases hv : valD es (kD ky) with
  | none => rw [hv] at hz; exact hz.elim
  | some dl =>
    rw [hv] at hz
    cases dl with
    | list xs =>
      obtain ⟨vl, c0, c1, c2, h1, rfl, h2, h3⟩ := r0.at hv
      obtain ⟨pl, vs, rfl, rfl, rl⟩ := h2.lstI
      have hh2 : Held G1 H1 (((pd, .dK kvs) :: c0) ++ ([(pl, .lst vs)] ++ c2)) := b5
      have hpl := (hh2.sub.at_ pl _ (List.mem_singleton.mpr rfl)).1
      refine ⟨pd, .ref pl, rfl, h1 ▸ DGet.k hH0, .inl ⟨rfl, vs, SqL.of hpl⟩, ?_⟩
      have ok1 := ok.grow g1
      have hy' : Ans ((fe env).bind fun x => if xs.length < 1000000 then R.ok (Fl.nx, setAt env i f (.dict (setG (kD ky) (.list (xs ++ [x])) es))) else .bad) _ _ := hz
      refine h H0 P G1 env σ H1 _ ok1 (hy'.bind.mono (fun x hx G2 H2 vx g2 rx => ?_) fun c h H' sm => h σ H' ok.ln (ok1.frm sm))
      by_cases hl : xs.length < 1000000
      · rw [if_pos hl] at hx
        obtain ⟨o3, d4, d5, d6⟩ := ok.fldQ pf hi (fldT_eq hd) (g1.trans g2) a1 a2 a3
        obtain ⟨pd', kvs', o0', e1, rfl, r0'⟩ := d4.dlI hk2
        cases e1
        have hH2 := (d5.at_ _ _ List.mem_cons_self).1
        rw [g2.hh _ _ hH0] at hH2
        cases hH2
        obtain ⟨vl', c0', c1', c2', h1', rfl, h2', h3'⟩ := r0'.at hv
        rw [h1] at h1'
        cases h1'
        obtain ⟨pl', vs', e1, rfl, rl'⟩ := h2'.lstI
        cases e1
        have hh3 : Held G2 H2 (((pd, .dK kvs) :: c0') ++ ([(pl, .lst vs')] ++ c2')) := d5
        have hpl' := (hh3.sub.at_ pl _ (List.mem_singleton.mpr rfl)).1
        have x1 := Does1.mid hh3 (Does1.one (os := []) (o' := .lst (vs' ++ [vx])) g2.gh hh3.sub fun xs z => by cases z)
        obtain ⟨gr, ok3⟩ := d6 G2 _ _ _ x1 (hk2 ▸ Fd.dl (h3' G2 (Same.refl _) _ _ (.lst (rl'.append (.cons rx .nil)))))
        exact ⟨pl, vs', vx, rfl, rfl, hpl', sz100l (by rw [rl'.length]; exact hl), hx G2 σ _ gr ok3⟩
      · rw [if_neg hl] at hx
        exact hx.elim
    | _ => exact hz.elim
def dropD (k : D) (ds : List (D × D)) : List (D × D) := ds.filter fun x => !keqD x.1 k
theorem RpK.drop {G : Hp} {k : Key} : ∀ {kvs : List (Key × V)} {ds : List (D × D)}, RpK K G kvs ds → RpK K G (dropK kvs k) (dropD (kD k) ds)
  | _, _, .nil => .nil
  | _, _, .cons (k := k') (v := v) (d := d) (kvs := kvs) (ds := ds) h t => by
    have ih := RpK.drop (k := k) t
    unfold dropK dropD at ih ⊢
    rw [List.filter_cons, List.filter_cons, keqD_k]
    by_cases z : k' = k
    · simp [z]
      simpa using ih
    · simp [z]
      exact .cons h (by simpa using ih)
def dpopF (i : Nat) (f : Str) (k : Env → R D) : Env → R (D × Env) := fun e => (lift (fldT e i f)).bind fun es => (k e).bind fun y => (lift (keyOf y)).bind fun ky => (lift (valD es (kD ky))).bind fun d => .ok (d, setAt e i f (.dict (dropD (kD ky) es)))
theorem EvI.dpopF {i : Nat} {f : Str} {tk : TE} {fk' : Env → R D} (pf : PoF K C) (hf : f ∈ flds) (hk1 : fk f = 1) (hi : i ∈ own) (hk : QI K own W cl tk fk') : EvI K tw own W cl (tDPop1 (tFld K (tVar i) f) tk) (Hz.dpopF i f fk') := fun H0 P G env σ H Q hp ok ans => by
  obtain ⟨es, hd, ans⟩ := ans_lift ans
  obtain ⟨p, dx, fs, v, o1, a1, a2, a3, a4, a5, a6⟩ := ok.fldC pf hi (fldT_eq hd)
  obtain ⟨pd0, kvs0, rfl, rfl, r0⟩ := (a4.flI hk1).dicI
  refine ⟨.ref p, a1, p, C, dx, fs, _, rfl, a2, pf.cl, pf.no f hf, a3, pd0, rfl, .inl ⟨kvs0, .inl (a5.at_ _ _ (List.mem_singleton.mpr rfl)).1⟩, ?_⟩
  refine hk H0 P G env σ H _ ok (ans.bind.mono (fun y hy G1 H1 vy g1 ry => ?_) fun c h H' sm => h H' (ok.frm sm))
  obtain ⟨ky, hky, hy⟩ := ans_lift hy
  obtain ⟨d, hv, q⟩ := ans_lift hy
  have ek := keyOf_some hky
  subst ek
  have ey := ry.key
  subst ey
  obtain ⟨o2, b4, b5, b6⟩ := ok.fldQ pf hi (fldT_eq hd) g1 a1 a2 a3
  obtain ⟨pd, kvs, e1, rfl, r⟩ := (b4.flI hk1).dicI
  cases e1
  have hH := (b5.at_ pd0 _ (List.mem_singleton.mpr rfl)).1
  obtain ⟨v1, hv1, rv1⟩ := (RpK.val r).1 d hv
  obtain ⟨gr, ok3⟩ := b6 G1 _ _ _ (Does1.one (os := []) (o' := .dK (dropK kvs ky)) g1.gh b5 fun xs z => by cases z) (hk1 ▸ Fd.fl (.dic r.drop))
  exact ⟨kvs, ky, v1, hH, rfl, hv1, q G1 _ v1 gr ok3 rv1⟩
end
end Hz

/-! the rules of the text for instances -/
namespace Hz
open PySem PySem.Spec PyProof.Rows L2 L2H

/-! ### quiet rules with their text -/
structure DQ (X : Cx) (own : List Nat) (W : WX) (cl : Nat → Addr) (e : Expr) (t : TE) (f : Env → R D) : Prop where
  pe : PE X e t
  ev : QI X.K own W cl t f
structure DQN (X : Cx) (own : List Nat) (W : WX) (cl : Nat → Addr) (e : Expr) (t : TE) (f : Env → R D) : Prop where
  pe : PE X e t
  ev : QN X.K own W cl t f
section
variable {X : Cx} {tw own oN oL : List Nat} {W : WX} {cl : Nat → Addr} {C : Addr} {o e value : Expr} {es : List Expr} {f m : Str} {pos pos' apos cpos q p : Pos} {ta te tk : TE} {tt : TT} {tA : TA} {fa fe fk' : Env → R (D × Env)} {fA : Env → R (List D × Env)} {ft : Env → R (Bool × Env)} {qe qk : Env → R D} {qt : Env → R Bool} {qa : Env → R (List D)}
/-! ### attributes, methods -/
theorem de_fld (pf : PoF X.K C) (ha : DI X tw own W cl o ta fa) (hf : f ∈ flds := by decide +kernel) (hb : attributeBase o f X.env (eval o X.env) = eval o X.env := by rfl) : DI X tw own W cl (.Attribute o f pos) (tFld X.K ta f) (op1 (fldD f) fa) := ⟨pe_fld ha.pe hb, EvI.fld pf hf ha.ev⟩
section
variable {k n : Nat} {g : Addr} {fd : FuncData} {ps : List Str} {F : List D → R D} {FM : List D → R (D × D)} {qual : Str} {st : Stmt}
end
/-! ### C(..) -/
def makeD (F : List D → R (D × D)) (a : Env → R (List D × Env)) : Env → R (D × Env) := fun e => (a e).bind fun y => (F (insD [] :: y.1)).bind fun r => match r.1 with
  | .none => .ok (r.2, y.2)
  | _ => .bad
/-! ### {k: v, ..}, the keys texts -/
def qDisp (ks : List Str) (a : Env → R (List D)) : Env → R D := fun e => (a e).bind fun ds => .ok (.dict (mergeD [] ((ks.zip ds).map fun p => (.str p.1, p.2))))
def trsOf : List Str → List TE → List (TE × TE)
  | k :: ks, t :: ts => (tC (.str k), t) :: trsOf ks ts
  | _, _ => []
inductive QPs (K : PySem.W.Frag) (own : List Nat) (W : WX) (cl : Nat → Addr) : List Str → List TE → (Env → R (List D)) → Prop
  | nil : QPs K own W cl [] [] qNil
  | cons {k : Str} {ks : List Str} {t : TE} {ts : List TE} {f : Env → R D} {fs : Env → R (List D)} : QI K own W cl t f → QPs K own W cl ks ts fs → QPs K own W cl (k :: ks) (t :: ts) (qCons f fs)
theorem QPs.run {K : PySem.W.Frag} : ∀ {ks : List Str} {ts : List TE} {fs : Env → R (List D)}, QPs K own W cl ks ts fs → ∀ (H0 : Hp) (P : Par) (G : Hp) (env : Env) (σ : L2.St) (H : Hp) (Q : List (V × V) → Hp → Prop), StOk K H0 P own G env σ H →
    Ans (fs env) (fun ds => ∀ G' H' kvs, Grow G H G' H' → kvs.length = ks.length → RpK K G' kvs ((ks.zip ds).map fun p => (.str p.1, p.2)) → Q (kvs.map fun kv => (kV kv.1, kv.2)) H') (fun c => ∀ H', Same H H' → W (.ref (cl c)) none σ H') → tPairs (trsOf ks ts) σ H Q
  | _, _, _, .nil, H0, P, G, env, σ, H, Q, ok, ans => ans G H [] (Grow.refl ok.sub) rfl .nil
  | _, _, _, .cons (k := k) (ks := ks) h hs, H0, P, G, env, σ, H, Q, ok, ans => by
    refine h H0 P G env σ H _ ok (ans.bind.mono (fun a ha' G1 H1 x g1 rx => ?_) fun _ h => h)
    refine QPs.run hs H0 P G1 env σ H1 _ (ok.grow g1) (ha'.bind.mono (fun b hb' G2 H2 kvs g2 hl rk => ?_) fun _ h H' sm => h H' (g1.hh.trans sm))
    exact hb' G2 H2 ((.inr k, x) :: kvs) (g1.trans g2) (by simp [hl]) (RpK.cons (k := .inr k) (rx.mono g2.gg) rk)
/-! ### statements -/
variable {i : Nat} {x : Str}
theorem ds_dputF (i : Nat) {x : Str} {k : Expr} (hu : X.A.units + 1 < cLine) (pf : PoF X.K C) (hi : i ∈ own) (hx : PE X (.Name x q) (tVar i)) (hk : DQ X own W cl k tk qk) (hv : DI X tw own W cl value te fe) (hf : f ∈ flds := by decide +kernel) (hk1 : fk f = 1 := by decide +kernel) (hb : attributeBase (.Name x q) f X.env (eval (.Name x q) X.env) = eval (.Name x q) X.env := by rfl) (hs : swapsWith value (some (.Subscript (.Attribute (.Name x q) f apos) k pos')) pos.line X.env = pure false := by rfl) :
    DS X tw own own oL W cl (.Assign [.Subscript (.Attribute (.Name x q) f apos) k pos'] value pos) (sDPut (tFld X.K (tVar i) f) tk te) (dputF i f qk fe) := ⟨ps_dput hu (pe_fld hx hb) hk.pe hv.pe hs, EvS.dputF pf hf hk1 hi hk.ev hv.ev⟩
theorem ds_dputN (i j : Nat) {x y : Str} {qy : Pos} (hu : X.A.units + 1 < cLine) (pf : PoF X.K C) (hi : i ∈ own) (hj : j ∉ own) (hx : PE X (.Name x q) (tVar i)) (hy : PE X (.Name y qy) (tVar j)) (hv : DNo X tw own W cl value te fe) (hf : f ∈ flds := by decide +kernel) (hk2 : fk f = 2 := by decide +kernel) (hb : attributeBase (.Name x q) f X.env (eval (.Name x q) X.env) = eval (.Name x q) X.env := by rfl) (hs : swapsWith value (some (.Subscript (.Attribute (.Name x q) f apos) (.Name y qy) pos')) pos.line X.env = pure false := by rfl) :
    DS X tw own own oL W cl (.Assign [.Subscript (.Attribute (.Name x q) f apos) (.Name y qy) pos'] value pos) (sDPut (tFld X.K (tVar i) f) (tVar j) te) (dputN i f (fun e => (varD j e).bind fun x => .ok x.1) fe) := ⟨ps_dput hu (pe_fld hx hb) hy hv.pe hs, EvS.dputN pf hf hk2 hi hj hv.ev⟩
theorem ds_dputL (i : Nat) {x key : Str} {k : Expr} {j : Nat} {kp spos : Pos} (hu : X.A.units + 1 < cLine) (pf : PoF X.K C) (hi : i ∈ own) (hx : PE X (.Name x q) (tVar i)) (hk : DQ X own W cl k tk qk) (hv : DI X tw own W cl value te fe) (hf : f ∈ flds := by decide +kernel) (hk2 : fk f = 2 := by decide +kernel) (hb : attributeBase (.Name x q) f X.env (eval (.Name x q) X.env) = eval (.Name x q) X.env := by rfl) (hpi : PlainIx k := by exact fun _ _ => rfl) (hs : swapsWith value (some (.Subscript (.Subscript (.Attribute (.Name x q) f apos) k spos) (.Constant (.str key) j kp) pos')) pos.line X.env = pure false := by rfl) :
    DS X tw own own oL W cl (.Assign [.Subscript (.Subscript (.Attribute (.Name x q) f apos) k spos) (.Constant (.str key) j kp) pos'] value pos) (sDPut (tOp (rIx X.K) (tFld X.K (tVar i) f) tk) (tC (.str key)) te) (dputL i f key qk fe) := ⟨ps_dput hu (pe_ix ix_seq (pe_fld hx hb) hk.pe hpi) pe_str hv.pe hs, EvS.dputL pf hf hk2 hi hk.ev hv.ev⟩
theorem ds_appF (i : Nat) {x : Str} {bpos : Pos} (pf : PoF X.K C) (hi : i ∈ own) (hx : PE X (.Name x q) (tVar i)) (h : DQ X own W cl e te qe) (hf : f ∈ flds := by decide +kernel) (hk1 : fk f = 1 := by decide +kernel) (hb : attributeBase (.Name x q) f X.env (eval (.Name x q) X.env) = eval (.Name x q) X.env := by rfl) (hs : starEach [e] X.env = (false, eval e X.env) :: starEach [] X.env := by rfl) (hline : (bpos.endLine == cpos.line) = true := by rfl)
    (hbase : attributeBase (.Attribute (.Name x q) f apos) "append" X.env (eval (.Attribute (.Name x q) f apos) X.env) = eval (.Attribute (.Name x q) f apos) X.env := by rfl) (hfew : ((backTo cpos (starEach [e] X.env)).all (fun x => !x.1) && (backToKw cpos (keywordEach [] X.env)).all (fun x => x.1.isSome) && decide ([e].length + ([] : List Keyword).length + (if ([] : List Keyword).isEmpty then 0 else 1) < 30)) = true := by rfl) (hpl : (backTo cpos (starEach [] X.env)).any (·.1) = false := by rfl)
    (hsw : swapsWith (.Call (.Attribute (.Attribute (.Name x q) f apos) "append" bpos) [e] [] cpos) none pos.line X.env = pure false := by rfl) :
    DS X tw own own oL W cl (.Expr (.Call (.Attribute (.Attribute (.Name x q) f apos) "append" bpos) [e] [] cpos) pos) (tDrop (tBM X.K "list" rAppend (tFld X.K (tVar i) f) (tCons te tNil))) (appF i f qe) :=
  ⟨ps_expr (pe_bm PySem.F.plainAttrs_list PySem.F.slot_list_append PySem.F.type_list_append mt_append (pe_fld hx hb) (pa_cons h.pe pa_nil hs) hbase hfew hline hs hpl) hsw, EvS.appF pf hf hk1 hi h.ev⟩
theorem ds_appLN (i : Nat) {x : Str} {bpos : Pos} (pf : PoF X.K C) (hi : i ∈ own) (hx : PE X (.Name x q) (tVar i)) (h : DQN X own W cl e te qe) (hf : f ∈ flds := by decide +kernel) (hk2 : fk f = 2 := by decide +kernel) (hb : attributeBase (.Name x q) f X.env (eval (.Name x q) X.env) = eval (.Name x q) X.env := by rfl) (hs : starEach [e] X.env = (false, eval e X.env) :: starEach [] X.env := by rfl) (hline : (bpos.endLine == cpos.line) = true := by rfl)
    (hbase : attributeBase (.Attribute (.Name x q) f apos) "append" X.env (eval (.Attribute (.Name x q) f apos) X.env) = eval (.Attribute (.Name x q) f apos) X.env := by rfl) (hfew : ((backTo cpos (starEach [e] X.env)).all (fun x => !x.1) && (backToKw cpos (keywordEach [] X.env)).all (fun x => x.1.isSome) && decide ([e].length + ([] : List Keyword).length + (if ([] : List Keyword).isEmpty then 0 else 1) < 30)) = true := by rfl) (hpl : (backTo cpos (starEach [] X.env)).any (·.1) = false := by rfl)
    (hsw : swapsWith (.Call (.Attribute (.Attribute (.Name x q) f apos) "append" bpos) [e] [] cpos) none pos.line X.env = pure false := by rfl) :
    DS X tw own own oL W cl (.Expr (.Call (.Attribute (.Attribute (.Name x q) f apos) "append" bpos) [e] [] cpos) pos) (tDrop (tBM X.K "list" rAppend (tFld X.K (tVar i) f) (tCons te tNil))) (appLN i f qe) :=
  ⟨ps_expr (pe_bm PySem.F.plainAttrs_list PySem.F.slot_list_append PySem.F.type_list_append mt_append (pe_fld hx hb) (pa_cons h.pe pa_nil hs) hbase hfew hline hs hpl) hsw, EvS.appLN pf hf hk2 hi h.ev⟩
theorem ds_appD (i : Nat) {x : Str} {k : Expr} {bpos spos : Pos} (hu : X.A.units + 1 < cLine) (pf : PoF X.K C) (hi : i ∈ own) (hx : PE X (.Name x q) (tVar i)) (hk : DQ X own W cl k tk qk) (h : DQ X own W cl e te qe) (hf : f ∈ flds := by decide +kernel) (hk2 : fk f = 2 := by decide +kernel) (hb : attributeBase (.Name x q) f X.env (eval (.Name x q) X.env) = eval (.Name x q) X.env := by rfl) (hsl : NoSl k := by exact fun _ _ => rfl) (hs : starEach [e] X.env = (false, eval e X.env) :: starEach [] X.env := by rfl) (hline : (bpos.endLine == cpos.line) = true := by rfl)
    (hbase : attributeBase (.Subscript (.Attribute (.Name x q) f apos) k spos) "append" X.env (eval (.Subscript (.Attribute (.Name x q) f apos) k spos) X.env) = eval (.Subscript (.Attribute (.Name x q) f apos) k spos) X.env := by rfl) (hfew : ((backTo cpos (starEach [e] X.env)).all (fun x => !x.1) && (backToKw cpos (keywordEach [] X.env)).all (fun x => x.1.isSome) && decide ([e].length + ([] : List Keyword).length + (if ([] : List Keyword).isEmpty then 0 else 1) < 30)) = true := by rfl) (hpl : (backTo cpos (starEach [] X.env)).any (·.1) = false := by rfl)
    (hsw : swapsWith (.Call (.Attribute (.Subscript (.Attribute (.Name x q) f apos) k spos) "append" bpos) [e] [] cpos) none pos.line X.env = pure false := by rfl) :
    DS X tw own own oL W cl (.Expr (.Call (.Attribute (.Subscript (.Attribute (.Name x q) f apos) k spos) "append" bpos) [e] [] cpos) pos) (tDrop (tBM X.K "list" rAppend (tDGet (tFld X.K (tVar i) f) tk) (tCons te tNil))) (appD i f qk qe) :=
  ⟨ps_expr (pe_bm PySem.F.plainAttrs_list PySem.F.slot_list_append PySem.F.type_list_append mt_append (pe_dget hu (pe_fld hx hb) hk.pe hsl) (pa_cons h.pe pa_nil hs) hbase hfew hline hs hpl) hsw, EvS.appD pf hf hk2 hi hk.ev h.ev⟩
theorem de_dpopF (i : Nat) {x : Str} {k : Expr} {bpos : Pos} (pf : PoF X.K C) (hi : i ∈ own) (hx : PE X (.Name x q) (tVar i)) (hk : DQ X own W cl k tk qk) (hf : f ∈ flds := by decide +kernel) (hk1 : fk f = 1 := by decide +kernel) (hb : attributeBase (.Name x q) f X.env (eval (.Name x q) X.env) = eval (.Name x q) X.env := by rfl) (m : M1 X (.Attribute (.Name x q) f apos) "pop" bpos k cpos := by exact ⟨rfl, rfl, rfl, rfl⟩) :
    DI X tw own W cl (.Call (.Attribute (.Attribute (.Name x q) f apos) "pop" bpos) [k] [] cpos) (tDPop1 (tFld X.K (tVar i) f) tk) (dpopF i f qk) := ⟨pe_dpop1 (pe_fld hx hb) hk.pe m, EvI.dpopF pf hf hk1 hi hk.ev⟩
/-! bodies of methods -/
end
end Hz

/-! new dicts of new lists -/
namespace Hz
open PySem PySem.Spec PyProof.Rows L2 L2H

def EvFd (K : PySem.W.Frag) (tw own : List Nat) (W : WX) (cl : Nat → Addr) (n : Nat) (t : TE) (f : Env → R (D × Env)) : Prop :=
  ∀ (H0 : Hp) (P : Par) (G : Hp) (env : Env) (σ : L2.St) (H : Hp) (Q : VK), P.1.map (·.1) = tw → StOk K H0 P own G env σ H →
    Ans (f env) (fun a => ∀ G1 H1 G' H' v os, Gr H0 G G1 → StOk K H0 P own G1 a.2 σ H1 → Grow G1 H1 G' H' → (∀ x ∈ dm os, H1 x = none) → Fd K G' n v a.1 os → Held G' H' os → Q v H') (fun c => ∀ H', Frm H0 P H' → W (.ref (cl c)) none σ H') → t σ H Q
section
variable {K : PySem.W.Frag} {tw own oL sl vs : List Nat} {W : WX} {cl : Nat → Addr} {C : Addr}
theorem FlK.append {G : Hp} : ∀ {a b : List (Key × V)} {da db : List (D × D)} {oa ob : Os}, FlK K G a da oa → FlK K G b db ob → FlK K G (a ++ b) (da ++ db) (oa ++ ob)
  | _, _, _, _, _, _, .nil, h => h
  | _, _, _, _, _, _, .cons h t, h2 => by
    rw [List.append_assoc]
    exact .cons h (FlK.append t h2)
theorem yes_of {σ : L2.St} {H : Hp} {A B : Hp → Prop} (h : A H) : tYes σ H fun b H3 => if b = true then A H3 else B H3 := h
theorem ans_ne2 {α β : Type} {r : R α} {k : α → R β} {f : β → Prop} {e : Nat → Prop} (h : Ans (r.ne.bind k) f e) : ∃ a, r = .ok a ∧ Ans (k a) f e := by
  cases r with
  | ok a => exact ⟨a, rfl, h⟩
  | err c => exact h.elim
  | bad => exact h.elim
end
section
variable {X : Cx} {tw own oL sl : List Nat} {W : WX} {cl : Nat → Addr} {C : Addr} {value : Expr} {f : Str} {pos pos' q p cpos tpos : Pos} {te : TE} {fe : Env → R (D × Env)}
end
end Hz

/-! a pair of which the first is a new list of ours; attributes as targets -/
namespace Hz
open PySem PySem.Spec PyProof.Rows L2 L2H

/-! ### self.f of an owned self, a value -/
def fldO (i : Nat) (f : Str) : Env → R D := fun e => lift (fldAt e i f)
section
variable {K : PySem.W.Frag} {tw own oL : List Nat} {W : WX} {cl : Nat → Addr} {C : Addr}
theorem QI.fldO {i : Nat} {f : Str} (pf : PoF K C) (hf : f ∈ flds) (hk : fk f = 0) (hi : i ∈ own) : QI K own W cl (tFld K (tVar i) f) (Hz.fldO i f) := fun H0 P G env σ H Q ok ans => by
  have ans' : Ans ((lift (fldAt env i f)).bind .ok) (fun d => ∀ G' H' v, Grow G H G' H' → Rp K G' v d → Q v H') (fun c => ∀ H', Same H H' → W (.ref (cl c)) none σ H') := by
    unfold Hz.fldO at ans
    cases hg : fldAt env i f with
    | none => rw [hg] at ans; exact ans.elim
    | some d => rw [hg] at ans; exact ans
  obtain ⟨d, hd, q⟩ := ans_lift ans'
  refine ok.fldA pf hf hi hd fun v o1 a b => ?_
  rw [hk] at a
  cases a with
  | fz r => exact q G H v (Grow.refl ok.sub) r
/-! ### a tuple of a list of ours and a value -/
def spF (K : PySem.W.Frag) (cl : Nat → Addr) (n : Nat) (F : List D → R (D × D)) : Sp := fun vs H Q E => ∃ G ds, Same G H ∧ RpA K G vs ds ∧ ds.length = n ∧
  Ans (F ds) (fun d => ∀ G' H' T p v os, Grow G H G' H' → (∀ a ∈ dm os, H a = none) → CellO K G' p d.1 os → Held G' H' os → SqT K G' T [.ref p, v] → Rp K G' v d.2 → Q (.ref T) H') (fun c => ∀ H', Same H H' → E (.ref (cl c)) none H')
theorem spF.len {n : Nat} {F : List D → R (D × D)} (vs : List V) (H : Hp) (Q : VK) (E : XK) (h : spF K cl n F vs H Q E) : vs.length = n := by
  obtain ⟨G, ds, _, r, e, _⟩ := h
  rw [r.length]
  exact e
def EvR2 (K : PySem.W.Frag) (tw own : List Nat) (i : Nat) (W : WX) (cl : Nat → Addr) (t : TS) (f : Env → R (D × Env)) : Prop :=
  ∀ (H0 : Hp) (P : Par) (G : Hp) (env : Env) (σ : L2.St) (H : Hp) (E : Ends), P.1.map (·.1) = tw → StOk K H0 P own G env σ H →
    Ans (f env) (fun a => ∀ G' σ' H' p own' T v, Gr H0 G G' → StOk K H0 P own' G' a.2 σ' H' → i ∈ own' → σ'[i]? = some (some (.ref p)) → SqT K G' T [.ref p, v] → Rp K G' v a.1 → E.rt (.ref T) H')
      (fun c => ∀ σ' H', σ'.length = P.2 → Frm H0 P H' → W (.ref (cl c)) none σ' H') → t E σ H
def seqR (f : Env → R (Fl × Env)) (g : Env → R (D × Env)) : Env → R (D × Env) := fun e => (f e).bind fun r => match r.1 with
  | .nx => g r.2
  | _ => .bad
theorem EvR2.ret {i : Nat} {te : TE} {fe : Env → R (D × Env)} (hi : i ∈ own) (h : EvI K tw own W cl te fe) : EvR2 K tw own i W cl (tRet (tTupP (tCons (tVar i) (tCons te tNil)))) fe := fun H0 P G env σ H E hp ok ans => by
  obtain ⟨p, e1⟩ := ok.adr hi
  refine ⟨.ref p, e1, h H0 P G env σ H _ hp ok (ans.mono (fun a ha G1 H1 x g1 ok1 rx => ?_) fun c h H' fr => h σ H' ok.ln fr)⟩
  refine ⟨sz100 (by simp), fun T ob nT hd => ?_⟩
  have gg : Grow G1 H1 (upd G1 T (tupO ob [.ref p, x])) (upd H1 T (tupO ob [.ref p, x])) := Grow.lay ok1.sub nT
  exact ha _ σ _ p own T x (g1.trans (gg.gr ok1)) (ok1.grow gg) hi e1 (tupO_sq upd_same) (rx.mono gg.gg)
theorem EvR2.seq {i : Nat} {oM : List Nat} {t u : TS} {f : Env → R (Fl × Env)} {g : Env → R (D × Env)} (h : EvS K tw own oM [] W cl t f) (h2 : EvR2 K tw oM i W cl u g) : EvR2 K tw own i W cl (tSeq t u) (seqR f g) := fun H0 P G env σ H E hp ok ans => by
  refine h.run hp ok (ans.bind.mono (fun r hr => ?_) fun c h => h)
  obtain ⟨fl, e⟩ := r
  cases fl with
  | nx =>
    intro G' σ' H' g' ok'
    refine h2 H0 P G' e σ' H' E hp ok' (Ans.mono hr (fun a ha G2 σ2 H2 p own' T v g2 => ha G2 σ2 H2 p own' T v (g'.trans g2)) fun c h => h)
  | rt d => exact False.elim hr
  | bk => exact False.elim hr
  | ct => exact False.elim hr
def finF (i : Nat) (r : R (D × Env)) : R (D × D) := r.bind fun a => match a.2[i]? with
  | some (some x) => .ok (x, a.1)
  | _ => .bad
end
section
variable {P : Program} {w : World} {K : PySem.W.Frag} {mg : Str → Option Value} {base : Heap} {cl : Nat → Addr}
end
/-! ### an attribute as a target -/
section
variable {X : Cx} {tw own oL : List Nat} {W : WX} {cl : Nat → Addr} {C : Addr} {o e : Expr} {es : List Expr} {f : Str} {pos pos' q p cpos tpos apos : Pos} {te ta : TE} {tA : TA} {fA : Env → R (List D × Env)}
def pairFS (j i : Nat) (f : Str) (F : List D → R (D × D)) (a : Env → R (List D × Env)) : Env → R (Fl × Env) := fun e => (a e).bind fun y => (F y.1).bind fun d => if j < y.2.length then (lift (insAt (y.2.set j (some d.1)) i)).bind fun ds => if ds.length < 1000 then .ok (.nx, (y.2.set j (some d.1)).set i (some (insD (setD f d.2 ds)))) else .bad else .bad
theorem dq_fldO (i : Nat) {x : Str} (pf : PoF X.K C) (hi : i ∈ own) (hx : PE X (.Name x q) (tVar i)) (hf : f ∈ flds := by decide +kernel) (hk : fk f = 0 := by decide +kernel) (hb : attributeBase (.Name x q) f X.env (eval (.Name x q) X.env) = eval (.Name x q) X.env := by rfl) : DQ X own W cl (.Attribute (.Name x q) f pos) (tFld X.K (tVar i) f) (fldO i f) := ⟨pe_fld hx hb, QI.fldO pf hf hk hi⟩
end
end Hz

/-! a walk over a list of ours whose elements hold frozen lists; a list of ours by another name -/
namespace Hz
open PySem PySem.Spec PyProof.Rows L2 L2H

def okHd : D → Bool
  | .tuple [.int _, .list ws] => ws.all isSD
  | _ => false
section
variable {K : PySem.W.Frag} {tw own oL sl vs : List Nat} {W : WX} {cl : Nat → Addr} {C : Addr}
theorem RpA.strsOf {G G' : Hp} : ∀ {xs : List V} {ds : List D}, RpA K G xs ds → ds.all isSD = true → RpA K G' xs ds
  | _, _, .nil, _ => .nil
  | _, _, .cons h t, e => by
    rw [List.all_cons, Bool.and_eq_true] at e
    refine .cons ?_ (RpA.strsOf t e.2)
    cases h <;> first | (exact .str _) | (simp [isSD] at e)
theorem Rp.del1 {G : Hp} {pg : Addr} {gs : List V} {v : V} {d : D} (hg : G pg = some (.lst gs)) (hn : ∀ ws : List D, ws.all isSD = true → ¬ RpA K G gs ws) (r : Rp K G v d) (e : okHd d = true) : Rp K (del G pg) v d := by
  unfold okHd at e
  split at e
  · rename_i i ws
    cases r with
    | @tup a xs ds h ra n =>
      have ha : SqT K (del G pg) a xs := by
        rcases h with (h | ⟨o, h⟩) | h
        · exact .inl (.inl (by rw [del_ne fun z => by rw [z, hg] at h; cases h]; exact h))
        · exact .inl (.inr ⟨o, by rw [del_ne fun z => by rw [z, hg] at h; cases h]; exact h⟩)
        · exact .inr h
      refine .tup ha ?_ ⟨fun z => by simp [needN] at z, fun z => by simp [isPr] at z⟩
      cases ra with
      | cons r1 ra =>
        cases r1
        cases ra with
        | cons r2 ra =>
          cases ra
          cases r2 with
          | @lst b ys ds h2 rb =>
            have hb : b ≠ pg := fun z => by
              subst z
              rw [hg] at h2
              cases h2
              exact hn ws e rb
            exact .cons (.int _) (.cons (.lst (by rw [del_ne hb]; exact h2) (rb.strsOf e)) .nil)
  · cases e
theorem RpA.del1 {G : Hp} {pg : Addr} {gs : List V} (hg : G pg = some (.lst gs)) (hn : ∀ ws : List D, ws.all isSD = true → ¬ RpA K G gs ws) : ∀ {vs : List V} {ds : List D}, RpA K G vs ds → ds.all okHd = true → RpA K (del G pg) vs ds
  | _, _, .nil, _ => .nil
  | _, _, .cons h t, e => by
    rw [List.all_cons, Bool.and_eq_true] at e
    exact .cons (h.del1 hg hn e.1) (RpA.del1 hg hn t e.2)
theorem okHd_not {G : Hp} {xs : List V} {ds : List D} (r : RpA K G xs ds) (h : ds.all okHd = true) (hne : ds ≠ []) {G' : Hp} : ∀ ws : List D, ws.all isSD = true → ¬ RpA K G' xs ws := fun ws hw r2 => by
  cases r with
  | nil => exact hne rfl
  | @cons v vs d ds r1 ra =>
    cases r2 with
    | @cons _ _ w ws r3 rb =>
      rw [List.all_cons, Bool.and_eq_true] at h hw
      have h1 := h.1
      unfold okHd at h1
      split at h1
      · cases r1
        cases r3 <;> simp [isSD] at hw
      · cases h1
def heardC (i : Nat) (f : Str) (own : List Nat) (k : Env → R D) (vs : List Nat) (b : D → Env → Option Env) (el : Env → R (D × Env)) : Env → R (D × Env) := fun e => (lift (fldT e i f)).bind fun es => (k e).bind fun y => (lift (keyOf y)).bind fun ky => match valD es (kD ky) with
  | some (.list xs) => if xs.length ≤ 1000000 ∧ xs.all okHd = true then (compL vs b yesT el xs (wipeE (wipeE e own) vs)).ne.bind fun r => if r.1.all okHd = true then .ok (.list r.1, e) else .bad else .bad
  | _ => .bad
theorem EvN.heard {i : Nat} {f : Str} {g : TG} {tk te : TE} {fk' : Env → R D} {b : D → Env → Option Env} {el : Env → R (D × Env)} (pf : PoF K C) (hf : f ∈ flds) (hk2 : fk f = 2) (hi : i ∈ own) (hk : QI K own W cl tk fk') (hg : EvG K [] sl g b) (he : EvI K [] [] WF cl te el) (hsl : ∀ i ∈ sl, i ∈ vs) :
    EvN K tw own W cl (tLc (iList K (tDGet (tFld K (tVar i) f) tk)) g tYes te vs) (heardC i f own fk' vs b el) := fun H0 P G env σ H Q hp ok ans => by
  obtain ⟨es, hd, ans⟩ := ans_lift ans
  obtain ⟨p, dx, fs, v, o1, a1, a2, a3, a4, a5, a6⟩ := ok.fldC pf hi (fldT_eq hd)
  refine ⟨.ref p, a1, p, C, dx, fs, v, rfl, a2, pf.cl, pf.no f hf, a3, ?_⟩
  refine hk H0 P G env σ H _ ok (ans.bind.mono (fun y hy G1 H1 vy g1 ry => ?_) fun c h H' sm => h H' (ok.frm sm))
  obtain ⟨ky, hky, hz⟩ := ans_lift hy
  clear hy
  have ek := keyOf_some hky
  subst ek
  have ey := ry.key
  subst ey
  obtain ⟨o2, b4, b5, b6⟩ := ok.fldQ pf hi (fldT_eq hd) g1 a1 a2 a3
  obtain ⟨pd, kvs, o0, rfl, rfl, r0⟩ := b4.dlI hk2
  have hH0 := (b5.at_ _ _ List.mem_cons_self).1
  cases hv : valD es (kD ky) with
  | none => rw [hv] at hz; exact hz.elim
  | some dl =>
    rw [hv] at hz
    cases dl with
    | list xs =>
      obtain ⟨vl, c0, c1, c2, h1, rfl, h2, h3⟩ := r0.at hv
      obtain ⟨pl, ls, rfl, rfl, rl⟩ := h2.lstI
      have hh2 : Held G1 H1 (((pd, .dK kvs) :: c0) ++ ([(pl, .lst ls)] ++ c2)) := b5
      obtain ⟨hpl, gpl, _⟩ := hh2.sub.at_ pl _ (List.mem_singleton.mpr rfl)
      refine ⟨pd, .ref pl, rfl, h1 ▸ DGet.k hH0, pl, rfl, ⟨ls, SqL.of hpl⟩, ?_⟩
      dsimp only at hz
      by_cases hl : xs.length ≤ 1000000 ∧ xs.all okHd = true
      · rw [if_pos hl] at hz
        have ok1 := ok.grow g1
        have okh := ok1.hide
        have gg1 : Same G1 (upd G1 pl (.lst ls)) := Same.new gpl
        have okh1 : StOk K H1 ([], P.2) [] (upd G1 pl (.lst ls)) (wipeE env own) σ H1 := by
          refine ⟨fun a o ha => ?_, okh.fr, okh.dom, okh.len, fun j d hj hn => ?_, ⟨fun _ => [], fun i z => absurd z List.not_mem_nil, fun i z => absurd z List.not_mem_nil⟩, okh.par, fun x ⟨q, z, _⟩ => absurd z List.not_mem_nil, okh.ln⟩
          · by_cases z : a = pl
            · subst z
              rw [upd_same] at ha
              exact hpl.trans ha
            · rw [upd_ne z] at ha
              exact okh.sub a o ha
          · obtain ⟨w, e1, r⟩ := okh.val j d hj hn
            exact ⟨w, e1, r.mono gg1⟩
        have ht : EvT K [] [] WF cl tYes yesT := fun H0 P G env σ H Q hp ok ans => ans G H Gr.refl ok
        refine comp_core (K := K) (tw := []) (own := []) (a := (xs, wipeE env own)) (er := fun _ => False) hg ht he hsl (fun _ _ z => absurd z List.not_mem_nil) rfl okh1 (items_list upd_same (rl.mono gg1)) ?_
        rw [if_pos hl.1]
        have hz2 := ans_ne2 hz
        obtain ⟨rr, hrr, hz3⟩ := hz2
        have hrr' : compL vs b yesT el xs (wipeE (wipeE env own) vs) = .ok rr := hrr
        simp only [hrr', R.ne, bind_ok]
        by_cases hok : rr.1.all okHd = true
        · rw [if_pos hok] at hz3
          intro G2 H2 pn on gr2 ok2 np c2
          have sm : Same H1 H2 := ok2.fr.same
          have gpl2 : G2 pl = some (.lst ls) := gr2.1 _ _ upd_same
          have gw : Grow G1 H1 (del G2 pl) H2 := by
            refine ⟨fun a o ha => ?_, fun a o ha => ?_, sm, fun a o ha n => ?_⟩
            · have ne : a ≠ pl := fun z => by rw [z, gpl] at ha; cases ha
              rw [del_ne ne]
              exact gr2.1 a o (gg1 a o ha)
            · by_cases z : a = pl
              · rw [z, del_same] at ha
                cases ha
              · rw [del_ne z] at ha
                exact ok2.sub a o ha
            · by_cases z : a = pl
              · rw [z, del_same, gpl]
              · rw [del_ne z, gr2.2 a o ha n, upd_ne z]
          have gw0 := g1.trans gw
          have pnl : pn ≠ pl := fun z => by
            have := sm _ _ hpl
            rw [← z, np] at this
            cases this
          obtain ⟨cg, cc⟩ := c2
          have hcell : Cell K (del G2 pl) (upd H2 pn on) pn (.list rr.1) := by
            refine ⟨by rw [del_ne pnl]; exact cg, .inl ?_⟩
            rcases cc with ⟨ws, ds, e1, e2, r⟩ | ⟨ws, ds, e1, e2, r⟩ | ⟨ws, ds, e1, e2, r⟩
            · cases e1
              refine ⟨ws, _, rfl, e2, ?_⟩
              by_cases hxs : xs = []
              · subst hxs
                have : rr = ([], wipeE (wipeE env own) vs) := by
                  have h := hrr'
                  simp only [compL] at h
                  cases h
                  rfl
                rw [this] at r ⊢
                cases r
                exact .nil
              · exact r.del1 gpl2 (okHd_not rl hl.2 hxs) hok
            · cases e1
            · cases e1
          exact hz3 (del G2 pl) H2 pn on (gw0.gr ok) (ok.grow gw0) np hcell
        · rw [if_neg hok] at hz3
          exact hz3.elim
      · rw [if_neg hl] at hz
        exact hz.elim
    | _ => exact hz.elim
theorem StOk.rebase {H0 G H : Hp} {env : Env} {σ : L2.St} {n : Nat} (s : StOk K H0 ([], n) [] G env σ H) : StOk K H ([], n) [] G env σ H :=
  ⟨s.sub, fun a o h _ => h, fun a o h => ⟨o, h, id⟩, s.len, s.val, ⟨fun _ => [], fun i z => absurd z List.not_mem_nil, fun i z => absurd z List.not_mem_nil⟩, s.par, fun x ⟨q, z, _⟩ => absurd z List.not_mem_nil, s.ln⟩
theorem Gr.of {H H' G G' : Hp} (sm : Same H H') (g : Gr H' G G') : Gr H G G' := ⟨g.1, fun a o h n => g.2 a o (sm a o h) n⟩
theorem Grow.freeze {G H G' H' : Hp} {os : Os} (g : Grow G H G' H') (hf : ∀ x ∈ dm os, H x = none) (hh : Held G' H' os) : Grow G H (addO G' os) H' ∧ Same G' (addO G' os) := by
  have sm : Same G' (addO G' os) := fun x o hx => by
    rw [addO_out fun m => ?_]
    · exact hx
    · rw [(hh.there m).choose_spec.2.1] at hx
      cases hx
  refine ⟨⟨g.gg.trans sm, fun x o hx => ?_, g.hh, fun x o hx n => ?_⟩, sm⟩
  · by_cases m : x ∈ dm os
    · obtain ⟨u, hu⟩ := dm_mem.mp m
      rw [addO_in hh.nd hu] at hx
      cases hx
      exact (hh.at_ _ _ hu).1
    · rw [addO_out m] at hx
      exact g.gh x o hx
  · rw [addO_out fun m => (by rw [hf x m] at hx; cases hx)]
    exact g.new x o hx n
theorem tcons_of {te : TE} {tA : TA} {σ : L2.St} {H : Hp} {Q : List V → Hp → Prop} (h : te σ H fun x H1 => tA σ H1 fun xs H2 => Q (x :: xs) H2) : tCons te tA σ H Q := h
theorem ttup_of {tA : TA} {σ : L2.St} {H : Hp} {Q : VK} (h : tA σ H fun xs H1 => xs.length ≤ sizeLine ∧ ∀ p ob, H1 p = none → ob.dict = none → Q (.ref p) (upd H1 p (tupO ob xs))) : tTupP tA σ H Q := h
theorem tcall_of {sp : Sp} {E : L2.St → XK} {t : TA} {σ : L2.St} {H : Hp} {Q : VK} (h : t σ H fun vs H1 => sp vs H1 Q (E σ)) : tCallS sp E t σ H Q := h
theorem StOk.any {H0 : Hp} {P : Par} {G H : Hp} {env : Env} {σ : L2.St} {j : Nat} {v : V} (s : StOk K H0 P own G env σ H) (hj : j ∉ own) (he : env[j]? = some none) : StOk K H0 P own G env (σ.set j (some v)) H := by
  have ne : ∀ i ∈ own, j ≠ i := fun i hi z => hj (z ▸ hi)
  refine ⟨s.sub, s.fr, s.dom, by simpa using s.len, fun i d e n => ?_, ?_, fun q hq => ?_, s.isd, by simpa using s.ln⟩
  · obtain ⟨w, e1, r⟩ := s.val i d e n
    have z : j ≠ i := fun z => by rw [← z, he] at e; cases e
    exact ⟨w, by rw [List.getElem?_set_ne z]; exact e1, r⟩
  · obtain ⟨f, h1, h2⟩ := s.cel
    refine ⟨f, fun i hi => ?_, h2⟩
    obtain ⟨p, d, e1, e2, c⟩ := h1 i hi
    exact ⟨p, d, e1, by rw [List.getElem?_set_ne (ne i hi)]; exact e2, c⟩
  · obtain ⟨h1, h2⟩ := s.par q hq
    exact ⟨h1, by rw [List.getElem?_set_ne (ne _ h1)]; exact h2⟩
def noneAt (e : Env) (j : Nat) : Bool := match e[j]? with
  | some none => true
  | _ => false
theorem noneAt_eq {e : Env} {j : Nat} (h : noneAt e j = true) : e[j]? = some none := by
  unfold noneAt at h
  split at h
  · assumption
  · cases h
def hearS (fe : Env → R (D × Env)) (ft : Env → R (Bool × Env)) (fc : Env → R (D × Env)) (Fg : List D → R D) (fn : Env → R (D × Env)) : Env → R (Fl × Env) := fun e => (fe e).ne.bind fun x => if noneAt e 2 = true then
    (ft (e.set 2 (some x.1))).ne.bind fun b => if b.1 = true then
      (fc (e.set 2 (some x.1))).ne.bind fun c => if lightC c.1 = true then
        (lift (fldAt e 0 "here")).bind fun h => (lift (fldAt e 0 "book")).bind fun bk => (Fg [bk, c.1]).ne.bind fun ws =>
        (lift (fldT e 0 "got_there")).bind fun gs => match e[1]? with
          | some (some kd) => (lift (keyOf kd)).bind fun ky => match valD gs (kD ky) with
            | some (.list ys) => if ys.length < 1000000 then exprS fn (setAt e 0 "got_there" (.dict (setG (kD ky) (.list (ys ++ [.tuple [h, ws]])) gs))) else .bad
            | _ => .bad
          | _ => .bad
      else .bad
    else .ok (.nx, e)
  else .bad
theorem EvS.hear {te tc tn : TE} {tt : TT} {fe fc fn : Env → R (D × Env)} {ft : Env → R (Bool × Env)} {Fg : List D → R D} (pf : PoF K C) (h1 : EvI K [] [] WF cl te fe) (hq1 : ∀ env r, fe env = .ok r → r.2 = env) (ht : EvT K [] [] WF cl tt ft) (hqt : ∀ env r, ft env = .ok r → r.2 = env) (hc : EvNo K [] [] WF cl tc fc) (hn : EvI K [0] [0] WF cl tn fn) :
    EvS K [0] [0] [0] oL WF cl (tSeq (tAsg te (gName 2)) (tIfS tt (tSeq (tDrop (tBM K "list" rAppend (tDGet (tFld K (tVar 0) "got_there") (tVar 1)) (tCons (tTupP (tCons (tFld K (tVar 0) "here") (tCons (tCallS (spP K cl 2 Fg) (WE WF) (tCons (tFld K (tVar 0) "book") (tCons tc tNil))) tNil))) tNil))) (tDrop tn)) tNext)) (hearS fe ft fc Fg fn) := EvS.of fun H0 P G env σ H E hp ok ans => by
  obtain ⟨x, ex, ans⟩ := ans_ne2 ans
  by_cases he2' : noneAt env 2 = true
  · rw [if_pos he2'] at ans
    have he2 := noneAt_eq he2'
    obtain ⟨F, ft', okb⟩ := ok.borrow
    refine h1 H ([], P.2) _ env σ H _ rfl okb ?_
    rw [ex]
    intro Ga Ha v gra oka rv
    have exq := hq1 env x ex
    rw [exq] at oka
    -- both views
    have okb2 : StOk K H ([], P.2) [] Ga (env.set 2 (some x.1)) (σ.set 2 (some v)) Ha := oka.set rv List.not_mem_nil
    obtain ⟨g0, _⟩ := ft'.back ok.sub gra oka.sub oka.fr.same
    have okO : ∀ {G' H' : Hp}, Grow G H G' H' → StOk K H0 P [0] G' env (σ.set 2 (some v)) H' := fun {G' H'} g => (ok.grow g).any (by simp) he2
    obtain ⟨b, eb, ans⟩ := ans_ne2 ans
    show tIfS tt _ _ E (σ.set 2 (some v)) Ha
    refine ht H ([], P.2) Ga _ _ Ha _ rfl okb2 ?_
    rw [eb]
    intro Gb Hb grb okb3
    rw [hqt _ b eb] at okb3
    obtain ⟨bv, be⟩ := b
    have grb' : Gr H (onF F H G) Gb := gra.trans grb
    obtain ⟨gB, tpB⟩ := ft'.back ok.sub grb' okb3.sub okb3.fr.same
    cases bv with
    | false => exact ans _ _ Hb (gB.gr ok) (okO gB)
    | true =>
      dsimp only at ans
      rw [if_pos rfl] at ans
      obtain ⟨cc, ec, ans⟩ := ans_ne2 ans
      by_cases hlc : lightC cc.1 = true
      · rw [if_pos hlc] at ans
        obtain ⟨hd, ehd, ans⟩ := ans_lift ans
        obtain ⟨bk, ebk, ans⟩ := ans_lift ans
        obtain ⟨ws, ews, ans⟩ := ans_ne2 ans
        obtain ⟨gs, egs, ans⟩ := ans_lift ans
        cases hk1 : env[1]? with
        | none => rw [hk1] at ans; exact ans.elim
        | some ok1 =>
          cases ok1 with
          | none => rw [hk1] at ans; exact ans.elim
          | some kd =>
            rw [hk1] at ans
            dsimp only at ans
            obtain ⟨ky, eky, ans2⟩ := ans_lift ans
            clear ans
            cases hvv : valD gs (kD ky) with
            | none => rw [hvv] at ans2; exact ans2.elim
            | some dl =>
              rw [hvv] at ans2
              cases dl with
              | list ys =>
                dsimp only at ans2
                by_cases hly : ys.length < 1000000
                · rw [if_pos hly] at ans2
                  have okB := okO gB
                  have hs0 : 0 ∈ [0] := by simp
                  -- the list that is appended to
                  obtain ⟨p, dx, fs, vg, og, a1, a2, a3, a4, a5, a6⟩ := okB.fldC pf hs0 (fldT_eq egs)
                  obtain ⟨pd, kvs, o0, rfl, rfl, r0⟩ := a4.dlI (by decide +kernel)
                  have hpd := (a5.at_ _ _ List.mem_cons_self).1
                  obtain ⟨vl, c0, c1, c2, q1, rfl, q2, q3⟩ := r0.at hvv
                  obtain ⟨pl, ls, rfl, rfl, rl⟩ := q2.lstI
                  have hh2 : Held _ Hb (((pd, .dK kvs) :: c0) ++ ([(pl, .lst ls)] ++ c2)) := a5
                  have hpl := (hh2.sub.at_ pl _ (List.mem_singleton.mpr rfl)).1
                  obtain ⟨vk, ek1, rk⟩ := okB.val 1 kd hk1 (by simp)
                  have hky := keyOf_some eky
                  subst hky
                  have ekv := rk.key
                  subst ekv
                  refine ⟨.ref p, a1, p, C, dx, fs, _, rfl, a2, pf.cl, pf.no _ (by decide +kernel), a3, _, ek1, pd, .ref pl, rfl, q1 ▸ DGet.k hpd, .inl ⟨rfl, ls, SqL.of hpl⟩, ?_⟩
                  -- self.here
                  refine tcons_of (ttup_of (tcons_of ?_))
                  refine okB.fldA pf (by decide +kernel) hs0 ehd fun vh oh ah bh => ?_
                  cases (show fk "here" = 0 by decide +kernel) ▸ ah with
                  | fz rh =>
                  refine tcons_of (tcall_of (tcons_of ?_))
                  refine okB.fldA pf (by decide +kernel) hs0 ebk fun vb ob ab bb => ?_
                  cases (show fk "book" = 0 by decide +kernel) ▸ ab with
                  | fz rb =>
                  -- G(x)
                  refine tcons_of ?_
                  refine hc Hb ([], P.2) Gb _ _ Hb _ rfl okb3.rebase ?_
                  rw [ec]
                  intro Gc Hc Gd Hd pc oc grc okc gwc hfc cl2 hdc
                  have smBc : Same Hb Hc := okc.fr.same
                  have smBD : Same Hb Hd := smBc.trans gwc.hh
                  have grBD : Gr Hb Gb Gd := grc.trans (gwc.gr okc)
                  have grd : Gr H (onF F H G) Gd := grb'.trans (grBD.of okb3.fr.same)
                  obtain ⟨gD, tpD⟩ := ft'.back ok.sub grd gwc.gh (okb3.fr.same.trans smBD)
                  have clD := cl2.light tpD hlc
                  have hdD : Held (onF F (fun _ => none) Gd) Hd oc := hdc.mono (fun y m => by
                    by_cases z : F y
                    · rw [onF_in z]
                    · rw [onF_out z]
                      exact (hdc.there m).choose_spec.2.1) fun y o m => (hdc.at_ y o m).1
                  have gBD : Grow (onF F (fun _ => none) Gb) Hb (onF F (fun _ => none) Gd) Hd := by
                    refine ⟨fun y o hy => ?_, gD.gh, smBD, fun y o hy n => ?_⟩
                    · by_cases z : F y
                      · rw [onF_in z] at hy
                        cases hy
                      · rw [onF_out z] at hy ⊢
                        exact grBD.1 y o hy
                    · by_cases z : F y
                      · rw [onF_in z, onF_in z]
                      · rw [onF_out z, onF_out z]
                        exact grBD.2 y o hy n
                  obtain ⟨gBF, smF⟩ := gBD.freeze (fun y hy => smBc.free (hfc y hy)) hdD
                  -- F(..)
                  refine ⟨addO (onF F (fun _ => none) Gd) oc, [bk, cc.1], gBF.gh, .cons (rb.mono gBF.gg) (.cons (clD.rp smF fun y o m => addO_in hdD.nd m) .nil), rfl, ?_⟩
                  rw [ews]
                  intro Ge He vw gE rw'
                  have gBE := gBF.trans gE
                  refine ⟨sz100 (by simp), fun T ob nT hdT => ?_⟩
                  have gT : Grow Ge He (upd Ge T (tupO ob [vh, vw])) (upd He T (tupO ob [vh, vw])) := Grow.lay gE.gh nT
                  have gBT := gBE.trans gT
                  have rT : Rp K (upd Ge T (tupO ob [vh, vw])) (.ref T) (.tuple [hd, ws]) := Rp.lay upd_same hdT (.cons (rh.mono gBT.gg) (.cons (rw'.mono gT.gg) .nil))
                  obtain ⟨o3, d4, d5, d6⟩ := okB.fldQ pf hs0 (fldT_eq egs) gBT a1 a2 a3
                  obtain ⟨pd', kvs', o0', e1, rfl, r0'⟩ := d4.dlI (by decide +kernel)
                  cases e1
                  have hH2 := (d5.at_ _ _ List.mem_cons_self).1
                  rw [gBT.hh _ _ hpd] at hH2
                  cases hH2
                  obtain ⟨vl', c0', c1', c2', h1', rfl, h2', h3'⟩ := r0'.at hvv
                  rw [q1] at h1'
                  cases h1'
                  obtain ⟨pl', vs', e1, rfl, rl'⟩ := h2'.lstI
                  cases e1
                  have hh3 : Held _ _ (((pd, .dK kvs) :: c0') ++ ([(pl, .lst vs')] ++ c2')) := d5
                  have hpl' := (hh3.sub.at_ pl _ (List.mem_singleton.mpr rfl)).1
                  have x1 := Does1.mid hh3 (Does1.one (os := []) (o' := .lst (vs' ++ [.ref T])) gBT.gh hh3.sub fun xs z => by cases z)
                  obtain ⟨gr, ok3⟩ := d6 _ _ _ _ x1 ((show fk "got_there" = 2 by decide +kernel) ▸ Fd.dl (h3' _ (Same.refl _) _ _ (.lst (rl'.append (.cons rT .nil)))))
                  refine ⟨pl, vs', .ref T, rfl, rfl, hpl', sz100l (by rw [rl'.length]; exact hly), ?_⟩
                  exact (EvS.drop (oL := oL) hn).run hp ok3 (Ans.mono ans2 (fun a ha => ha.gr ((gB.gr ok).trans gr)) fun c h => h)
                · rw [if_neg hly] at ans2
                  exact ans2.elim
              | _ => exact ans2.elim
      · rw [if_neg hlc] at ans
        exact ans.elim
  · rw [if_neg he2'] at ans
    exact ans.elim
end
end Hz

/-! what is left for the methods -/
namespace Hz
open PySem PySem.Spec PyProof.Rows L2 L2H

section
variable {K : PySem.W.Frag} {tw own oL sl vs : List Nat} {W : WX} {cl : Nat → Addr} {C : Addr}
def rdL (i : Nat) (f key : Str) (n : Env → R D) : Env → R D := fun e => (lift (fldL e i f)).bind fun es => (n e).bind fun y => match y with
  | .int j => (lift (ixN es.length j)).bind fun m => match es[m]? with
    | some (.dict ks) => (lift (valD ks (.str key))).bind .ok
    | _ => .bad
  | _ => .bad
theorem QI.rdL {i : Nat} {f key : Str} {tn : TE} {fn : Env → R D} (pf : PoF K C) (hf : f ∈ flds) (hk2 : fk f = 2) (hi : i ∈ own) (hn : QI K own W cl tn fn) : QI K own W cl (tDGet (tOp (rIx K) (tFld K (tVar i) f) tn) (tC (.str key))) (Hz.rdL i f key fn) := fun H0 P G env σ H Q ok ans => by
  obtain ⟨es, hd, ans⟩ := ans_lift ans
  obtain ⟨p, dx, fs, v, o1, a1, a2, a3, a4, a5, a6⟩ := ok.fldC pf hi (fldL_eq hd)
  refine ⟨.ref p, a1, p, C, dx, fs, v, rfl, a2, pf.cl, pf.no f hf, a3, ?_⟩
  refine hn H0 P G env σ H _ ok (ans.bind.mono (fun y hy G2 H2 vy g2 ry => ?_) fun c h => h)
  obtain ⟨o2, b4, b5, b6⟩ := ok.fldQ pf hi (fldL_eq hd) g2 a1 a2 a3
  obtain ⟨pl, vs, o, rfl, rfl, ra⟩ := b4.llI hk2
  have hH := (b5.at_ pl _ List.mem_cons_self).1
  cases ry with
  | int j =>
    obtain ⟨m, hm, q⟩ := ans_lift hy
    cases hem : es[m]? with
    | none => rw [hem] at q; exact q.elim
    | some dm0 =>
      rw [hem] at q
      cases dm0 with
      | dict ks =>
        obtain ⟨vm, c0, c1, c2, h1, rfl, h2, h3⟩ := ra.at hem
        obtain ⟨pd, kvs, rfl, rfl, rk⟩ := h2.dicI
        dsimp only at q
        obtain ⟨d, hv, q⟩ := ans_lift q
        have hi2 : atI vs j = some (.ref pd) := by
          unfold atI
          rw [ra.len, hm]
          exact h1
        have hh2 : Held G2 H2 (((pl, .lst vs) :: c0) ++ ([(pd, .dK kvs)] ++ c2)) := b5
        have hpd := (hh2.sub.at_ pd _ (List.mem_singleton.mpr rfl)).1
        obtain ⟨v1, hv1, rv1⟩ := (RpK.val (k := .inr key) rk).1 d hv
        refine .inl ⟨pl, vs, j, .ref pd, rfl, rfl, SqL.of hH, hi2, pd, v1, rfl, hv1 ▸ DGet.k (k := .inr key) hpd, q G2 H2 v1 g2 rv1⟩
      | _ => exact q.elim
  | _ => exact hy.elim
def sliceL (a : Env → R (D × Env)) (lo hi : Env → R (Option Int × Env)) : Env → R (D × Env) := fun e => (a e).bind fun x => (lo x.2).bind fun l => (hi l.2).bind fun h => match x.1 with
  | .list ds => .ok (.list (cutL ds l.1 h.1), h.2)
  | _ => .bad
theorem EvN.cutL {te : TE} {to th : TO} {fe : Env → R (D × Env)} {fo fh : Env → R (Option Int × Env)} (h : EvI K tw own W cl te fe) (hl : EvO K tw own W cl to fo) (hh : EvO K tw own W cl th fh) : EvN K tw own W cl (tSl (rCut K) te to th) (sliceL fe fo fh) := fun H0 P G env σ H Q hp ok ans => by
  refine h H0 P G env σ H _ hp ok (ans.bind.mono (fun a ha G1 H1 x g1 ok1 rx => ?_) fun _ h => h)
  refine hl H0 P G1 a.2 σ H1 _ hp ok1 (ha.bind.mono (fun b hb G2 H2 g2 ok2 => ?_) fun _ h => h)
  refine hh H0 P G2 b.2 σ H2 _ hp ok2 (hb.bind.mono (fun c hc G3 H3 g3 ok3 => ?_) fun _ h => h)
  obtain ⟨ad, ae⟩ := a
  cases rx with
  | @lst p xs ds h1 a1 =>
    have hp3 : H3 p = some (.lst xs) := ok3.sub _ _ (g3.1 _ _ (g2.1 _ _ h1))
    exact .inl ⟨_, _, rfl, SqL.of hp3, fun pn np => hc G3 H3 pn _ ((g1.trans g2).trans g3) ok3 np ⟨ok3.sub.free np, .inl ⟨_, _, rfl, upd_same, ((a1.mono g2.1).mono g3.1).cut _ _⟩⟩⟩
  | _ => exact hc.elim
/-! ### return of new objects -/
def EvRn (K : PySem.W.Frag) (tw own : List Nat) (W : WX) (cl : Nat → Addr) (t : TS) (f : Env → R (D × Env)) : Prop :=
  ∀ (H0 : Hp) (P : Par) (G : Hp) (env : Env) (σ : L2.St) (H : Hp) (E : Ends), P.1.map (·.1) = tw → StOk K H0 P own G env σ H →
    Ans (f env) (fun a => ∀ G1 σ1 H1 own' G' H' p os, Gr H0 G G1 → StOk K H0 P own' G1 a.2 σ1 H1 → Grow G1 H1 G' H' → (∀ x ∈ dm os, H1 x = none) → CellO K G' p a.1 os → Held G' H' os → E.rt (.ref p) H')
      (fun c => ∀ σ' H', σ'.length = P.2 → Frm H0 P H' → W (.ref (cl c)) none σ' H') → t E σ H
theorem EvRn.ret {te : TE} {fe : Env → R (D × Env)} (h : EvNo K tw own W cl te fe) : EvRn K tw own W cl (tRet te) fe := fun H0 P G env σ H E hp ok ans => by
  refine h H0 P G env σ H _ hp ok (ans.mono (fun a ha G1 H1 G' H' p os g1 ok1 g hf c hh => ?_) fun c h H' fr => h σ H' ok.ln fr)
  exact ha G1 σ H1 own G' H' p os g1 ok1 g hf c hh
theorem EvRn.seq {oM : List Nat} {t u : TS} {f : Env → R (Fl × Env)} {g : Env → R (D × Env)} (h : EvS K tw own oM [] W cl t f) (h2 : EvRn K tw oM W cl u g) : EvRn K tw own W cl (tSeq t u) (seqR f g) := fun H0 P G env σ H E hp ok ans => by
  refine h.run hp ok (ans.bind.mono (fun r hr => ?_) fun c h => h)
  obtain ⟨fl, e⟩ := r
  cases fl with
  | nx =>
    intro G' σ' H' g' ok'
    refine h2 H0 P G' e σ' H' E hp ok' (Ans.mono hr (fun a ha G1 σ1 H1 own' G2 H2 p os g1 => ha G1 σ1 H1 own' G2 H2 p os (g'.trans g1)) fun c h => h)
  | rt d => exact False.elim hr
  | bk => exact False.elim hr
  | ct => exact False.elim hr
def finE (r : R (D × Env)) : R D := r.bind fun a => .ok a.1
end
section
variable {P : Program} {w : World} {K : PySem.W.Frag} {mg : Str → Option Value} {base : Heap} {cl : Nat → Addr}
end
section
variable {X : Cx} {tw own oL : List Nat} {W : WX} {cl : Nat → Addr} {C : Addr} {e : Expr} {f : Str} {pos pos' q p apos spos : Pos} {te tk : TE} {fe : Env → R (D × Env)} {qk : Env → R D}
theorem dq_rdL (i : Nat) {x key : Str} {k : Expr} {j : Nat} {kp : Pos} (hu : X.A.units + 1 < cLine) (pf : PoF X.K C) (hi : i ∈ own) (hx : PE X (.Name x q) (tVar i)) (hk : DQ X own W cl k tk qk) (hf : f ∈ flds := by decide +kernel) (hk2 : fk f = 2 := by decide +kernel) (hb : attributeBase (.Name x q) f X.env (eval (.Name x q) X.env) = eval (.Name x q) X.env := by rfl) (hpi : PlainIx k := by exact fun _ _ => rfl) (hs : NoSl (.Constant (.str key) j kp) := by exact fun _ _ => rfl) :
    DQ X own W cl (.Subscript (.Subscript (.Attribute (.Name x q) f apos) k spos) (.Constant (.str key) j kp) pos) (tDGet (tOp (rIx X.K) (tFld X.K (tVar i) f) tk) (tC (.str key))) (rdL i f key qk) := ⟨pe_dget hu (pe_ix ix_seq (pe_fld hx hb) hk.pe hpi) pe_str hs, QI.rdL pf hf hk2 hi hk.ev⟩
end
/-! ### quiet functions -/
section
variable {X : Cx} {oL : List Nat} {cl : Nat → Addr} {C : Addr} {te tc tn : TE} {tt : TT} {fe fc fn : Env → R (D × Env)} {ft : Env → R (Bool × Env)} {Fg : List D → R D}
end
end Hz

/-! calls of defs with an owned parameter at any place -/
namespace Hz
open PySem PySem.Spec PyProof.Rows L2 L2H

section
variable {X : Cx} {tw own : List Nat} {W : WX} {cl : Nat → Addr} {e : Expr} {es : List Expr} {pos p q : Pos} {ta : TE} {tA : TA} {fa : Env → R (D × Env)} {fA : Env → R (List D × Env)} {fH : Env → R ((List D × List D) × Env)}
end
end Hz

/-! sorted(list of pairs of ints), of any length -/
namespace Hz
open PySem PySem.Spec PyProof.Rows L2 L2H

section
variable {K : PySem.W.Frag} {tw own : List Nat} {W : WX} {cl : Nat → Addr}
end
section
variable {X : Cx} {tw own : List Nat} {W : WX} {cl : Nat → Addr} {a : Expr} {p pos : Pos} {ta : TE} {fa : Env → R (D × Env)}
end
end Hz

/-! d.get(k, x), d a value -/
namespace Hz
open PySem PySem.Spec PyProof.Rows L2 L2H

def isKd : D → Option (List (D × D))
  | .dict ds => if ds.all (fun x => (keyOf x.1).isSome) = true then some ds else none
  | _ => none
theorem isKd_eq {d : D} {ds : List (D × D)} (h : isKd d = some ds) : d = .dict ds ∧ ds.all (fun x => (keyOf x.1).isSome) = true := by
  unfold isKd at h
  split at h
  · split at h
    · rename_i z
      cases h
      exact ⟨rfl, z⟩
    · cases h
  · cases h
section
variable {K : PySem.W.Frag} {tw : List Nat} {own oL : List Nat} {W : WX} {cl : Nat → Addr} {ta tb tc : TE} {fa fb fc : Env → R (D × Env)}
theorem Rp.kd {G : Hp} {v : V} {d : D} {ds : List (D × D)} (r : Rp K G v d) (h : isKd d = some ds) : ∃ a kvs, v = .ref a ∧ Rd G a (.dK kvs) ∧ RpK K G kvs ds := by
  obtain ⟨rfl, h'⟩ := isKd_eq h
  cases r with
  | dic h1 h2 => exact ⟨_, _, rfl, h1, h2⟩
  | dit h1 h2 =>
    rw [List.all_cons] at h'
    simp [keyOf] at h'
  | scr h1 =>
    rw [List.all_cons] at h'
    simp [keyOf] at h'
  | ins h1 h2 h3 =>
    rw [List.all_cons] at h'
    simp [keyOf] at h'
  | rcd h1 h2 =>
    rw [List.all_cons] at h'
    simp [keyOf] at h'
end
section
variable {X : Cx} {tw : List Nat} {own oL : List Nat} {W : WX} {cl : Nat → Addr} {a b c : Expr} {apos pos q : Pos} {ta tb tc : TE} {fa fb fc : Env → R (D × Env)}
end
end Hz

/-! sorted(list of ints), of any length -/
namespace Hz
open PySem PySem.Spec PyProof.Rows L2 L2H

section
variable {X : Cx} {tw : List Nat} {own : List Nat} {W : WX} {cl : Nat → Addr} {e : Expr} {p pos : Pos} {tA : TA} {fA : Env → R (List D × Env)} {k : Nat}
end
end Hz

/-! defs with an owned parameter that give a new object; methods of new objects -/
namespace Hz
open PySem PySem.Spec PyProof.Rows L2 L2H

def spTN (K : PySem.W.Frag) (cl : Nat → Addr) (k n : Nat) (F : List D → R (D × D)) : Sp := fun vs H Q E => ∃ G va p vb da dt db os, vs = va ++ .ref p :: vb ∧ va.length = k ∧ Same G H ∧ RpA K G va da ∧ CellO K G p dt os ∧ Held G H os ∧ RpA K G vb db ∧ da.length + db.length + 1 = n ∧
  Ans (F (da ++ dt :: db)) (fun a => ∀ G' H' p2 os2 os', Does K G H os G' H' p a.2 os' → CellO K G' p2 a.1 os2 → Held G' H' os2 → (∀ x ∈ dm os2, H x = none ∧ x ∉ dm os') → Q (.ref p2) H')
    (fun c => ∀ H', (∀ b o, b ∉ dm os → H b = some o → H' b = some o) → E (.ref (cl c)) none H')
theorem spTN.len {K : PySem.W.Frag} {cl : Nat → Addr} {k n : Nat} {F : List D → R (D × D)} (vs : List V) (H : Hp) (Q : VK) (E : XK) (h : spTN K cl k n F vs H Q E) : vs.length = n := by
  obtain ⟨G, va, p, vb, da, dt, db, os, rfl, _, _, ra, _, _, rb, e, _⟩ := h
  rw [← e, ← ra.length, ← rb.length, List.length_append, List.length_cons]
  omega
section
variable {K : PySem.W.Frag} {H0 : Hp} {P : Par} {own : List Nat} {G G' H H' : Hp} {env : Env} {σ : L2.St}
open Classical in
noncomputable def delO (H : Hp) (os : Os) : Hp := fun a => if a ∈ dm os then none else H a
theorem delO_in {H : Hp} {os : Os} {a : Addr} (h : a ∈ dm os) : delO H os a = none := if_pos h
theorem delO_out {H : Hp} {os : Os} {a : Addr} (h : a ∉ dm os) : delO H os a = H a := if_neg h
theorem Does.split {os os' os2 : Os} {p p2 : Addr} {d d2 : D} (x : Does K G H os G' H' p d os') (c : CellO K G' p2 d2 os2) (hd : Held G' H' os2) (hf : ∀ y ∈ Hz.dm os2, H y = none ∧ y ∉ Hz.dm os') : Does K G H os G' (delO H' os2) p d os' ∧ Grow G' (delO H' os2) G' H' ∧ ∀ y ∈ Hz.dm os2, delO H' os2 y = none := by
  have up : ∀ a o, H a = some o → a ∉ Hz.dm os2 := fun a o h z => by
    rw [(hf a z).1] at h
    cases h
  have gup : ∀ a o, G' a = some o → a ∉ Hz.dm os2 := fun a o h z => by
    obtain ⟨u, _, hg, _⟩ := hd.there z
    rw [hg] at h
    cases h
  refine ⟨⟨x.gg, fun a o h => ?_, fun a o h n => ?_, fun a o h => ?_, x.gn, x.c, ⟨fun a o m => ?_, x.hd.nd⟩, x.sb⟩, ⟨Same.refl _, x.gh, fun a o h => ?_, fun _ _ _ _ => rfl⟩, fun y hy => delO_in hy⟩
  · rw [delO_out (gup a o h)]
    exact x.gh a o h
  · rw [delO_out (up a o h)]
    exact x.kp a o h n
  · rw [delO_out (up a o h)]
    exact x.dm a o h
  · obtain ⟨h1, h2, h3⟩ := x.hd.at_ a o m
    refine ⟨?_, h2, h3⟩
    rw [delO_out fun z => (hf a z).2 (dm_mem.mpr ⟨o, m⟩)]
    exact h1
  · by_cases z : a ∈ Hz.dm os2
    · rw [delO_in z] at h
      cases h
    · rw [delO_out z] at h
      exact h
end
section
variable {P : Program} {w : World} {K : PySem.W.Frag} {mg : Str → Option Value} {base : Heap} {cl : Nat → Addr}
end
/-! x.twin(), x ours -/
section
variable {K : PySem.W.Frag} {tw own : List Nat} {W : WX} {cl : Nat → Addr} {C : Addr} {ta : TE} {tA : TA} {fa : Env → R (D × Env)} {fA : Env → R (List D × Env)}
end
end Hz

/-! copies of what is ours: lists of dicts, dicts of lists -/
namespace Hz
open PySem PySem.Spec PyProof.Rows L2 L2H

def rDictC : List V → Hp → VK → Prop := fun xs H Q => ∃ (a : Addr) (kvs : List (Key × V)), xs = [.ref a] ∧ Rd H a (.dK kvs) ∧ ∀ p, H p = none → Q (.ref p) (upd H p (.dK kvs))
section
variable {K : PySem.W.Frag} {G1 H1 : Hp}
theorem FlA.len2 {G : Hp} : ∀ {vs : List V} {ds : List D} {os : Os}, FlA K G vs ds os → vs.length = ds.length
  | _, _, _, .nil => rfl
  | _, _, _, .cons _ t => congrArg (· + 1) (FlA.len2 t)
structure New (G H H' : Hp) (os : Os) (x : Addr) : Prop where
  sm : Same H H'
  at_ : ∀ y o, (y, o) ∈ os → H' y = some o ∧ H y = none ∧ y ≠ x ∧ NT o
  nd : (dm os).Nodup
theorem New.held {G H H' : Hp} {os : Os} {x : Addr} (sub : Same G H) (n : New G H H' os x) : Held G H' os := ⟨fun y o m => ⟨(n.at_ y o m).1, sub.free (n.at_ y o m).2.1, (n.at_ y o m).2.2.2⟩, n.nd⟩
theorem New.snoc {G H H' : Hp} {os : Os} {x p : Addr} {o : HO} (n : New G H H' os x) (hp : H' p = none) (no : NT o) (hx : H' x ≠ none) {H2 : Hp} (h2 : Same H' H2) (hp2 : H2 p = some o) : New G H H2 (os ++ [(p, o)]) x := by
  refine ⟨n.sm.trans h2, fun y u m => ?_, ?_⟩
  · rcases List.mem_append.mp m with z | z
    · obtain ⟨a1, a2, a3, a4⟩ := n.at_ y u z
      exact ⟨h2 y u a1, a2, a3, a4⟩
    · cases List.mem_singleton.mp z
      exact ⟨hp2, n.sm.free hp, fun y => hx (y ▸ hp), no⟩
  · rw [dm_append, List.nodup_append]
    refine ⟨n.nd, by simp [dm], fun a ha b hb e => ?_⟩
    have hb : b = p := by simpa [dm] using hb
    obtain ⟨u, hu⟩ := dm_mem.mp ha
    have := (n.at_ a u hu).1
    rw [e, hb, hp] at this
    cases this
theorem rows_core {σ : L2.St} {wi : TI} {pl : Addr} {vs : List V} {ds : List D} {os : Os} {r : Nat} {Q : VK} (sub : Same G1 H1) (hl : H1 pl = some (.lst vs)) (fa : FlA K G1 vs ds os) (hd : ∀ d ∈ ds, ∃ es, d = .dict es) (hos : ∀ y o, (y, o) ∈ os → H1 y = some o) (hlen : ds.length ≤ 1000000) (hr : r < σ.length)
    (hwi : ∀ R : It → Hp → Prop, R (Itl K pl) H1 → wi σ H1 R) (q : ∀ (H' : Hp) (p : Addr) (os' : Os), Grow G1 H1 G1 H' → (∀ x ∈ dm os', H1 x = none) → Fd K G1 2 (.ref p) (.list ds) os' → Held G1 H' os' → Q (.ref p) H') :
    tLc wi (gName r) tYes (tCB rDictC (tCons (tVar r) tNil)) [r] σ H1 Q := by
  have hvl := fa.len2
  refine hwi _ fun Dl hD => ?_
  have npl : pl ≠ Dl := fun z => by rw [z, hD] at hl; cases hl
  refine ⟨fun j m H' => m = vs.length - j ∧ j ≤ vs.length ∧ ∃ (ns : List V) (os' : Os), FlA K G1 ns (ds.take j) os' ∧ H' Dl = some (.lst ns) ∧ New G1 H1 H' os' Dl, ⟨_, rfl, Nat.zero_le _, [], [], .nil, upd_same, ⟨Same.new hD, fun y o m => (by cases m), List.nodup_nil⟩⟩, ?_⟩
  rintro j m H2 ⟨rfl, hj, ns, os', fn, hDl, nw⟩
  have hl2 : H2 pl = some (.lst vs) := nw.sm _ _ hl
  cases hv : vs[j]? with
  | none =>
    have hjl : vs.length ≤ j := List.getElem?_eq_none_iff.mp hv
    refine .inl ⟨⟨vs, SqL.of hl2, hjl⟩, ?_⟩
    rw [List.take_of_length_le (by omega)] at fn
    have hld := nw.held sub
    refine q H2 Dl ((Dl, .lst ns) :: os') ⟨Same.refl _, sub.trans nw.sm, nw.sm, fun _ _ _ _ => rfl⟩ (fun x hx => ?_) (.ll fn) ⟨fun y o m => ?_, ?_⟩
    · rcases List.mem_cons.mp hx with z | z
      · rw [z]; exact hD
      · obtain ⟨o, ho⟩ := dm_mem.mp z
        exact (nw.at_ x o ho).2.1
    · rcases List.mem_cons.mp m with z | z
      · cases z
        exact ⟨hDl, sub.free hD, fun xs y => by cases y⟩
      · exact hld.at_ y o z
    · show (Dl :: dm os').Nodup
      rw [List.nodup_cons]
      refine ⟨fun z => ?_, nw.nd⟩
      obtain ⟨o, ho⟩ := dm_mem.mp z
      exact (nw.at_ Dl o ho).2.2.1 rfl
  | some v =>
    have hjl := lt_of_get hv
    have hdj : ds[j]? = some (ds[j]'(by omega)) := List.getElem?_eq_getElem (by omega)
    obtain ⟨v', o0, o1, o2, e1, e2, e3, _⟩ := fa.at hdj
    rw [hv] at e1
    cases e1
    obtain ⟨es, he⟩ := hd _ (List.getElem_mem (by omega : j < ds.length))
    rw [he] at e3 hdj
    obtain ⟨p, kvs, rfl, rfl, rk⟩ := e3.dicI
    have hp1 : H1 p = some (.dK kvs) := hos p _ (by rw [e2]; simp)
    refine .inr ⟨⟨vs, _, SqL.of hl2, hv⟩, fun H' => j + 1 ≤ vs.length ∧ ∃ (ns : List V) (os' : Os), FlA K G1 ns (ds.take (j + 1)) os' ∧ H' Dl = some (.lst ns) ∧ New G1 H1 H' os' Dl, fun H' ⟨h1, h2⟩ => ⟨vs.length - (j + 1), by omega, rfl, h1, h2⟩, fun x H3 y => ?_⟩
    obtain ⟨rfl, hx⟩ := y
    have hxv := hx vs (SqL.of hl2)
    rw [hv] at hxv
    cases hxv
    refine ⟨wipe_eq (vs := [r]) (by simp [wipe_length]) (fun k hk => ?_), ?_⟩
    · have hk : k ≠ r := fun z => hk (by rw [z]; exact List.mem_singleton.mpr rfl)
      rw [List.getElem?_set_ne (Ne.symm hk)]
      show ((wipe σ []).set r none)[k]? = σ[k]?
      rw [List.getElem?_set_ne (Ne.symm hk)]
      rfl
    refine yes_of ⟨.ref p, ?_, p, kvs, rfl, .inl (nw.sm _ _ hp1), fun nn hnn => ?_⟩
    · rw [List.getElem?_set_self]
      simp [wipe, hr]
    · have hDn : Dl ≠ nn := fun z => by rw [z, hnn] at hDl; cases hDl
      refine ⟨ns, by rw [upd_ne hDn]; exact hDl, sz100l (by have := fn.len2; rw [List.length_take] at this; omega), hjl, ns ++ [.ref nn], os' ++ [(nn, .dK kvs)], ?_, upd_same, ?_⟩
      · rw [List.take_succ, hdj]
        exact fn.snoc (.dic rk)
      · have sm3 : Same H3 (upd H3 nn (.dK kvs)) := Same.new hnn
        have n1 := nw.snoc (o := .dK kvs) hnn (fun xs z => by cases z) (by rw [hDl]; simp) sm3 upd_same
        refine ⟨fun a u ha => ?_, fun y o m => ?_, n1.nd⟩
        · rw [upd_ne (ne_of_none ha hD)]
          exact n1.sm a u ha
        · obtain ⟨a1, a2, a3, a4⟩ := n1.at_ y o m
          exact ⟨by rw [upd_ne a3]; exact a1, a2, a3, a4⟩
end
end Hz

/-! a post like another one: the rules of the text -/
namespace Hz
open PySem PySem.Spec PyProof.Rows L2 L2H

/-! ### dict(d), a new dict -/
section
variable {K : PySem.W.Frag} {tw own oL : List Nat} {W : WX} {cl : Nat → Addr} {C : Addr}
def rowsOk : D → Bool
  | .list ds => decide (ds.length ≤ 1000000) && ds.all fun d => match d with
    | .dict _ => true
    | _ => false
  | _ => false
def rowsF (i : Nat) (f : Str) (r : Nat) : Env → R (D × Env) := fun e => (lift (fldAt e i f)).bind fun d => if rowsOk d = true ∧ r < e.length then .ok (d, e) else .bad
theorem EvFd.rows {i r : Nat} {f : Str} (pf : PoF K C) (hf : f ∈ flds) (hk : fk f = 2) (hi : i ∈ own) : EvFd K tw own W cl 2 (tLc (iList K (tFld K (tVar i) f)) (gName r) tYes (tCB rDictC (tCons (tVar r) tNil)) [r]) (rowsF i f r) := fun H0 P G env σ H Q hp ok ans => by
  obtain ⟨d, hd, ans⟩ := ans_lift ans
  by_cases h : rowsOk d = true ∧ r < env.length
  · rw [if_pos h] at ans
    obtain ⟨h1, h2⟩ := h
    obtain ⟨p, dx, fs, v, o1, a1, a2, a3, a4, a5, _⟩ := ok.fldC pf hi hd
    unfold rowsOk at h1
    split at h1
    · rename_i ds
      rw [Bool.and_eq_true, decide_eq_true_eq, List.all_eq_true] at h1
      obtain ⟨pl, vs, os, rfl, rfl, fa⟩ := a4.llI hk
      have hl := (a5.at_ pl _ List.mem_cons_self).1
      refine rows_core ok.sub hl fa (fun d hd => ?_) (fun y o m => (a5.at_ y o (List.mem_cons_of_mem _ m)).1) h1.1 (by rw [← ok.len]; exact h2) (fun R hR => ⟨.ref p, a1, p, C, dx, fs, .ref pl, rfl, a2, pf.cl, pf.no f hf, a3, pl, rfl, ⟨vs, SqL.of hl⟩, hR⟩) fun H' p' os' gw hfr fd hh => ans G H G H' _ os' Gr.refl ok gw hfr fd hh
      have := h1.2 d hd
      cases d <;> first | exact ⟨_, rfl⟩ | (cases this)
    · cases h1
  · rw [if_neg h] at ans
    exact ans.elim
/-! ### x.f, x.g = a, b -/
end
end Hz

/-! x.f, x.g = new, new; the rules of the text for a post's twin -/
namespace Hz
open PySem PySem.Spec PyProof.Rows L2 L2H

section
variable {K : PySem.W.Frag} {tw own oL : List Nat} {W : WX} {cl : Nat → Addr} {C : Addr}
theorem Held.grow {G H G' H' : Hp} {os : Os} (h : Held G H os) (g : Grow G H G' H') : Held G' H' os := h.mono (fun x m => by
  obtain ⟨o, h1, h2, h3⟩ := h.there m
  exact (g.new x o h1 h3).trans h2) fun x o m => g.hh x o (h.at_ x o m).1
theorem Does1.swap {G H G' H' : Hp} {os b0 b1 b2 os2 : Os} (x : Does1 G H os G' H' (b0 ++ (b1 ++ b2))) (hh : Held G' H' os2) (hf : ∀ y ∈ dm os2, H y = none) (dj : ∀ y ∈ dm os2, y ∉ dm (b0 ++ (b1 ++ b2))) : Does1 G H os G' H' (b0 ++ (os2 ++ b2)) := by
  have nd := x.hd.nd
  have dj' : ∀ y ∈ dm os2, y ∉ dm b0 ∧ y ∉ dm b2 := fun y hy => by
    have := dj y hy
    rw [dm_append, dm_append] at this
    exact ⟨fun z => this (List.mem_append_left _ z), fun z => this (List.mem_append_right _ (List.mem_append_right _ z))⟩
  rw [dm_append, dm_append, List.nodup_append, List.nodup_append] at nd
  obtain ⟨n1, ⟨n2, n3, n4⟩, n5⟩ := nd
  refine ⟨x.gg, x.gh, x.kp, x.dd, x.gn, ⟨fun y o m => ?_, ?_⟩, fun y hy => ?_⟩
  · rcases List.mem_append.mp m with z | z
    · exact x.hd.at_ y o (List.mem_append_left _ z)
    · rcases List.mem_append.mp z with z | z
      · exact hh.at_ y o z
      · exact x.hd.at_ y o (List.mem_append_right _ (List.mem_append_right _ z))
  · rw [dm_append, dm_append, List.nodup_append, List.nodup_append]
    refine ⟨n1, ⟨hh.nd, n3, fun a ha b hb e => (dj' a ha).2 (e ▸ hb)⟩, fun a ha b hb e => ?_⟩
    rcases List.mem_append.mp hb with z | z
    · exact (dj' b z).1 (e ▸ ha)
    · exact n5 a ha b (List.mem_append_right _ z) e
  · rw [dm_append, dm_append] at hy
    rcases List.mem_append.mp hy with z | z
    · exact x.sb y (by rw [dm_append]; exact List.mem_append_left _ z)
    · rcases List.mem_append.mp z with z | z
      · exact .inr (hf y z)
      · exact x.sb y (by rw [dm_append, dm_append]; exact List.mem_append_right _ (List.mem_append_right _ z))
end
end Hz

/-! the rules of the text for a post's twin -/
namespace Hz
open PySem PySem.Spec PyProof.Rows L2 L2H

section
variable {X : Cx} {tw own oL : List Nat} {W : WX} {cl : Nat → Addr} {C : Addr} {k n : Nat} {m qual f g h : Str} {st : Stmt} {ps : List Str} {ga : Addr} {fd : FuncData} {FM : List D → R (D × D)} {o e a b c : Expr} {es : List Expr} {pos p q q1 q2 q3 apos apos2 apos3 pos' tpos tpos2 cpos : Pos} {ta t1 t2 : TE} {tA : TA} {fa : Env → R (D × Env)} {fA : Env → R (List D × Env)} {qd1 qd2 : Env → R D}
/-! attributes set together -/
/-! copies -/
end
end Hz

/-! a != b, two dicts that are equal -/
namespace Hz
open PySem PySem.Spec PyProof.Rows L2 L2H
section
open PySem.Calls PyProof.V PySem.W
end
section
variable {K : PySem.W.Frag}
theorem RpK.mem {G : Hp} {p : Key × V} : ∀ {kvs : List (Key × V)} {ds : List (D × D)}, RpK K G kvs ds → p ∈ kvs → ∃ d, (kD p.1, d) ∈ ds ∧ Rp K G p.2 d
  | _, _, .nil, h => by cases h
  | _, _, .cons r t, h => by
    rcases List.mem_cons.mp h with rfl | h
    · exact ⟨_, List.mem_cons_self, r⟩
    · obtain ⟨d, h1, h2⟩ := RpK.mem t h
      exact ⟨d, List.mem_cons_of_mem _ h1, h2⟩
theorem RpK.len {G : Hp} : ∀ {kvs : List (Key × V)} {ds : List (D × D)}, RpK K G kvs ds → kvs.length = ds.length
  | _, _, .nil => rfl
  | _, _, .cons _ t => by simp [RpK.len t]
end
end Hz

/-! try: return x.m(..) .. except, x an owned parameter -/
namespace Hz
open PySem PySem.Spec PyProof.Rows L2 L2H
section
variable {K : PySem.W.Frag} {k : Nat} {W : WX} {cl : Nat → Addr} {t c : TT} {ta tb te : TE} {tA : TA} {fa fb fe : Env → R (D × Env)} {oN : List Nat}
def EvIW (K : PySem.W.Frag) (k : Nat) (W : WX) (cl : Nat → Addr) (t : TE) (f : Env → R (D × Env)) : Prop :=
  ∀ (H0 : Hp) (P : Par) (G : Hp) (env : Env) (σ : L2.St) (H : Hp) (Q : VK), P.1.map (·.1) = [k] → StOk K H0 P [k] G env σ H → Same H0 H →
    Ans (f env) (fun a => ∀ G' H' v, Gr H0 G G' → StOk K H0 P [k] G' a.2 σ H' → Rp K G' v a.1 → Q v H') (fun c => ∀ H', Same H0 H' → W (.ref (cl c)) none σ H') → t σ H Q
theorem EvIW.q {f : Env → R D} (h : QI K [k] W cl te f) : EvIW K k W cl te (quI f) := fun H0 P G env σ H Q hp ok sm ans => by
  refine h H0 P G env σ H Q ok ((Ans.bind ans).mono (fun d hd G' H' v g rv => hd G' H' v (g.gr ok) (ok.grow g) rv) fun c hc H' s => hc H' (sm.trans s))
theorem EvW.ret (h : EvIW K k W cl te fe) : EvW K k oN W cl (tRet te) (retS fe) := fun H0 P G env σ H E hp ok sm ans => by
  refine h H0 P G env σ H _ hp ok sm ((Ans.bind ans).mono (fun a ha G1 H1 x g1 ok1 rx => ha G1 σ H1 x g1 ok1 rx) fun c hc H' s => hc σ H' ok.ln s)
end
section
variable {X : Cx} {k : Nat} {oN : List Nat} {W : WX} {cl : Nat → Addr} {a b c e : Expr} {es : List Expr} {pos q apos : Pos} {t : TT} {ta tb te : TE} {tA : TA} {fa fb fe : Env → R (D × Env)} {fc : Env → R Bool} {qe : Env → R D}
end
/-! ### the whole body of a def -/
section
variable {P : Program} {w : World} {K : PySem.W.Frag} {mg : Str → Option Value} {base : Heap} {cl : Nat → Addr} {js : List Nat}
end
end Hz

/-! for x in (a, b), a and b ours: x is each of them in turn -/
namespace Hz
open PySem PySem.Spec PyProof.Rows L2 L2H
section
variable {K : PySem.W.Frag} {H0 : Hp} {P : Par} {own : List Nat} {G G' H H' : Hp} {env : Env} {σ σ' : L2.St}
variable {tw oL : List Nat} {W : WX} {cl : Nat → Addr}
end
section
variable {X : Cx} {tw own oL : List Nat} {W : WX} {cl : Nat → Addr} {body : List Stmt} {tg : Expr} {tb : TS} {b : Env → R (Fl × Env)} {pos p1 p2 p3 : Pos}
end
end Hz

/-! {0: a, 1: b} -/
namespace Hz
open PySem PySem.Spec PyProof.Rows L2 L2H
section
variable {K : PySem.W.Frag} {tw own : List Nat} {W : WX} {cl : Nat → Addr}
end
section
variable {X : Cx} {tw own : List Nat} {W : WX} {cl : Nat → Addr} {pos p1 p2 q1 q2 : Pos} {x y : Str} {k1 k2 : Nat}
end
end Hz

/-! what is refused behind x.twin(), x an owned parameter: the data of x is as it was -/
namespace Hz
open PySem PySem.Spec PyProof.Rows L2 L2H
def spTE (K : PySem.W.Frag) (cl : Nat → Addr) (n : Nat) (F : List D → Option Nat) : Sp := fun vs H Q E => ∃ G p vb dt db os c, vs = .ref p :: vb ∧ Same G H ∧ CellO K G p dt os ∧ Held G H os ∧ RpA K G vb db ∧ db.length + 1 = n ∧ F (dt :: db) = some c ∧
  ∀ G' H' os', Does K G H os G' H' p dt os' → E (.ref (cl c)) none H'
theorem spTE.len {K : PySem.W.Frag} {cl : Nat → Addr} {n : Nat} {F : List D → Option Nat} (vs : List V) (H : Hp) (Q : VK) (E : XK) (h : spTE K cl n F vs H Q E) : vs.length = n := by
  obtain ⟨G, p, vb, dt, db, os, c, rfl, _, _, _, rb, e, _⟩ := h
  rw [← e, ← rb.length, List.length_cons]
theorem set_get {e : Env} {k : Nat} {o : Option D} (h : e[k]? = some o) : e.set k o = e := by
  refine List.ext_getElem? fun i => ?_
  by_cases z : i = k
  · subst z
    rw [List.getElem?_set_self (lt_of_get h), h]
  · rw [List.getElem?_set_ne (Ne.symm z)]
section
variable {K : PySem.W.Frag} {k : Nat} {W : WX} {cl : Nat → Addr} {ta tb te : TE} {tA : TA} {t : TT}
def EvIE (K : PySem.W.Frag) (k : Nat) (W : WX) (cl : Nat → Addr) (t : TE) (f : Env → Option Nat) : Prop :=
  ∀ (H0 : Hp) (P : Par) (G : Hp) (env : Env) (σ : L2.St) (H : Hp) (Q : VK) (c : Nat), P.1.map (·.1) = [k] → StOk K H0 P [k] G env σ H → f env = some c →
    (∀ G' H', Gr H0 G G' → StOk K H0 P [k] G' env σ H' → W (.ref (cl c)) none σ H') → t σ H Q
def EvSE (K : PySem.W.Frag) (k : Nat) (W : WX) (cl : Nat → Addr) (t : TS) (f : Env → Option Nat) : Prop :=
  ∀ (H0 : Hp) (P : Par) (G : Hp) (env : Env) (σ : L2.St) (H : Hp) (E : Ends) (c : Nat), P.1.map (·.1) = [k] → StOk K H0 P [k] G env σ H → f env = some c →
    (∀ G' σ' H' env', Gr H0 G G' → StOk K H0 P [k] G' env' σ' H' → env'[k]? = env[k]? → W (.ref (cl c)) none σ' H') → t E σ H
theorem EvSE.ret {f : Env → Option Nat} (h : EvIE K k W cl te f) : EvSE K k W cl (tRet te) f := fun H0 P G env σ H E c hp ok he hw =>
  h H0 P G env σ H _ c hp ok he fun G' H' g s => hw G' σ H' env g s rfl
def callE (F : List D → Option Nat) (k : Nat) (fA : Env → R (List D)) : Env → Option Nat := fun e => match e[k]? with
  | some (some t0) => match fA e with
    | .ok ys => F (t0 :: ys)
    | _ => none
  | _ => none
theorem callE_eq {F : List D → Option Nat} {fA : Env → R (List D)} {e : Env} {c : Nat} (h : callE F k fA e = some c) : ∃ t0 ys, e[k]? = some (some t0) ∧ fA e = .ok ys ∧ F (t0 :: ys) = some c := by
  unfold callE at h
  split at h
  · rename_i t0 h0
    split at h
    · rename_i ys h1
      exact ⟨t0, ys, h0, h1, h⟩
    · cases h
  · cases h
theorem spTE.give {H0 : Hp} {P : Par} {G2 H2 : Hp} {env : Env} {σ : L2.St} {n : Nat} {F : List D → Option Nat} {ys : List V} {db : List D} {t0 : D} {c : Nat} {Q : VK} {E : XK} {p0 : Addr} (ok2 : StOk K H0 P [k] G2 env σ H2) (e0 : σ[k]? = some (some (.ref p0))) (h0 : env[k]? = some (some t0)) (ry : RpA K G2 ys db) (hl : db.length + 1 = n) (hF : F (t0 :: db) = some c)
    (hw : ∀ G' H', Gr H0 G2 G' → StOk K H0 P [k] G' env σ H' → E (.ref (cl c)) none H') : spTE K cl n F (.ref p0 :: ys) H2 Q E := by
  obtain ⟨p, dt, os, hd, e2, cc, hh, fr, cls⟩ := ok2.does (List.mem_singleton.mpr rfl)
  rw [e0] at e2
  cases e2
  rw [h0] at hd
  cases hd
  refine ⟨G2, p0, ys, t0, db, os, c, rfl, ok2.sub, cc, hh, ry, hl, hF, fun G' H' os' dd => ?_⟩
  obtain ⟨gr, ok3⟩ := cls G' H' t0 os' dd
  rw [set_get h0] at ok3
  exact hw G' H' gr ok3
theorem EvIE.call {n : Nat} {F : List D → Option Nat} {fA : Env → R (List D)} (ha : QA K [k] W cl tA fA) (hl : ∀ env r, fA env = .ok r → r.length + 1 = n) : EvIE K k W cl (tCallS (spTE K cl n F) (WE W) (tCons (tVar k) tA)) (callE F k fA) := fun H0 P G env σ H Q c hp ok he hw => by
  obtain ⟨t0, ys, h0, h1, h2⟩ := callE_eq he
  obtain ⟨p0, e0⟩ := ok.adr (List.mem_singleton.mpr rfl)
  refine ⟨.ref p0, e0, ha H0 P G env σ H _ ok ?_⟩
  rw [h1]
  intro G2 H2 vs g2 ry
  exact spTE.give (ok.grow g2) e0 h0 ry (hl _ _ h1) h2 fun G' H' g s => hw G' H' ((g2.gr ok).trans g) s
/-! ### [f, g][i](x, ..) -/
/-! ### x.twin() ahead of what is refused -/
end
/-! ### rules of the text -/
section
variable {X : Cx} {tw own oN oL : List Nat} {cl : Nat → Addr} {k n : Nat} {e c : Expr} {es : List Expr} {ss : List Stmt} {pos pos' : Pos} {W : WX} {tt : TT} {te : TE} {tA : TA} {fA : Env → R (List D)} {f : Env → Option Nat} {fb : Env → R (Fl × Env)} {C : Addr} {Ft F : List D → R (D × D)} {qc : Env → R Bool} {tS tU u : TS}
end
section
variable {X : Cx} {cl : Nat → Addr} {k n : Nat} {e : Expr} {es : List Expr} {fs : List (Addr × (List D → Option Nat))} {pos p q lp sp p3 : Pos} {W : WX} {tt : TT} {ta tb : TE} {fa fb : Env → Option Nat} {tA : TA} {fA : Env → R (List D)}
variable {kk : Nat}
end
section
variable {P : Program} {w : World} {K : PySem.W.Frag} {mg : Str → Option Value} {base : Heap} {cl : Nat → Addr} {js : List Nat}
end
end Hz

/-! sorted(list of pairs of an int and a text), sorted(list of texts) -/
namespace Hz
open PySem PySem.Spec PyProof.Rows L2 L2H
abbrev KL := List (Int ⊕ List Nat)
def ltK (a b : KL) : Bool := (PyProof.Rows.listOrd PyProof.Rows.itemOrd).blt a b
theorem swo_ord (O : KeyOrd) : SrtO.Swo O.blt := by
  refine ⟨fun x y h => ?_, fun x y z h1 h2 => ?_⟩
  · cases e : O.blt y x with
    | false => rfl
    | true =>
      have := O.trans _ _ _ h e
      rw [O.irrefl] at this
      cases this
  · cases e : O.blt z x with
    | false => rfl
    | true =>
      rcases O.negTrans z y x e with z | z
      · rw [h2] at z; cases z
      · rw [h1] at z; cases z
theorem swo_k {α : Type} (k : α → KL) : SrtO.Swo fun v u => ltK (k v) (k u) := ⟨fun x y => (swo_ord (PyProof.Rows.listOrd PyProof.Rows.itemOrd)).asym (k x) (k y), fun x y z => (swo_ord (PyProof.Rows.listOrd PyProof.Rows.itemOrd)).tr (k x) (k y) (k z)⟩
def kOf (p : Int × Str) : KL := [.inl p.1, .inr p.2.cps.toList]
def sh1 : Nat → Bool := fun i => i == 1
section
variable {prog : Program} {w : World} {A : Around} {E : Value → Shared → Prop} {s : Shared}
def IsPS (h : Heap) (v : Value) (p : Int × Str) : Prop := ∃ a o t u n, v = .ref a ∧ h.get? a = some o ∧ o.cls = .type "tuple" ∧ o.data = .seq #[.int p.1 t, .str p.2 u] n
theorem IsPS.keeps {h h' : Heap} {v : Value} {p : Int × Str} (q : IsPS h v p) (k : ∀ b o, h.get? b = some o → o.cls = .type "tuple" → h'.get? b = some o) : IsPS h' v p := by
  obtain ⟨a, o, t, u, n, e, ho, hc, hd⟩ := q
  exact ⟨a, o, t, u, n, e, k _ _ ho hc, hc, hd⟩
theorem IsPS.key {h : Heap} {v : Value} {p : Int × Str} (q : IsPS h v p) : PyProof.Rows.tupKey h sh1 v = some (kOf p) := by
  obtain ⟨a, o, t, u, n, rfl, ho, hc, hd⟩ := q
  simp only [PyProof.Rows.tupKey, ho, hd]
  rfl
theorem ps_cmp {vs : List Value} {k : Value → Int × Str} (hp : ∀ v ∈ vs, IsPS s.heap v (k v)) : SrtO.Cmp prog w A s (tuples' true) (fun p => p.1 ∈ vs) (SrtO.lt2 fun v u => ltK (kOf (k v)) (kOf (k u))) := by
  intro p q hm hm'
  exact PyProof.Rows.tup_ltAt (shape := sh1) true A _ _ _ _ _ (hp _ hm).key (hp _ hm').key ⟨rfl, rfl⟩
theorem ps_tups {h : Heap} {k : Value → Int × Str} : ∀ {vs : List Value}, (∀ v ∈ vs, IsPS h v (k v)) → ∃ fs, PyProof.Rows.TupsOf h sh1 vs fs ∧ fs.length = vs.length
  | [], _ => ⟨[], .nil, rfl⟩
  | v :: vs, hp => by
    obtain ⟨fs, h1, h2⟩ := ps_tups (vs := vs) fun u hu => hp u (List.mem_cons_of_mem _ hu)
    obtain ⟨a, o, t, u, n, e, ho, hc, hd⟩ := hp v (List.mem_cons_self ..)
    exact ⟨.int (k v).1 t :: fs, .cons ⟨a, o, _, n, e, ho, hc, hd, rfl, fun _ => ⟨_, _, rfl⟩, fun z => by cases z⟩ h1, by rw [List.length_cons, List.length_cons, h2]⟩
theorem ps_sortable {a : Addr} {vs : List Value} {k : Value → Int × Str} (h0 : 0 < vs.length) (hp : ∀ v ∈ vs, IsPS s.heap v (k v)) (ha : ∀ o, s.heap.get? a = some o → o.cls ≠ .type "tuple") : SrtO.SortableO prog w A s a vs fun v u => ltK (kOf (k v)) (kOf (k u)) := by
  intro h' keep
  have hp' : ∀ v ∈ vs, IsPS h' v (k v) := fun v hm => (hp v hm).keeps fun b o e c => keep b o (fun z => by subst z; exact ha o e c) e
  obtain ⟨fs, h1, h2⟩ := ps_tups hp'
  exact ⟨tuples' true, fun Q E hq => PyProof.Rows.tup_kind (s := { s with heap := h' }) (by omega) h1 hq, ps_cmp hp'⟩
theorem sorted_ps {l : Addr} {vs : List Value} {k : Value → Int × Str} {Q : Value → Shared → Prop} (hl : s.heap.IsList l vs.toArray) (hz : vs.length ≤ sizeLine) (hp : ∀ v ∈ vs, IsPS s.heap v (k v))
    (h : ∀ (h' : Heap) (d : Addr) (out : List Value), SrtO.Srtd (fun v u => ltK (kOf (k v)) (kOf (k u))) out → SrtO.Stb (fun v u => ltK (kOf (k v)) (kOf (k u))) out vs → (∀ b o, s.heap.get? b = some o → h'.get? b = some o) → s.heap.objs.size ≤ d → (∃ n, h'.get? d = some (seqObj "list" out.toArray n)) → Q (.ref d) { s with heap := h' }) :
    wpAny (model prog w) A (call (.builtin "sorted") [.ref l]) Q E s := by
  refine SrtO.sorted_ord (swo_k fun v => kOf (k v)) hl hz (fun h2 h₁ a ha kk => ?_) fun out hs hb => ?_
  · refine ps_sortable (s := { s with heap := h₁ }) (by omega) (fun v hm => (hp v hm).keeps fun b o e _ => (kk b o e).2) fun o e => ?_
    have e' : some o = some (seqObj "list" vs.toArray 0) := e.symm.trans ha
    cases e'
    intro c
    exact absurd (Value.type.inj c) (by decide)
  · exact h _ _ out hs hb (fun b o e => sortedAll_old e) (Nat.le_succ _) (sortedAll_at s.heap vs out.toArray)
end
/-! on data -/
def leS (x y : Int × Str) : Bool := !ltK (kOf y) (kOf x)
def insS (x : Int × Str) : List (Int × Str) → List (Int × Str)
  | [] => [x]
  | y :: l => if leS x y = true then x :: y :: l else y :: insS x l
def sortPS : List (Int × Str) → List (Int × Str)
  | [] => []
  | x :: l => insS x (sortPS l)
theorem insS_perm (x : Int × Str) : ∀ l, (insS x l).Perm (x :: l)
  | [] => List.Perm.refl _
  | y :: l => by
    unfold insS
    split
    · exact List.Perm.refl _
    · exact ((insS_perm x l).cons y).trans (List.Perm.swap x y l)
theorem sortPS_perm : ∀ l, (sortPS l).Perm l
  | [] => List.Perm.refl _
  | x :: l => (insS_perm x _).trans ((sortPS_perm l).cons x)
theorem leS_trans {x y z : Int × Str} (h1 : leS x y = true) (h2 : leS y z = true) : leS x z = true := by
  unfold leS at *
  have a : ltK (kOf y) (kOf x) = false := by simpa using h1
  have b : ltK (kOf z) (kOf y) = false := by simpa using h2
  have := (swo_k kOf).tr x y z a b
  simp [this]
theorem leS_total {x y : Int × Str} (h : leS x y = false) : leS y x = true := by
  unfold leS at *
  have a : ltK (kOf y) (kOf x) = true := by simpa using h
  have := (swo_k kOf).asym y x a
  simp [this]
theorem kOf_inj {x y : Int × Str} (h : kOf x = kOf y) : x = y := by
  unfold kOf at h
  injection h with h1 h2
  injection h1 with h1
  injection h2 with h2 _
  injection h2 with h2
  obtain ⟨a, b⟩ := x
  obtain ⟨c, d⟩ := y
  have : b.cps = d.cps := Array.toList_inj.mp h2
  cases b
  cases d
  simp only at h1 this
  subst h1
  subst this
  rfl
theorem leS_anti {x y : Int × Str} (h1 : leS x y = true) (h2 : leS y x = true) : x = y := by
  unfold leS at *
  have a : ltK (kOf y) (kOf x) = false := by simpa using h1
  have b : ltK (kOf x) (kOf y) = false := by simpa using h2
  exact kOf_inj ((PyProof.Rows.listOrd PyProof.Rows.itemOrd).total _ _ b a)
theorem insS_sorted (x : Int × Str) : ∀ l : List (Int × Str), l.Pairwise (fun a b => leS a b = true) → (insS x l).Pairwise (fun a b => leS a b = true)
  | [], _ => List.pairwise_singleton _ _
  | y :: l, h => by
    unfold insS
    have h' := List.pairwise_cons.mp h
    split
    · rename_i z
      refine List.pairwise_cons.mpr ⟨fun b hb => ?_, h⟩
      rcases List.mem_cons.mp hb with rfl | hb
      · exact z
      · exact leS_trans z (h'.1 b hb)
    · rename_i z
      refine List.pairwise_cons.mpr ⟨fun b hb => ?_, insS_sorted x l h'.2⟩
      rcases List.mem_cons.mp ((insS_perm x l).mem_iff.mp hb) with rfl | hb
      · exact leS_total (by simpa using z)
      · exact h'.1 b hb
theorem sortPS_sorted : ∀ l, (sortPS l).Pairwise (fun a b => leS a b = true)
  | [] => List.Pairwise.nil
  | x :: l => insS_sorted x _ (sortPS_sorted l)
theorem sortedPS_uniq : ∀ {l m : List (Int × Str)}, l.Perm m → l.Pairwise (fun a b => leS a b = true) → m.Pairwise (fun a b => leS a b = true) → l = m
  | [], m, p, _, _ => by rw [List.nil_perm.mp p]
  | x :: l, [], p, _, _ => by simp at p
  | x :: l, y :: m, p, hl, hm => by
    rw [List.pairwise_cons] at hl hm
    have hxy : x = y := by
      rcases List.mem_cons.mp (p.mem_iff.mp List.mem_cons_self) with e | hx
      · exact e
      · rcases List.mem_cons.mp (p.mem_iff.mpr List.mem_cons_self) with e | hy
        · exact e.symm
        · exact leS_anti (hl.1 y hy) (hm.1 x hx)
    subst hxy
    rw [sortedPS_uniq p.cons_inv hl.2 hm.2]
def rSortedPS (K : PySem.W.Frag) : List V → Hp → VK → Prop := fun vs H Q => ∃ (a : Addr) (ts : List (Addr × (Int × Str))), vs = [V.ref a] ∧ SqL K H a (ts.map fun t => V.ref t.1) ∧ (∀ t ∈ ts, SqT K H t.1 [.int t.2.1, .str t.2.2]) ∧
  ∀ (us : List (Addr × (Int × Str))) (p : Addr), us.Perm ts → (us.map (·.2)).Pairwise (fun a b => leS a b = true) → H p = none → Q (.ref p) (upd H p (.lst (us.map fun t => V.ref t.1)))
section
variable {X : Cx}
theorem cr_sortedPS : CallR X (.builtin "sorted") (rSortedPS X.K) := by
  intro pins s σ H vs us Q I r h
  obtain ⟨a, ts, rfl, hs, ht, q⟩ := h
  obtain ⟨its, rv, hl, hz⟩ := I.list hs
  obtain ⟨u, rfl, ru⟩ := vals1 r
  obtain rfl : u = Value.ref a := ru
  have fn : ∀ t ∈ ts, ∀ u ∈ ts, t.1 = u.1 → t.2 = u.2 := fun t ht' u hu e => by
    have h1 := ht t ht'
    have h2 := ht u hu
    rw [e] at h1
    have h3 := I.tuple_inj h1 h2
    injection h3 with h3 h4
    injection h3 with h3
    injection h4 with h4 _
    injection h4 with h4
    exact Prod.ext h3 h4
  let k : V → Int × Str := fun v => match v with
    | .ref a => ((ts.find? fun t => decide (t.1 = a)).map (·.2)).getD (0, ⟨#[]⟩)
    | _ => (0, ⟨#[]⟩)
  have hk : ∀ t ∈ ts, k (.ref t.1) = t.2 := fun t ht' => by
    show ((ts.find? fun u => decide (u.1 = t.1)).map (·.2)).getD (0, ⟨#[]⟩) = t.2
    cases hf : ts.find? fun u => decide (u.1 = t.1) with
    | none =>
      rw [List.find?_eq_none] at hf
      exact absurd (hf t ht') (by simp)
    | some u =>
      have h1 := List.find?_some hf
      have h2 := List.mem_of_find?_eq_some hf
      exact fn u h2 t ht' (by simpa using h1)
  obtain ⟨e1, e2⟩ := refs_back rv fun x m => by
    obtain ⟨t, _, e⟩ := List.mem_map.mp m
    exact ⟨t.1, e.symm⟩
  refine sorted_ps (k := fun u => k (backV u)) hl.isList (by rw [← rv.length]; exact hz) (fun v hv => ?_) fun h' d out h1 h2 kp hd hn => ?_
  · obtain ⟨t, rfl⟩ := e2 v hv
    have hm : V.ref t ∈ ts.map fun t => V.ref t.1 := by rw [e1]; exact List.mem_map.mpr ⟨_, hv, rfl⟩
    obtain ⟨t', m', e⟩ := List.mem_map.mp hm
    injection e with e
    subst e
    obtain ⟨its2, r2, ⟨o, ho, hc, n, hd⟩, _⟩ := I.tuple (ht t' m')
    obtain ⟨u1, u2, rfl, ri, rj⟩ := vals2 r2
    obtain ⟨t1, rfl⟩ := ri
    obtain ⟨t2, rfl⟩ := rj
    refine ⟨t'.1, o, t1, t2, n, rfl, ho, hc, ?_⟩
    show o.data = .seq #[.int (k (.ref t'.1)).1 t1, .str (k (.ref t'.1)).2 t2] n
    rw [hk t' m']
    exact hd
  · have h3 : ∀ u ∈ out, ∃ a, u = Value.ref a := fun u hu => e2 u (h2.perm.mem_iff.mp hu)
    obtain ⟨n, hn⟩ := hn
    have hb : (out.map backV).Perm (ts.map fun t => V.ref t.1) := by
      rw [e1]
      exact h2.perm.map backV
    obtain ⟨us, pu, eu⟩ := perm_lift (f := fun t : Addr × (Int × Str) => V.ref t.1) hb ts rfl
    have hs2 : (us.map (·.2)).Pairwise (fun a b => leS a b = true) := by
      rw [List.pairwise_map]
      have h4 : (out.map backV).Pairwise fun x y => ltK (kOf (k y)) (kOf (k x)) = false := List.pairwise_map.mpr h1
      rw [eu] at h4
      refine List.Pairwise.imp_of_mem (fun {a b} hma hmb hle => ?_) (List.pairwise_map.mp h4)
      rw [hk a (pu.mem_iff.mp hma), hk b (pu.mem_iff.mp hmb)] at hle
      unfold leS
      rw [hle]
      rfl
    refine ⟨.ref d, upd H d (.lst (us.map fun t => V.ref t.1)), I.laid (t' := s.toks) kp hd ⟨?_, out, n, ?_, hn⟩, rfl, q us d pu hs2 (I.hok.fresh hd)⟩
    · have := pu.length_eq
      rw [List.length_map] at hz ⊢
      rw [this]
      exact hz
    · rw [← eu]
      exact vals_back h3
end
def psOf1 : D → Option (Int × Str)
  | .tuple [.int x, .str y] => some (x, y)
  | _ => none
def psOfL : List D → Option (List (Int × Str))
  | [] => some []
  | d :: ds => (psOf1 d).bind fun p => (psOfL ds).bind fun r => some (p :: r)
def isD2 (p : Int × Str) : D := .tuple [.int p.1, .str p.2]
theorem psOf1_eq {d : D} {p : Int × Str} (h : psOf1 d = some p) : d = isD2 p := by
  unfold psOf1 at h
  split at h
  · cases h
    rfl
  · cases h
theorem psOfL_eq : ∀ {ds : List D} {ps : List (Int × Str)}, psOfL ds = some ps → ds = ps.map isD2
  | [], ps, h => by cases h; rfl
  | d :: ds, ps, h => by
    obtain ⟨p, h1, h2⟩ := Option.bind_eq_some_iff.mp h
    obtain ⟨r, h3, h4⟩ := Option.bind_eq_some_iff.mp h2
    cases h4
    rw [psOf1_eq h1, psOfL_eq h3]
    rfl
theorem psOfL_map : ∀ ps : List (Int × Str), psOfL (ps.map isD2) = some ps
  | [] => rfl
  | p :: ps => by
    show (psOf1 (isD2 p)).bind (fun p => (psOfL (ps.map isD2)).bind fun r => some (p :: r)) = _
    rw [psOfL_map ps]
    rfl
def sortedPSD : D → Option D
  | .list ds => (psOfL ds).map fun ps => .list ((sortPS ps).map isD2)
  | _ => none
section
variable {K : PySem.W.Frag} {tw own : List Nat} {W : WX} {cl : Nat → Addr}
theorem rows_ofS {G : Hp} : ∀ {xs : List V} {ps : List (Int × Str)}, RpA K G xs (ps.map isD2) → ∃ ts : List (Addr × (Int × Str)), xs = ts.map (fun t => V.ref t.1) ∧ ps = ts.map (·.2) ∧ ∀ t ∈ ts, SqT K G t.1 [.int t.2.1, .str t.2.2] ∧ Rp K G (.ref t.1) (isD2 t.2)
  | _, [], h => by cases h; exact ⟨[], rfl, rfl, fun t m => by cases m⟩
  | _, p :: ps, h => by
    cases h with
    | cons h r =>
      obtain ⟨ts, e1, e2, e3⟩ := rows_ofS r
      have h0 := h
      unfold isD2 at h
      cases h with
      | @tup a vs ds hs ra n =>
        cases ra with
        | cons r1 ra =>
          cases ra with
          | cons r2 ra =>
            cases ra
            cases r1
            cases r2
            refine ⟨(a, p) :: ts, by rw [List.map_cons, e1], by rw [List.map_cons, e2], fun t m => ?_⟩
            rcases List.mem_cons.mp m with rfl | m
            · exact ⟨hs, h0⟩
            · exact e3 t m
theorem EvN.sortPS {ta : TE} {fa : Env → R (D × Env)} (ha : EvI K tw own W cl ta fa) : EvN K tw own W cl (tCB (rSortedPS K) (tCons ta tNil)) (op1 sortedPSD fa) := fun H0 P G env σ H Q hp ok ans => by
  refine ha H0 P G env σ H _ hp ok (ans.bind.mono (fun b hb G1 H1 x g1 ok1 rx => ?_) fun _ h => h)
  obtain ⟨d, e, qq⟩ := ans_lift hb
  obtain ⟨b1, b2⟩ := b
  cases rx <;> first | (cases e; done) | skip
  rename_i l xs ds h r
  obtain ⟨ps, hps, rfl⟩ := Option.map_eq_some_iff.mp (show (psOfL ds).map (fun ps => PyData.list ((Hz.sortPS ps).map isD2)) = some d from e)
  rw [psOfL_eq hps] at r
  obtain ⟨ts, rfl, rfl, ht⟩ := rows_ofS r
  refine ⟨l, ts, rfl, SqL.of (ok1.sub _ _ h), fun t m => Same.sqT ok1.sub (ht t m).1, fun us p pu hs np => ?_⟩
  have hsort : us.map (·.2) = Hz.sortPS (ts.map (·.2)) := sortedPS_uniq ((pu.map _).trans (sortPS_perm _).symm) hs (sortPS_sorted _)
  refine qq G1 H1 p _ g1 ok1 np ⟨ok1.sub.free np, .inl ⟨_, _, rfl, upd_same, ?_⟩⟩
  rw [← hsort]
  have hu : ∀ t ∈ us, Rp K G1 (.ref t.1) (isD2 t.2) := fun t m => (ht t (pu.mem_iff.mp m)).2
  clear hsort hs pu
  induction us with
  | nil => exact .nil
  | cons t us ih => exact .cons (hu t List.mem_cons_self) (ih fun u m => hu u (List.mem_cons_of_mem _ m))
end
/-! texts -/
def sortT (l : List Str) : List Str := (sortPS (l.map fun x => (0, x))).map (·.2)
theorem sortT_perm (l : List Str) : (sortT l).Perm l := by
  have := (sortPS_perm (l.map fun x => ((0 : Int), x))).map (·.2)
  rw [List.map_map] at this
  have e : l.map ((·.2) ∘ fun x => ((0 : Int), x)) = l := List.map_id _
  rw [e] at this
  exact this
theorem cps_lt : ∀ a b : List Nat, ltCps a b = decide (a < b)
  | [], [] => by simp [ltCps]
  | [], b :: bs => by simp [ltCps]
  | a :: as, [] => by simp [ltCps]
  | a :: as, b :: bs => by
    rw [ltCps, cps_lt as bs]
    rcases Nat.lt_trichotomy a b with z | z | z
    · simp [z, List.cons_lt_cons_iff]
    · subst z
      simp [List.cons_lt_cons_iff]
    · have h1 : ¬ a < b := by omega
      have h2 : ¬ a = b := by omega
      simp [h1, h2, List.cons_lt_cons_iff]
theorem leS_0 (x y : Str) : leS (0, x) (0, y) = !ltCps y.cps.toList x.cps.toList := by
  unfold leS ltK kOf
  show (!PyProof.Rows.lexLt PyProof.Rows.itemOrd [.inl 0, .inr y.cps.toList] [.inl 0, .inr x.cps.toList]) = _
  rw [PyProof.Rows.lex_self, PyProof.Rows.lex_cons, cps_lt]
  refine congrArg not ?_
  show (decide (y.cps.toList < x.cps.toList) || (!decide (x.cps.toList < y.cps.toList) && false)) = _
  simp
theorem risingS_pw : ∀ (l : List Str) (p : Str), risingS p l = true → ((p :: l).map fun x => ((0 : Int), x)).Pairwise (fun a b => leS a b = true)
  | [], p, _ => List.pairwise_singleton _ _
  | x :: l, p, h => by
    have h1 : leS (0, p) (0, x) = true ∧ risingS x l = true := by
      rw [leS_0]
      simpa [risingS] using h
    have ih := risingS_pw l x h1.2
    refine List.pairwise_cons.mpr ⟨fun b hb => ?_, ih⟩
    rcases List.mem_cons.mp hb with rfl | hb
    · exact h1.1
    · exact leS_trans h1.1 ((List.pairwise_cons.mp ih).1 b hb)
theorem sortedS_pw {l : List Str} (h : sortedS l = true) : (l.map fun x => ((0 : Int), x)).Pairwise (fun a b => leS a b = true) := by
  cases l with
  | nil => exact List.Pairwise.nil
  | cons x l => exact risingS_pw l x h
theorem sortT_uniq {l m : List Str} (h : sortedS l = true) (p : l.Perm m) : l = sortT m := by
  have := sortedPS_uniq ((p.map fun x => ((0 : Int), x)).trans (sortPS_perm _).symm) (sortedS_pw h) (sortPS_sorted _)
  unfold sortT
  rw [← this, List.map_map]
  exact (List.map_id _).symm
def sortedTxD : D → Option D
  | .list ds => (strsOf ds).bind fun ss => if ss.length < 64 then some (.list ((sortT ss).map PyData.str)) else none
  | _ => none
section
variable {K : PySem.W.Frag} {tw own : List Nat} {W : WX} {cl : Nat → Addr}
theorem EvN.sortTx {ta : TE} {fa : Env → R (D × Env)} (ha : EvI K tw own W cl ta fa) : EvN K tw own W cl (tCB (rSortedS K) (tCons ta tNil)) (op1 sortedTxD fa) := fun H0 P G env σ H Q hp ok ans => by
  refine ha H0 P G env σ H _ hp ok (ans.bind.mono (fun b hb G1 H1 x g1 ok1 rx => ?_) fun _ h => h)
  obtain ⟨d, e, qq⟩ := ans_lift hb
  obtain ⟨b1, b2⟩ := b
  cases rx <;> first | (cases e; done) | skip
  rename_i l xs ds h r
  obtain ⟨ss, hss, e⟩ := Option.bind_eq_some_iff.mp (show (strsOf ds).bind (fun ss => if ss.length < 64 then some (PyData.list ((sortT ss).map PyData.str)) else none) = some d from e)
  split at e
  · rename_i hlen
    cases e
    rw [strsOf_eq hss] at r
    have hx := RpA.strs r
    subst hx
    refine ⟨l, ss, rfl, SqL.of (ok1.sub _ _ h), hlen, fun ys p py hy np => ?_⟩
    rw [sortT_uniq hy py]
    exact qq G1 H1 p _ g1 ok1 np ⟨ok1.sub.free np, .inl ⟨_, _, rfl, upd_same, RpA.of_strs _⟩⟩
  · cases e
end
section
variable {X : Cx} {tw own : List Nat} {W : WX} {cl : Nat → Addr} {a : Expr} {p pos : Pos} {ta : TE} {fa : Env → R (D × Env)}
theorem dn_sortedPS (hms : X.mg "sorted" = none) (ha : DI X tw own W cl a ta fa) (hg : Gl X "sorted" := by rfl)
    (na : starEach [a] X.env = (false, eval a X.env) :: starEach [] X.env := by rfl) (h2 : (backTo pos (starEach [] X.env)).any (·.1) = false := by rfl) :
    DN X tw own W cl (.Call (.Name "sorted" p) [a] [] pos) (tCB (rSortedPS X.K) (tCons ta tNil)) (op1 sortedPSD fa) :=
  ⟨pe_callB cr_sortedPS hg hms boot_sorted (pa_cons ha.pe pa_nil na) (by decide) (by decide) na h2, EvN.sortPS ha.ev⟩
theorem dn_sortedTx (hms : X.mg "sorted" = none) (ha : DI X tw own W cl a ta fa) (hg : Gl X "sorted" := by rfl)
    (na : starEach [a] X.env = (false, eval a X.env) :: starEach [] X.env := by rfl) (h2 : (backTo pos (starEach [] X.env)).any (·.1) = false := by rfl) :
    DN X tw own W cl (.Call (.Name "sorted" p) [a] [] pos) (tCB (rSortedS X.K) (tCons ta tNil)) (op1 sortedTxD fa) :=
  ⟨pe_callB cr_sortedS hg hms boot_sorted (pa_cons ha.pe pa_nil na) (by decide) (by decide) na h2, EvN.sortTx ha.ev⟩
end
end Hz

/-! sorted(set(list of texts)) -/
namespace Hz
open PySem PySem.Spec PyProof.Rows L2 PySem.Froz
section
variable {P : Program} {w : World} {A : Around} {E : Value → Shared → Prop} {s : Shared}
def TxR (P : Program) (w : World) (D : SD) (l : List Str) : Prop := TxOk P w D l ∧ L2.Ris D.2.2.place.toList ∧ (w.params.followText "set-order" = true ∨ D.2.2.led = true)
theorem nilR : TxR P w (#[], 0, .fresh 0 0 (!w.params.followText "set-order")) [] := ⟨TxOk.nil (by rfl), List.Pairwise.nil, by
  show _ ∨ (!w.params.followText "set-order") = true
  cases w.params.followText "set-order"
  · exact .inr rfl
  · exact .inl rfl⟩
theorem tailR {ep : Nat} {es1 : Array (Int × Value)} {t2 : SetTable} {wasDummy : Bool} (r : L2.Ris t2.place.toList) (h : w.params.followText "set-order" = true ∨ t2.led = true) :
    L2.Ris (tailTx ep es1 t2 wasDummy).2.2.place.toList ∧ (w.params.followText "set-order" = true ∨ (tailTx ep es1 t2 wasDummy).2.2.led = true) := by
  unfold tailTx
  by_cases c : (!wasDummy && t2.tooFull) = true
  · rw [if_pos c]
    refine ⟨relayAll_ris .., h.imp id fun z => ?_⟩
    show (relayAll t2 es1 (SetTable.grown es1.size)).2.1.led = true
    rw [relayAll_led]
    exact z
  · rw [if_neg c]
    exact ⟨r, h⟩
theorem addR {D : SD} {l : List Str} {k : Str} (u : Tok) (F : TxR P w D l) : TxR P w (addTx (hashStr w k) (.str k u) D) (k :: l) := by
  refine ⟨add_ok u F.1, ?_⟩
  unfold addTx
  refine tailR ?_ ?_
  · have := layNew_ris D.2.2 D.1 (hashStr w k) (.str k u) F.2.1
    split
    · exact this
    · exact this
  · refine F.2.2.imp id fun z => ?_
    have := layNew_led D.2.2 D.1 (hashStr w k) (.str k u)
    rw [z] at this
    split
    · exact this
    · exact this
theorem set_update_txR {I : Addr} {fp wr : List Addr} {G : Array GenState → Array GenState → Prop} {n : Nat} {Pv : Nat → Value → Prop} {St : Nat → Shared → Prop} {R : Result → Shared → Prop}
    (W : WalksS P w A.in1 I fp wr G n Pv St) (S : Addr) (hSf : S ∉ fp) (xs : List Str) (hn : n = xs.length) (hb : xs.length + 2 < scanBound) (hval : ∀ i v, Pv i v → ∃ k t, xs[i]? = some k ∧ v = .str k t) :
    ∀ (k i : Nat) (s : Shared), n - i = k → i ≤ n → St i s → (∃ D, s.heap.get? S = some (sObj "set" D) ∧ TxR P w D (ddL (xs.take i))) →
      (∀ s' D, Moved (S :: wr) G s s' → s'.heap.get? S = some (sObj "set" D) → TxR P w D (ddL xs) → R (.ok (.ret .none)) s') →
      codeAny (model P w) A (.builtin "set.update.loop" ⟨[.ref S, .ref I], []⟩) R s := by
  have hSw : S ∉ wr := fun h => hSf (W.sub _ h)
  have hsub : ∀ b ∈ wr, b ∈ S :: wr := fun b hb => List.mem_cons_of_mem _ hb
  intro k
  induction k with
  | zero =>
    intro i s hk' hi hst ⟨D, hS, F⟩ hR
    have hin : i = n := by omega
    subst hin
    refine codeAny_builtin _root_.PyProof.Rows.F.entry_set_update_loop ?_
    rw [Around.under_plainId _root_.PyProof.Rows.F.plain_set_update_loop _]
    show wpAny _ A.in1 (pyNext (.ref I) >>= _) _ _ s
    refine wpAny_bind (W.done s _ _ hst fun s' hm => ?_)
    show wpAny _ A.in1 (ret Value.none) _ _ s'
    have e : xs.take i = xs := List.take_of_length_le (by omega)
    rw [e] at F
    exact wpAny_pure (hR s' D (hm.mono hsub) (hm.heap S _ hSw hS) F)
  | succ k ih =>
    intro i s hk' hi hst ⟨D, hS, F⟩ hR
    have hlt : i < n := by omega
    refine codeAny_builtin _root_.PyProof.Rows.F.entry_set_update_loop ?_
    rw [Around.under_plainId _root_.PyProof.Rows.F.plain_set_update_loop _]
    show wpAny _ A.in1 (pyNext (.ref I) >>= _) _ _ s
    refine wpAny_bind (W.item i s _ _ hlt hst fun v s' hP hst' hm => ?_)
    obtain ⟨z, t, hz, rfl⟩ := hval i v hP
    have hS' : s'.heap.get? S = some (sObj "set" D) := hm.heap S _ hSw hS
    have hlen : (ddL (xs.take i)).length + 1 < scanBound := by
      have h1 := ddL_len (xs.take i) []
      rw [List.length_take, List.length_nil] at h1
      unfold ddL
      omega
    have hst1 : ddL (xs.take (i + 1)) = ddS (ddL (xs.take i)) z := by
      rw [List.take_add_one, hz]
      unfold ddL
      rw [List.foldl_append]
      rfl
    show wpAny _ A.in1 (holding [Value.str z t] (setAdd S (.str z t)) >>= _) _ _ s'
    refine wpAny_bind (wpAny_holding ?_)
    unfold setAdd
    refine wpAny_holding ?_
    refine wpAny_bind ((strKind P w).pyHash (k := z) (is_str z t) ?_)
    by_cases hm2 : z ∈ ddL (xs.take i)
    · refine add_old (s := { s' with toks := s'.toks + 1 }) hS' F.1 hm2 hlen ?_
      have F2 : TxR P w D (ddL (xs.take (i + 1))) := by
        rw [hst1]
        unfold ddS
        rw [if_pos hm2]
        exact F
      refine wpAny_pure ⟨plainId_quiet _root_.PyProof.Rows.F.plain_set_update_loop _, ih (i + 1) _ (by omega) hlt (W.frame _ s' _ _ hst' (Nat.le_succ _) fun b hb o e => e) ⟨D, hS', F2⟩ fun s'' D2 hm'' hS'' F'' => ?_⟩
      exact hR s'' D2 (Moved.trans W.gtrans ((hm.mono hsub).then_heap (Nat.le_succ _) fun b o hb e => e) hm'') hS'' F''
    · refine add_x (s := { s' with toks := s'.toks + 1 }) hS' F.1 hm2 hlen ?_
      have F2 : TxR P w (addTx (hashStr w z) (.str z t) D) (ddL (xs.take (i + 1))) := by
        rw [hst1]
        unfold ddS
        rw [if_neg hm2]
        exact addR t F
      have hsb : Heap.SameBut S s'.heap (s'.heap.update S (fun _ => sObj "set" (addTx (hashStr w z) (.str z t) D))) := Heap.SameBut.update ..
      have hget : (s'.heap.update S (fun _ => sObj "set" (addTx (hashStr w z) (.str z t) D))).get? S = some (sObj "set" (addTx (hashStr w z) (.str z t) D)) := get_upd _ hS' rfl
      refine wpAny_pure ⟨plainId_quiet _root_.PyProof.Rows.F.plain_set_update_loop _, ih (i + 1) _ (by omega) hlt (W.frame _ s' _ _ hst' (Nat.le_succ _) fun b hb o e => ?_) ⟨_, hget, F2⟩ fun s'' D2 hm'' hS'' F'' => ?_⟩
      · rw [hsb.2 b (fun h : b = S => hSf (by rw [← h]; exact hb))]; exact e
      · refine hR s'' D2 (Moved.trans W.gtrans ((hm.mono hsub).then_heap (Nat.le_succ _) fun b o hb e => ?_) hm'') hS'' F''
        rw [hsb.2 b (fun h : b = S => hb (by rw [h]; exact List.mem_cons_self))]; exact e
theorem call_set_lstTx {l : Addr} {items : Array Value} (ks : List Str) {Q : Value → Shared → Prop} (hh : A.handled = none) (hl : s.heap.IsList l items) (hit : StrsAre items.toList ks) (hfew : ks.length < 1000)
    (h : ∀ (h' : Heap) (tk : Nat) D, h'.get? s.heap.objs.size = some (sObj "set" D) → TxR P w D (ddL ks) → (∀ b o, s.heap.get? b = some o → h'.get? b = some o) → Q (.ref s.heap.objs.size) { s with heap := h', toks := tk }) :
    wpAny (model P w) A (call (.type "set") [.ref l]) Q E s := by
  have hisz : items.size = ks.length := by
    rw [← Array.length_toList]
    exact hit.length
  obtain ⟨c, tl, hmro⟩ := F.called_set.mro
  have hmade := F.called_set.made
  have hsub := F.called_set.sub
  refine wpAny_call (codeAny_of_tree ?_)
  show wpAny _ _ (callAny (.type "set") _) _ _ _
  refine wpAny_pure ⟨Code.quiet_builtin _ (by decide +kernel), codeAny_builtin F.entry_type_call ?_⟩
  rw [Around.under_plain (weight_type_call_type "set" [.ref l] []) rfl]
  have h1 := F.called_set.notType
  have h2 := F.called_set.canCreate
  have hct := F.typeCall_set_1 (.ref l)
  repeat (any_goals (first | assumption | wp_step))

  refine codeAny_mono (code_set_led1 (.ref l) (E := E) (Q₁ := fun obj s₁ => obj = .ref s.heap.objs.size ∧ s₁ = { s with heap := s.heap.push { cls := .type "set", dict := none, data := .set #[] 0 (.fresh 0 0 (!w.params.followText "set-order")) } }) ⟨rfl, rfl⟩) fun r s₁ hr => ?_
  cases r with
  | error e => exact hr
  | ok fl =>
    cases fl with
    | ret obj =>
      obtain ⟨rfl, rfl⟩ := hr
      have hS : (s.heap.push { cls := .type "set", dict := none, data := .set #[] 0 (.fresh 0 0 (!w.params.followText "set-order")) }).get? s.heap.objs.size = some { cls := .type "set", dict := none, data := .set #[] 0 (.fresh 0 0 (!w.params.followText "set-order")) } := Heap.get?_push_size _ rfl
      have hT : Shared.TypeIs { s with heap := s.heap.push { cls := .type "set", dict := none, data := .set #[] 0 (.fresh 0 0 (!w.params.followText "set-order")) } } (.ref s.heap.objs.size) "set" := ⟨_, hS, rfl⟩
      have hli := F.called_set.init.lookup
      have hbi := F.called_set.init.bind (.ref s.heap.objs.size)
      repeat (any_goals (first | assumption | wp_step))

      refine codeAny_mono (codeAny_call_builtin (R := wants (fun r s₂ => r = .none ∧ ∃ h' tk D, s₂ = { s with heap := h', toks := tk } ∧ h'.get? s.heap.objs.size = some (sObj "set" D) ∧ TxR P w D (ddL ks) ∧
          (∀ b o, s.heap.get? b = some o → h'.get? b = some o)) E) F.called_set.init.plain F.entry_set_init (check_set_init_1 hT ?_)) fun r₂ s₂ hr₂ => ?_
      · obtain ⟨ol, hol, hcl, nl, hdl⟩ := hl
        obtain ⟨ocls, odict, odata, oslots⟩ := ol
        simp only at hcl hdl
        subst hcl; subst hdl
        have hol' : (s.heap.push { cls := .type "set", dict := none, data := .set #[] 0 (.fresh 0 0 (!w.params.followText "set-order")) }).get? l = some { cls := .type "list", dict := odict, data := .seq items nl, slots := oslots } := Heap.get?_push_of_some _ hol
        have hsls := F.sub_list_set
        have hslf := F.sub_list_frozenset
        have hne : (Value.type "list" == Value.type "dict") = false := by decide
        have hl1 : (s.heap.push { cls := .type "set", dict := none, data := .set #[] 0 (.fresh 0 0 (!w.params.followText "set-order")) }).IsList l items := ⟨_, hol', rfl, nl, rfl⟩
        unfold Builtin.«set.__init__» noKeywords Builtin.Frozenset.updateFrom
        generalize hPI : pyIter = PI
        wp_walk
        subst hPI

        refine wpAny_pyIter_list hl1 ?_
        refine wpAny_bind (wpAny_runValue ?_)
        have hlS : l < s.heap.objs.size := Heap.lt_size hol
        have hh3 : A.in1.in1.in1.handled = none := by simp [hh]
        have hz1 : (s.heap.push { cls := .type "set", dict := none, data := .set #[] 0 (.fresh 0 0 (!w.params.followText "set-order")) }).objs.size = s.heap.objs.size + 1 := Heap.size_push ..
        have hneI : l ≠ (s.heap.push { cls := .type "set", dict := none, data := .set #[] 0 (.fresh 0 0 (!w.params.followText "set-order")) }).objs.size := by
          rw [Heap.size_push]; exact Nat.ne_of_lt (Nat.lt_succ_of_lt hlS)
        have hSf : s.heap.objs.size ∉ [(s.heap.push { cls := .type "set", dict := none, data := .set #[] 0 (.fresh 0 0 (!w.params.followText "set-order")) }).objs.size, l] := by
          rw [Heap.size_push]; simp only [List.mem_cons, List.mem_singleton, List.not_mem_nil, or_false, not_or]
          exact ⟨Nat.ne_of_lt (Nat.lt_succ_self _), Nat.ne_of_gt hlS⟩
        have hval : ∀ (i : Nat) (v : Value), items[i]? = some v → ∃ k t, ks[i]? = some k ∧ v = .str k t := fun i v hv => by
          have q : items.toList[i]? = some v := by rw [Array.getElem?_toList]; exact hv
          exact strs_get hit q
        refine set_update_txR ((Walks.list hh3 _ l hneI items).toS) s.heap.objs.size
          hSf ks hisz (by unfold scanBound; omega) hval (items.size - 0) 0 _ (by omega) (Nat.zero_le _)
          ⟨⟨_, Heap.get?_push_size _ rfl, rfl, rfl⟩, (hl1.push _)⟩ ?hS0 ?hR
        case hS0 =>
          have hget : ((s.heap.push { cls := .type "set", dict := none, data := .set #[] 0 (.fresh 0 0 (!w.params.followText "set-order")) }).push { cls := .type "list_iterator", data := .fields #[.ref l, .int 0 0] }).get? s.heap.objs.size
              = some { cls := .type "set", dict := none, data := .set #[] 0 (.fresh 0 0 (!w.params.followText "set-order")) } := Heap.get?_push_of_some _ hS
          exact ⟨(#[], 0, .fresh 0 0 (!w.params.followText "set-order")), hget, nilR⟩
        case hR =>
          intro s' D hm hS' g'
          obtain ⟨h', g2, d', tk', os'⟩ := s'
          have eg : g2 = s.gens := hm.gens
          have ed : d' = s.drawn := hm.drawn
          have eo : os' = s.os := hm.os
          subst eg; subst ed; subst eo
          show wpAny _ _ _ _ _ _
          refine wpAny_pure ?_
          show wpAny _ _ (ret Value.none) _ _ _
          refine wpAny_pure ⟨rfl, h', tk', D, rfl, hS', g', fun b o e => ?_⟩
          have hb0 : b < s.heap.objs.size := Heap.lt_size e
          have hb1 : b ≠ s.heap.objs.size := Nat.ne_of_lt hb0
          have hb2 : b ≠ (s.heap.push { cls := .type "set", dict := none, data := .set #[] 0 (.fresh 0 0 (!w.params.followText "set-order")) }).objs.size := by
            rw [Heap.size_push]; exact Nat.ne_of_lt (Nat.lt_succ_of_lt hb0)
          exact hm.heap b o (by simp only [List.mem_cons, List.mem_singleton, List.not_mem_nil, or_false, not_or]; exact ⟨hb1, hb2⟩) (Heap.get?_push_of_some _ (Heap.get?_push_of_some _ e))

      · cases r₂ with
        | error e => exact hr₂
        | ok fl₂ =>
          cases fl₂ with
          | ret r =>
            obtain ⟨rfl, h', tk, D, rfl, hS', g', hk'⟩ := hr₂
            repeat (any_goals (first | assumption | wp_step))
            exact h _ _ _ hS' g' hk'
          | _ => exact hr₂.elim
    | _ => exact hr.elim

end

theorem ddS_ndX {l : List Str} {x : Str} (h : l.Nodup) : (ddS l x).Nodup := by
  unfold ddS
  split
  · exact h
  · rename_i z
    exact List.nodup_cons.mpr ⟨z, h⟩
theorem ddS_memX {l : List Str} {x y : Str} : y ∈ ddS l x ↔ y ∈ l ∨ y = x := by
  unfold ddS
  split
  · rename_i z
    exact ⟨.inl, fun h => h.elim id fun e => e ▸ z⟩
  · rw [List.mem_cons]
    exact Or.comm
theorem ddFX : ∀ (xs l : List Str), l.Nodup → (xs.foldl ddS l).Nodup ∧ ∀ y, y ∈ xs.foldl ddS l ↔ y ∈ l ∨ y ∈ xs
  | [], l, h => ⟨h, fun y => by simp⟩
  | x :: xs, l, h => by
    obtain ⟨h1, h2⟩ := ddFX xs (ddS l x) (ddS_ndX h)
    refine ⟨h1, fun y => ?_⟩
    rw [List.foldl_cons, h2 y, ddS_memX, List.mem_cons, or_assoc]
theorem ddL_ndX (xs : List Str) : (ddL xs).Nodup := (ddFX xs [] List.nodup_nil).1
theorem ddL_memX (xs : List Str) (y : Str) : y ∈ ddL xs ↔ y ∈ xs := by
  rw [show ddL xs = xs.foldl ddS [] from rfl, (ddFX xs [] List.nodup_nil).2 y]
  simp
theorem perm_subX : ∀ {l m : List Str}, l.Nodup → (∀ x ∈ l, x ∈ m) → m.length ≤ l.length → m.Perm l
  | [], m, _, _, h => by
    have : m = [] := List.eq_nil_of_length_eq_zero (by simpa using h)
    rw [this]
  | x :: l, m, nd, h, hl => by
    obtain ⟨n1, n2⟩ := List.nodup_cons.mp nd
    have hx := h x (List.mem_cons_self ..)
    refine (List.perm_cons_erase hx).trans (List.Perm.cons x (perm_subX n2 (fun y hy => ?_) ?_))
    · exact (List.mem_erase_of_ne (fun e => n1 (by rw [← e]; exact hy))).mpr (h y (List.mem_cons_of_mem _ hy))
    · rw [List.length_erase_of_mem hx]
      rw [List.length_cons] at hl
      omega
/-! sorting of texts in place -/
def ltX (v u : Value) : Bool := PyProof.Rows.strKind.blt (PyProof.Rows.strOf v).cps.toList (PyProof.Rows.strOf u).cps.toList
theorem swo_X : SrtO.Swo ltX := ⟨fun x y => (swo_ord PyProof.Rows.strKind.toKeyOrd).asym _ _, fun x y z => (swo_ord PyProof.Rows.strKind.toKeyOrd).tr _ _ _⟩
section
variable {P : Program} {w : World} {A : Around} {E : Value → Shared → Prop} {s : Shared}
theorem tx_sortable {a : Addr} {vs : List Value} {ss : List Str} (hS : StrsAre vs ss) (h2 : 2 ≤ vs.length) : SrtO.SortableO P w A s a vs ltX := by
  intro h' _
  refine ⟨oneType', fun Q E hq => ?_, fun p q hm hm' => ?_⟩
  · match vs, hS, h2 with
    | v1 :: v2 :: rest, hS, _ =>
      rw [keyKind_strs hS]
      exact wpAny_pure hq
    | [], _, h => exact absurd h (by decide)
    | [v], _, h => exact absurd h (by simp)
  · obtain ⟨x, t, e⟩ := hS.all _ hm
    obtain ⟨y, u, e'⟩ := hS.all _ hm'
    show wpAny (model P w) A (keyLt' oneType' p.1 q.1) (fun r s' => s' = _ ∧ r = ltX p.1 q.1) (fun _ _ => False) _
    rw [e, e', keyLt'_oneType]
    exact PyProof.Rows.oneLt_any_str ⟨rfl, rfl⟩
theorem sorted_setTx {a : Addr} {D : SD} {l : List Str} {Q : Value → Shared → Prop} (ho : s.heap.get? a = some (sObj "set" D)) (R : TxR P w D l) (nd : l.Nodup) (hh : A.handled = none) (h64 : l.length < 64)
    (hQ : ∀ s' p (out : Array Value) (c : Nat), (∀ b o, s.heap.get? b = some o → s'.heap.get? b = some o) → s'.gens = s.gens → s'.os = s.os → s.heap.objs.size ≤ p →
      s'.heap.get? p = some (seqObj "list" out c) → StrsAre out.toList (sortT l) → Q (.ref p) s') :
    wpAny (model P w) A (call (.builtin "sorted") [.ref a]) Q E s := by
  obtain ⟨F, ris, led⟩ := R
  refine Calls.call_function_entry kind_sorted plain_sorted entry_sorted (args_sorted1 _) ?_
  unfold Builtin.«sorted»
  refine wpAny_bind (m := checkCount "sorted" 1 1 _) (wpAny_pure ?_)
  refine wpAny_bind (collect_set (A := A.in1) (es := D.1) (ep := D.2.1) (t := D.2.2) hh ⟨_, ho, rfl, rfl⟩ F.fit (by rw [F.sz]; unfold scanBound; omega) ris led fun s1 vs k1 hz g1 o1 pm => ?_)
  have hvl : vs.length = l.length := by rw [pm.length_eq, List.length_map, Array.length_toList]; exact F.sz
  have hall : ∀ v, v ∈ vs → ∃ x t, v = .str x t := fun v hv => by
    obtain ⟨e, he, q⟩ := List.mem_map.mp (pm.mem_iff.mp hv)
    obtain ⟨⟨k, hk, _⟩, _⟩ := F.el e he
    obtain ⟨t, ht⟩ := PySem.Value.isStrOf_shape hk
    exact ⟨k, t, by rw [← q, ht]⟩
  have hS := strsAre_map vs hall
  have pl : (vs.map PyProof.Rows.strOf).Perm l := by
    refine perm_subX nd (fun x hx => ?_) (by rw [List.length_map]; omega)
    obtain ⟨e, he, hk⟩ := (F.mem x).mp hx
    refine List.mem_map.mpr ⟨e.2, pm.mem_iff.mpr (List.mem_map.mpr ⟨e, he, rfl⟩), ?_⟩
    obtain ⟨t, ht⟩ := PySem.Value.isStrOf_shape hk
    rw [ht]
    rfl
  refine wpAny_bind (wpAny_newList ?_ (by rw [hvl, sizeLine_eq]; omega))
  have hoL : (s1.heap.push (seqObj "list" vs.toArray 0)).get? s1.heap.objs.size = some (seqObj "list" vs.toArray 0) := Heap.get?_push_size _ rfl
  refine wpAny_bind (wpAny_holding (wpAny_call_entry slot_list_sort ⟨_, hoL, rfl⟩ entry_list_sort (SrtO.list_sort_ord swo_X hoL (by rw [hvl, sizeLine_eq]; omega) (fun h2 => tx_sortable hS h2) fun out a1 a2 => ⟨_, rfl, ?_⟩) (args_list_sort _)))
  obtain ⟨c, hc⟩ := sortedHeap_at (vs := vs) (out := out.toArray) hoL
  have hS2 := strsAre_map out fun v hv => hall v (a2.perm.mem_iff.mp hv)
  have es : out.map PyProof.Rows.strOf = sortT l := by
    have p1 : (out.map PyProof.Rows.strOf).Perm l := (a2.perm.map _).trans pl
    have h1 : ((out.map PyProof.Rows.strOf).map fun x => ((0 : Int), x)).Pairwise (fun a b => leS a b = true) := by
      rw [List.map_map, List.pairwise_map]
      refine List.Pairwise.imp (fun {x y} h => ?_) a1
      show leS (0, PyProof.Rows.strOf x) (0, PyProof.Rows.strOf y) = true
      rw [leS_0, cps_lt]
      have h : decide ((PyProof.Rows.strOf y).cps.toList < (PyProof.Rows.strOf x).cps.toList) = false := h
      rw [h]
      rfl
    have h2 := sortedPS_uniq ((p1.map fun x => ((0 : Int), x)).trans (sortPS_perm _).symm) h1 (sortPS_sorted _)
    unfold sortT
    rw [← h2, List.map_map]
    exact (List.map_id _).symm
  rw [es] at hS2
  refine wpAny_pure ⟨_, rfl, hQ _ s1.heap.objs.size out.toArray c (fun b u e => ?_) g1 o1 hz hc (by simpa using hS2)⟩
  have q := k1 b u e
  have hlt := Heap.lt_size q
  show (sortedHeap (s1.heap.push (seqObj "list" vs.toArray 0)) s1.heap.objs.size vs out.toArray).get? b = some u
  rw [sortedHeap_old (Nat.ne_of_lt hlt) (by rw [size_push']; exact Nat.lt_succ_of_lt hlt)]
  exact Heap.get?_push_of_some _ q
end
/-! as rules -/
def SetXO (P : Program) (w : World) (a : Addr) (l : List Str) : HO := .ext fun h => ∃ D, h.get? a = some (sObj "set" D) ∧ TxR P w D l
theorem setXO_new {P : Program} {w : World} {H : Hp} {h : Heap} {a : Addr} {l : List Str} {D : SD} (ho : h.get? a = some (sObj "set" D)) (R : TxR P w D l) : ObjOk P w H h a (SetXO P w a l) := by
  refine ⟨⟨D, ho, R⟩, ⟨_, ho⟩, fun h1 h2 p k => ?_⟩
  obtain ⟨D', ho', R'⟩ := p
  exact ⟨D', k _ ho', R'⟩
section
variable {X : Cx}
def rSetLX (K : PySem.W.Frag) (P : Program) (w : World) : List V → Hp → VK → Prop := fun xs H Q => ∃ p, ∃ ss : List Str, xs = [.ref p] ∧ SqL K H p (ss.map V.str) ∧ ss.length < 64 ∧ ∀ a, H a = none → Q (.ref a) (upd H a (SetXO P w a (ddL ss)))
theorem cr_setLX (hc : X.calm = true) : CallR X (.type "set") (rSetLX X.K X.prog X.w) := by
  intro pins s σ H xs us Q I r h
  obtain ⟨p, ss, rfl, hq, hl, q⟩ := h
  rw [Vals.ref1 r]
  obtain ⟨its, r', pl, hz⟩ := I.list hq
  refine call_set_lstTx (P := X.prog) (w := X.w) ss (I.ok.hd hc) pl.isList (by simpa using strsAre_of r') (by omega) fun h' tk D ho R hk => ?_
  exact ⟨.ref _, upd H s.heap.objs.size (SetXO X.prog X.w s.heap.objs.size (ddL ss)), I.laid (t' := tk) hk (Nat.le_refl _) (setXO_new ho R), rfl, q _ (I.hok.fresh (Nat.le_refl _))⟩
def rSortedSX (P : Program) (w : World) : List V → Hp → VK → Prop := fun vs H Q => ∃ (a : Addr) (l : List Str), vs = [V.ref a] ∧ H a = some (SetXO P w a l) ∧ l.Nodup ∧ l.length < 64 ∧ ∀ p, H p = none → Q (.ref p) (upd H p (.lst ((sortT l).map V.str)))
theorem cr_sortedSX (hc : X.calm = true) : CallR X (.builtin "sorted") (rSortedSX X.prog X.w) := by
  intro pins s σ H vs us Q I r h
  obtain ⟨a, l, rfl, ha, nd, h64, q⟩ := h
  obtain ⟨D, ho, R⟩ := (I.hok a _ ha).1
  rw [Vals.ref1 r]
  refine sorted_setTx ho R nd (I.ok.hd hc) h64 fun s' p out c k g o hp hg hS => ?_
  have hlen : ((sortT l).map V.str).length ≤ sizeLine := by rw [List.length_map, (sortT_perm l).length_eq, sizeLine_eq]; omega
  have hn : H p = none := I.hok.fresh hp
  have J : Inv X pins σ (upd H p (.lst ((sortT l).map V.str))) { s with heap := s'.heap, gens := s'.gens, drawn := s'.drawn, toks := s'.toks } :=
    I.call (ch := []) (Un.laid k hp hn) (I.hok.laid k hp ⟨hlen, out.toList, c, vals_of_strs hS, hg⟩) (by rw [g]; exact I.bare) (fun _ z => nomatch z)
  have e : s' = { s with heap := s'.heap, gens := s'.gens, drawn := s'.drawn, toks := s'.toks } := by
    cases s'
    cases s
    cases o
    rfl
  rw [e]
  exact ⟨.ref p, _, J, rfl, q p hn⟩
variable {tw : List Nat} {own : List Nat} {W : WX} {cl : Nat → Addr} {a : Expr} {p p2 q pos : Pos} {ta : TE} {fa : Env → R (D × Env)}
def sortedSetX : D → Option D
  | .list ds => (strsOf ds).bind fun ss => if ss.length < 64 then some (.list ((sortT (ddL ss)).map PyData.str)) else none
  | _ => none
def tSortedSetX (X : Cx) (ta : TE) : TE := tCB (rSortedSX X.prog X.w) (tCons (tCB (rSetLX X.K X.prog X.w) (tCons ta tNil)) tNil)
theorem EvN.sortSetX (ha : EvI X.K tw own W cl ta fa) : EvN X.K tw own W cl (tSortedSetX X ta) (op1 sortedSetX fa) := fun H0 P G env σ H Q hp ok ans => by
  refine ha H0 P G env σ H _ hp ok (ans.bind.mono (fun b hb G1 H1 x g1 ok1 rx => ?_) fun _ h => h)
  obtain ⟨d, e, qq⟩ := ans_lift hb
  obtain ⟨b1, b2⟩ := b
  cases rx <;> first | (cases e; done) | skip
  rename_i l xs ds h r
  obtain ⟨ss, hss, e⟩ := Option.bind_eq_some_iff.mp (show (strsOf ds).bind (fun ss => if ss.length < 64 then some (PyData.list ((sortT (ddL ss)).map PyData.str)) else none) = some d from e)
  split at e
  · rename_i hlen
    cases e
    rw [strsOf_eq hss] at r
    have hx := RpA.strs r
    subst hx
    have goal : rSetLX X.K X.prog X.w [V.ref l] H1 (fun x H2 => rSortedSX X.prog X.w [x] H2 Q) := by
      refine ⟨l, ss, rfl, SqL.of (ok1.sub _ _ h), hlen, fun sa na => ?_⟩
      have gr : Grow G1 H1 G1 (upd H1 sa (SetXO X.prog X.w sa (ddL ss))) := Grow.drop ok1.sub na
      have ok2 := ok1.grow gr
      have hdl := ddL_len ss []
      rw [List.length_nil] at hdl
      refine ⟨sa, ddL ss, rfl, upd_same, ddL_ndX ss, by unfold ddL; omega, fun p' np => ?_⟩
      exact qq G1 _ p' _ g1 ok2 np ⟨ok2.sub.free np, .inl ⟨_, _, rfl, upd_same, RpA.of_strs _⟩⟩
    exact goal
  · cases e
theorem dn_sortedSetX (hms : X.mg "sorted" = none) (hme : X.mg "set" = none) (ha : DI X tw own W cl a ta fa) (hc : X.calm = true := by rfl) (hg : Gl X "sorted" := by rfl) (hg2 : Gl X "set" := by rfl)
    (na : starEach [a] X.env = (false, eval a X.env) :: starEach [] X.env := by rfl) (nb : starEach [.Call (.Name "set" p2) [a] [] q] X.env = (false, eval (.Call (.Name "set" p2) [a] [] q) X.env) :: starEach [] X.env := by rfl)
    (h1 : (backTo q (starEach [] X.env)).any (·.1) = false := by rfl) (h2 : (backTo pos (starEach [] X.env)).any (·.1) = false := by rfl) :
    DN X tw own W cl (.Call (.Name "sorted" p) [.Call (.Name "set" p2) [a] [] q] [] pos) (tSortedSetX X ta) (op1 sortedSetX fa) :=
  ⟨pe_callB (cr_sortedSX hc) hg hms boot_sorted (pa_cons (pe_callTy (cr_setLX hc) hg2 hme boot_set (pa_cons ha.pe pa_nil na) (by decide) (by decide) na h1) pa_nil nb) (by decide) (by decide) nb h2, EvN.sortSetX ha.ev⟩
end
end Hz

/-! list.count of texts, sorted(tuple of texts) -/
namespace Hz
open PySem PySem.Spec PyProof.Rows L2
section
variable {X : Cx}
def eqs (k : Str) (v : Value) : Bool := match v with
  | .str x _ => x == k
  | _ => false
theorem eqs_at {k : Str} {t : Tok} {A : Around} {s : Shared} : ∀ {us : List Value} {ss : List Str}, StrsAre us ss → ∀ y ∈ us, SeqAt.EqAt A s y (.str k t) (eqs k y)
  | _, _, .nil => fun y hy => by cases hy
  | _, _, .cons x t' h => fun y hy => by
    rcases List.mem_cons.mp hy with e | e
    · rw [e]
      exact SeqAt.EqAt.str_str x t' k t
    · exact eqs_at h y e
theorem eqs_count {k : Str} : ∀ {us : List Value} {ss : List Str}, StrsAre us ss → us.countP (eqs k) = ss.count k
  | _, _, .nil => rfl
  | _, _, .cons x t h => by
    have ih := eqs_count (k := k) h
    rw [List.countP_cons, List.count_cons, ih] <;> rfl
def rCntS (K : PySem.W.Frag) : V → List V → Hp → VK → Prop := fun x xs H Q => ∃ (p : Addr) (ss : List Str) (k : Str), x = .ref p ∧ xs = [.str k] ∧ SqL K H p (ss.map V.str) ∧ Q (.int (ss.count k : Nat)) H
theorem mt_countS : MtR X "list.count" (rCntS X.K) := by
  intro pins s σ H x xs v us Q I rx rxs h
  obtain ⟨p, ss, k, rfl, rfl, hs, q⟩ := h
  cases rx
  obtain ⟨u, rfl, ru⟩ := rxs.one
  obtain ⟨t, rfl⟩ := ru
  obtain ⟨its, rv, ⟨⟨cls, dd, data, sl⟩, n, ho, hc, hdn, hd⟩, hlen⟩ := I.list hs
  simp only at hc hd
  subst hc hd
  have hi : StrsAre its ss := strsAre_of rv
  refine call_meets PySem.F.slot_list_count ⟨_, ho, rfl⟩ PySem.F.entry_list_count (PySem.F.args_list_count_2 _ _)
    (SeqAt.list_countAt p its.toArray n dd sl (.str k t) (eqs k)) ⟨ho, fun y hy => eqs_at hi y (by simpa using hy), ?_⟩
  have ec : its.toArray.toList.countP (eqs k) = ss.count k := eqs_count hi
  refine ⟨.int (ss.count k : Nat), H, I.tok _, ⟨s.toks, ?_⟩, q⟩
  show Value.int ((its.toArray.toList.countP (eqs k) : Nat) : Int) s.toks = Value.int ((ss.count k : Nat) : Int) s.toks
  rw [ec]
variable {o e : Expr} {apos cpos : Pos} {to te : TE}
def tLCnt (K : PySem.W.Frag) (to te : TE) : TE := fun σ H Q => to σ H fun x H1 => ∃ p xs, x = .ref p ∧ SqL K H1 p xs ∧ te σ H1 fun y H2 => rCntS K x [y] H2 Q
theorem pe_lcnt (ho : PE X o to) (he : PE X e te) (hbase : attributeBase o "count" X.env (eval o X.env) = eval o X.env := by rfl)
    (hfew : ((backTo cpos (starEach [e] X.env)).all (fun x => !x.1) && (backToKw cpos (keywordEach [] X.env)).all (fun x => x.1.isSome) && decide (([e] : List Expr).length + ([] : List Keyword).length + (if ([] : List Keyword).isEmpty then 0 else 1) < 30)) = true := by rfl)
    (hline : (apos.endLine == cpos.line) = true := by rfl) (hs : starEach [e] X.env = (false, eval e X.env) :: starEach [] X.env := by rfl) (hplain : (backTo cpos (starEach [] X.env)).any (·.1) = false := by rfl) :
    PE X (.Call (.Attribute o "count" apos) [e] [] cpos) (tLCnt X.K to te) := by
  refine ⟨fun pins s σ H Q I h => ?_⟩
  refine wpAny_Call_method_late hbase hfew hline rfl (thn (ho.run pins s σ H _ I h) fun v s1 hx => ?_)
  obtain ⟨x, H1, I1, r1, p, xs, rfl, hq, q1⟩ := hx
  cases r1
  obtain ⟨its, rv, ⟨ob, n, hob, hc, hdn, hd⟩, hlen⟩ := I1.list hq
  refine ⟨"list", "list.count", PySem.F.plainAttrs_list, PySem.F.slot_list_count, PySem.F.type_list_count, ⟨ob, hob, hc⟩, fun a z => by cases z; exact ⟨ob, hob, hdn⟩, ?_⟩
  have hA := (pa_cons he pa_nil hs).run cpos pins s1 σ H1 (fun vs H2 => rCntS X.K (.ref p) vs H2 Q) I1 q1
  rw [hs] at hA ⊢
  refine Calls.callWith_builtin (by show (false || (backTo cpos (starEach [] X.env)).any (·.1)) = false; rw [hplain] <;> rfl) (Calls.evalArgs_plain ?_)
  exact thn hA fun us s2 hx => by
    obtain ⟨vs, H2, I2, r2, q2⟩ := hx
    exact mt_countS pins s2 σ H2 (.ref p) vs (.ref p) us Q I2 rfl r2 q2
end
def lcntD : D → D → Option D
  | .list ds, .str z => (strsOf ds).map fun ys => .int (ys.count z : Nat)
  | _, _ => none
def lcntM (a b : Env → R (D × Env)) : Env → R (D × Env) := fun e => (a e).bind fun x => match x.1 with
  | .list ds => (b x.2).bind fun y => (lift (lcntD x.1 y.1)).bind fun d => .ok (d, y.2)
  | _ => .bad
section
variable {K : PySem.W.Frag} {tw : List Nat} {own : List Nat} {W : WX} {cl : Nat → Addr} {ta tb : TE} {fa fb : Env → R (D × Env)}
theorem EvI.lcnt (ha : EvI K tw own W cl ta fa) (hb : EvI K tw own W cl tb fb) : EvI K tw own W cl (tLCnt K ta tb) (lcntM fa fb) := fun H0 P G env σ H Q hp ok ans => by
  refine ha H0 P G env σ H _ hp ok (ans.bind.mono (fun a ha' G1 H1 x g1 ok1 rx => ?_) fun _ h => h)
  obtain ⟨ad, ae⟩ := a
  cases rx <;> first | exact ha'.elim | skip
  rename_i p xs ds h r
  simp only at ha'
  refine ⟨p, xs, rfl, SqL.of (ok1.sub _ _ h), hb H0 P G1 ae σ H1 _ hp ok1 (ha'.bind.mono (fun b hb' G2 H2 y g2 ok2 ry => ?_) fun _ h => h)⟩
  obtain ⟨d, e, q⟩ := ans_lift hb'
  obtain ⟨bd, be⟩ := b
  cases ry <;> first | (cases e; done) | skip
  rename_i z
  obtain ⟨ys, hys, rfl⟩ := Option.map_eq_some_iff.mp (show (strsOf ds).map (fun ys => PyData.int (ys.count z : Nat)) = some d from e)
  have ed := strsOf_eq hys
  subst ed
  have ev := RpA.strs r
  subst ev
  exact ⟨p, ys, z, rfl, rfl, SqL.of (ok2.sub _ _ (g2.1 _ _ h)), q G2 H2 (.int (ys.count z : Nat)) (g1.trans g2) ok2 (.int _)⟩
end
section
variable {X : Cx} {tw own : List Nat} {W : WX} {cl : Nat → Addr} {o e : Expr} {apos cpos : Pos} {to te : TE} {fo fe : Env → R (D × Env)}
theorem de_m_lcnt (ho : DI X tw own W cl o to fo) (he : DI X tw own W cl e te fe) (hbase : attributeBase o "count" X.env (eval o X.env) = eval o X.env := by rfl)
    (hfew : ((backTo cpos (starEach [e] X.env)).all (fun x => !x.1) && (backToKw cpos (keywordEach [] X.env)).all (fun x => x.1.isSome) && decide (([e] : List Expr).length + ([] : List Keyword).length + (if ([] : List Keyword).isEmpty then 0 else 1) < 30)) = true := by rfl)
    (hline : (apos.endLine == cpos.line) = true := by rfl) (hs : starEach [e] X.env = (false, eval e X.env) :: starEach [] X.env := by rfl) (hplain : (backTo cpos (starEach [] X.env)).any (·.1) = false := by rfl) :
    DI X tw own W cl (.Call (.Attribute o "count" apos) [e] [] cpos) (tLCnt X.K to te) (lcntM fo fe) := ⟨pe_lcnt ho.pe he.pe hbase hfew hline hs hplain, EvI.lcnt ho.ev he.ev⟩
end
/-! sorted(tuple of texts) -/
def rSortTX (K : PySem.W.Frag) : List V → Hp → VK → Prop := fun vs H Q => ∃ (l : Addr) (ss : List Str), vs = [V.ref l] ∧ SqT K H l (ss.map V.str) ∧ ss.length < 64 ∧ ∀ p, H p = none → Q (.ref p) (upd H p (.lst ((sortT ss).map V.str)))
section
variable {X : Cx}
theorem cr_sortTX : CallR X (.builtin "sorted") (rSortTX X.K) := by
  intro pins s σ H vs us Q I r h
  obtain ⟨l, ss, rfl, hl, h64, q⟩ := h
  rw [Vals.ref1 r]
  obtain ⟨its, rv, ⟨o, ho, hc, n, hd⟩, hz⟩ := I.tuple hl
  have hS : StrsAre its ss := strsAre_of rv
  have hil : its.length = ss.length := hS.length
  refine Calls.call_function_entry kind_sorted plain_sorted entry_sorted (args_sorted1 _) ?_
  unfold Builtin.«sorted»
  refine wpAny_bind (m := checkCount "sorted" 1 1 _) (wpAny_pure ?_)
  refine wpAny_bind (collect_sz (T := "tuple") l (.inr rfl) ho hc hd (fun h1 k1 hge => ?_) (by rw [List.size_toArray, sizeLine_eq]; omega))
  rw [List.toList_toArray]
  refine wpAny_bind (wpAny_newList ?_ (by rw [sizeLine_eq]; omega))
  have hoL : (h1.push (seqObj "list" its.toArray 0)).get? h1.objs.size = some (seqObj "list" its.toArray 0) := Heap.get?_push_size _ rfl
  have kk : ∀ b u, s.heap.get? b = some u → (h1.push (seqObj "list" its.toArray 0)).get? b = some u := fun b u e => Heap.get?_push_of_some _ (k1 b u e)
  refine wpAny_bind (wpAny_holding (wpAny_call_entry slot_list_sort ⟨_, hoL, rfl⟩ entry_list_sort (SrtO.list_sort_ord (s := { s with heap := h1.push (seqObj "list" its.toArray 0) }) swo_X hoL (by rw [hil, sizeLine_eq]; omega) (fun h2 => tx_sortable hS h2) fun out a1 a2 => ⟨_, rfl, ?_⟩) (args_list_sort _)))
  obtain ⟨c, hcc⟩ := sortedHeap_at (vs := its) (out := out.toArray) hoL
  have hall : ∀ v, v ∈ its → ∃ x t, v = .str x t := fun v hv => hS.all v hv
  have hS2 := strsAre_map out fun v hv => hall v (a2.perm.mem_iff.mp hv)
  have es : out.map PyProof.Rows.strOf = sortT ss := by
    have p1 : (out.map PyProof.Rows.strOf).Perm ss := by
      have := a2.perm.map PyProof.Rows.strOf
      rw [hS.strs] at this
      exact this
    have h1 : ((out.map PyProof.Rows.strOf).map fun x => ((0 : Int), x)).Pairwise (fun a b => leS a b = true) := by
      rw [List.map_map, List.pairwise_map]
      refine List.Pairwise.imp (fun {x y} h => ?_) a1
      show leS (0, PyProof.Rows.strOf x) (0, PyProof.Rows.strOf y) = true
      rw [leS_0, cps_lt]
      have h : decide ((PyProof.Rows.strOf y).cps.toList < (PyProof.Rows.strOf x).cps.toList) = false := h
      rw [h]
      rfl
    have h2 := sortedPS_uniq ((p1.map fun x => ((0 : Int), x)).trans (sortPS_perm _).symm) h1 (sortPS_sorted _)
    unfold sortT
    rw [← h2, List.map_map]
    exact (List.map_id _).symm
  rw [es] at hS2
  have hn : H h1.objs.size = none := I.hok.fresh hge
  have hlen : ((sortT ss).map V.str).length ≤ sizeLine := by rw [List.length_map, (sortT_perm ss).length_eq, sizeLine_eq]; omega
  refine wpAny_pure ⟨_, rfl, .ref h1.objs.size, upd H h1.objs.size (.lst ((sortT ss).map V.str)), I.laid (t' := s.toks) (fun b u e => ?_) hge ⟨hlen, out, c, vals_of_strs hS2, hcc⟩, rfl, q _ hn⟩
  have hlt := Heap.lt_size (k1 b u e)
  show (sortedHeap (h1.push (seqObj "list" its.toArray 0)) h1.objs.size its out.toArray).get? b = some u
  rw [sortedHeap_old (Nat.ne_of_lt hlt) (by rw [size_push']; exact Nat.lt_succ_of_lt hlt)]
  exact kk b u e
end
def sortedTTx : D → Option D
  | .tuple ds => (strsOf ds).bind fun ss => if ss.length < 64 then some (.list ((sortT ss).map PyData.str)) else none
  | _ => none
section
variable {K : PySem.W.Frag} {tw own : List Nat} {W : WX} {cl : Nat → Addr}
theorem EvN.sortTTx {ta : TE} {fa : Env → R (D × Env)} (ha : EvI K tw own W cl ta fa) : EvN K tw own W cl (tCB (rSortTX K) (tCons ta tNil)) (op1 sortedTTx fa) := fun H0 P G env σ H Q hp ok ans => by
  refine ha H0 P G env σ H _ hp ok (ans.bind.mono (fun b hb G1 H1 x g1 ok1 rx => ?_) fun _ h => h)
  obtain ⟨d, e, qq⟩ := ans_lift hb
  obtain ⟨b1, b2⟩ := b
  cases rx <;> first | (cases e; done) | skip
  rename_i l xs ds h r n
  obtain ⟨ss, hss, e⟩ := Option.bind_eq_some_iff.mp (show (strsOf ds).bind (fun ss => if ss.length < 64 then some (PyData.list ((sortT ss).map PyData.str)) else none) = some d from e)
  split at e
  · rename_i hlen
    cases e
    rw [strsOf_eq hss] at r
    have hx := RpA.strs r
    subst hx
    exact ⟨l, ss, rfl, Same.sqT ok1.sub h, hlen, fun p np => qq G1 H1 p _ g1 ok1 np ⟨ok1.sub.free np, .inl ⟨_, _, rfl, upd_same, RpA.of_strs _⟩⟩⟩
  · cases e
end
section
variable {X : Cx} {tw own : List Nat} {W : WX} {cl : Nat → Addr} {a : Expr} {p pos : Pos} {ta : TE} {fa : Env → R (D × Env)}
theorem dn_sortedTTx (hms : X.mg "sorted" = none) (ha : DI X tw own W cl a ta fa) (hg : Gl X "sorted" := by rfl)
    (na : starEach [a] X.env = (false, eval a X.env) :: starEach [] X.env := by rfl) (h2 : (backTo pos (starEach [] X.env)).any (·.1) = false := by rfl) :
    DN X tw own W cl (.Call (.Name "sorted" p) [a] [] pos) (tCB (rSortTX X.K) (tCons ta tNil)) (op1 sortedTTx fa) :=
  ⟨pe_callB cr_sortTX hg hms boot_sorted (pa_cons ha.pe pa_nil na) (by decide) (by decide) na h2, EvN.sortTTx ha.ev⟩
end
end Hz

namespace Hz
open PySem PySem.Spec PyProof.Rows L2
def scrV (ns : List Int) : D := .dict [(.none, .list (ns.map PyData.int))]
end Hz

namespace Hz
open PySem PySem.Spec PyProof.Rows L2
def b_is_whole : Env → R (Fl × Env) := retS (andV (op1 (isiD "int") (varD 0)) (andV (notV (op1 (isiD "bool") (varD 0))) (chainD leD leD (varD 1) (varD 0) (varD 2))))
def d_is_whole (ds : List D) : R D := fin (b_is_whole (env0 3 ds))
def b_is_word : Env → R (Fl × Env) := seqS (ifS (orT (notT (tstD (op1 (isiD "str") (varD 0)))) (notT (tstD (chainD leD leD (cD (.int 1)) (opN lenD (consA (varD 0) (nilA))) (cD (.int 8)))))) (retS (cD (.bool false))) (nextS)) (retS (opN allD (consA (compD (seqI (varD 0)) [1] (bName 1) (yesT) (op2 inD (varD 1) (cD (.str "abcdefghijklmnopqrstuvwxyz")))) (nilA))))
def d_is_word (ds : List D) : R D := fin (b_is_word (env0 2 ds))
def b_two_signs : Env → R (Fl × Env) := retS (lstD (consA (op2 fdivD (varD 1) (varD 0)) (consA (op2 modD (varD 1) (varD 0)) (nilA))))
def d_two_signs (ds : List D) : R D := fin (b_two_signs (env0 2 ds))
def b_best_words : Env → R (Fl × Env) := seqS (setO 2 (cD (.dict []))) (seqS (forS (seqI (varD 0)) (bName 3) (forS (seqI (varD 3)) (bName 5) (dputS 2 (varD 5) (op2 subD (op2 addD (dget2O 2 (varD 5) (cD (.int 0))) (op2 mulD (cD (.int 2)) (opN lenD (consA (varD 5) (nilA))))) (cD (.int 2)))))) (seqS (setS 4 (op1 sortedPSD (compD (seqI (opN listK (consA (varD 2) (nilA)))) [5] (bName 5) (tstD (op2 gtD (op2 dgetD (varD 2) (varD 5)) (cD (.int 0)))) (tupD (consA (op2 subD (cD (.int 0)) (op2 dgetD (varD 2) (varD 5))) (consA (varD 5) (nilA))))))) (retS (opN tupleD (consA (op1 sortedTxD (compD (seqI (sliceD (varD 4) (noO) (someO (varD 1)))) [6, 5] (bTup 2 (bCons (bName 6) (bCons (bName 5) (bNil)))) (yesT) (varD 5))) (nilA))))))
def d_best_words (ds : List D) : R D := fin (b_best_words (env0 7 ds))
def b_law_cell_at : Env → R (Fl × Env) := seqS (ifS (tstD (op2 ltD (varD 1) (opN lenD (consA (varD 0) (nilA))))) (retS (op2 idxD (varD 0) (varD 1))) (nextS)) (seqS (ifS (tstD (op2 eqD (varD 0) (lstD (nilA)))) (retS (cD (.int 0))) (nextS)) (retS (op2 addD (op2 mulD (op2 idxD (varD 0) (op2 modD (varD 1) (opN lenD (consA (varD 0) (nilA))))) (cD (.int 31))) (varD 1))))
def d_law_cell_at (ds : List D) : R D := fin (b_law_cell_at (env0 2 ds))
def b_need_words : Env → R (Fl × Env) := ifS (orT (notT (tstD (op1 (isiD "list") (varD 0)))) (orT (tstD (op2 gtD (opN lenD (consA (varD 0) (nilA))) (varD 1))) (notT (tstD (opN allD (consA (compD (seqI (varD 0)) [2] (bName 2) (yesT) (callP d_is_word (consA (varD 2) (nilA)))) (nilA))))))) (raiseS 1) (nextS)
def d_need_words (ds : List D) : R D := fin (b_need_words (env0 3 ds))
def b_is_book : Env → R (Fl × Env) := seqS (ifS (orT (notT (tstD (op1 (isiD "tuple") (varD 0)))) (orT (tstD (op2 neD (opN lenD (consA (varD 0) (nilA))) (cD (.int 2)))) (notT (tstD (callP d_is_whole (consA (op2 idxD (varD 0) (cD (.int 0))) (consA (cD (.int 6)) (consA (cD (.int 12)) (nilA))))))))) (retS (cD (.bool false))) (nextS)) (seqS (setS 1 (op2 idxD (varD 0) (cD (.int 1)))) (seqS (ifS (orT (notT (tstD (op1 (isiD "tuple") (varD 1)))) (tstD (op2 gtD (opN lenD (consA (varD 1) (nilA))) (opN minD (consA (cD (.int 60)) (consA (op2 mulD (op2 idxD (varD 0) (cD (.int 0))) (op2 idxD (varD 0) (cD (.int 0)))) (nilA))))))) (retS (cD (.bool false))) (nextS)) (retS (andV (opN allD (consA (compD (seqI (varD 1)) [2] (bName 2) (yesT) (callP d_is_word (consA (varD 2) (nilA)))) (nilA))) (op2 eqD (op1 lenSetD (varD 1)) (opN lenD (consA (varD 1) (nilA))))))))
def d_is_book (ds : List D) : R D := fin (b_is_book (env0 3 ds))
def b_word_row : Env → R (Fl × Env) := seqS (ifS (tstD (op2 inD (varD 1) (op2 idxD (varD 0) (cD (.int 1))))) (retS (op2 addD (lstD (consA (cD (.str "word")) (nilA))) (callP d_two_signs (consA (op2 idxD (varD 0) (cD (.int 0))) (consA (tixM (op2 idxD (varD 0) (cD (.int 1))) (varD 1)) (nilA)))))) (nextS)) (seqS (setO 2 (lstD (consA (cD (.str "spell")) (nilA)))) (seqS (forS (seqI (varD 1)) (bName 3) (extS 2 (callP d_two_signs (consA (op2 idxD (varD 0) (cD (.int 0))) (consA (strM sixD (cD (.str "abcdefghijklmnopqrstuvwxyz")) (varD 3)) (nilA)))))) (retS (varD 2))))
def d_word_row (ds : List D) : R D := fin (b_word_row (env0 4 ds))
def b_law_mixed : Env → R (Fl × Env) := seqS (setS 3 (op2 modD (op2 addD (op2 addD (op2 mulD (callP d_law_cell_at (consA (varD 0) (consA (varD 1) (nilA)))) (cD (.int 1103515245))) (op2 mulD (cD (.int 7919)) (varD 1))) (cD (.int 12345))) (cD (.int 2147483647)))) (retS (op2 modD (op2 modD (op2 modD (op2 powD (varD 3) (cD (.int 5))) (cD (.int 2147483647))) (cD (.int 999983))) (varD 2)))
def d_law_mixed (ds : List D) : R D := fin (b_law_mixed (env0 4 ds))
def b_need_book : Env → R (Fl × Env) := ifS (notT (tstD (callP d_is_book (consA (varD 0) (nilA))))) (raiseS 0) (nextS)
def d_need_book (ds : List D) : R D := fin (b_need_book (env0 1 ds))
def b_row_of : Env → R (Fl × Env) := seqS (setO 2 (lstD (consA (cD (.str "begin")) (nilA)))) (seqS (forS (seqI (varD 1)) (bName 3) (extS 2 (callP d_word_row (consA (varD 0) (consA (varD 3) (nilA)))))) (retS (op2 addD (varD 2) (lstD (consA (cD (.str "end")) (nilA))))))
def d_row_of (ds : List D) : R D := fin (b_row_of (env0 4 ds))
def b_best_book : Env → R (Fl × Env) := seqS (ifS (notT (tstD (callP d_is_whole (consA (varD 0) (consA (cD (.int 6)) (consA (cD (.int 12)) (nilA))))))) (raiseS 0) (nextS)) (seqS (ifS (notT (tstD (callP d_is_whole (consA (varD 2) (consA (cD (.int 0)) (consA (opN minD (consA (cD (.int 60)) (consA (op2 mulD (varD 0) (varD 0)) (nilA)))) (nilA))))))) (raiseS 0) (nextS)) (seqS (ifS (notT (tstD (op1 (isiD "list") (varD 1)))) (exprS (callP d_need_words (consA (cD .none) (consA (cD (.int 0)) (nilA))))) (nextS)) (seqS (forS (seqI (varD 1)) (bName 3) (exprS (callP d_need_words (consA (varD 3) (consA (cD (.int 8)) (nilA)))))) (retS (tupD (consA (varD 0) (consA (callP d_best_words (consA (varD 1) (consA (varD 2) (nilA)))) (nilA))))))))
def d_best_book (ds : List D) : R D := fin (b_best_book (env0 4 ds))
def b_law_draw : Env → R (Fl × Env) := seqS (appS 1 (cD (.int 0))) (retS (callP d_law_mixed (consA (varD 0) (consA (opNO lenD 1) (consA (varD 2) (nilA))))))
def d_law_draw (ds : List D) : R (D × D) := finT (b_law_draw (env0 3 ds))
def b_put : Env → R (Fl × Env) := seqS (exprS (callP d_need_book (consA (varD 0) (nilA)))) (seqS (exprS (callP d_need_words (consA (varD 1) (consA (cD (.int 8)) (nilA))))) (retS (callP d_row_of (consA (varD 0) (consA (varD 1) (nilA))))))
def d_put (ds : List D) : R D := fin (b_put (env0 2 ds))
def b_law_pick : Env → R (Fl × Env) := retS (op2 idxD (varD 2) (callT d_law_draw 1 (varD 0) (consA (opN lenD (consA (varD 2) (nilA))) (nilA))))
def d_law_pick (ds : List D) : R (D × D) := finT (b_law_pick (env0 3 ds))
def b_law_word : Env → R (Fl × Env) := seqS (ifS (tstD (op2 gtD (callT d_law_draw 1 (varD 0) (consA (cD (.int 4)) (nilA))) (cD (.int 0)))) (retS (callT d_law_pick 1 (varD 0) (consA (lstD (consA (cD (.str "a")) (consA (cD (.str "fog")) (consA (cD (.str "hill")) (consA (cD (.str "ab")) (consA (cD (.str "north")) (consA (cD (.str "z")) (consA (cD (.str "eastward")) (nilA))))))))) (nilA)))) (nextS)) (retS (strM joinM (cD (.str "")) (compD (argI rng1 (consA (op2 addD (cD (.int 1)) (callT d_law_draw 1 (varD 0) (consA (cD (.int 8)) (nilA)))) (nilA))) [2] (bName 2) (yesT) (callT d_law_pick 1 (varD 0) (consA (opN listS (consA (cD (.str "abmxyz")) (nilA))) (nilA))))))
def d_law_word (ds : List D) : R (D × D) := finT (b_law_word (env0 3 ds))
def b_law_words : Env → R (Fl × Env) := retS (compD (argI rng1 (consA (callT d_law_draw 1 (varD 0) (consA (op2 addD (varD 2) (cD (.int 1))) (nilA))) (nilA))) [3] (bName 3) (yesT) (callT d_law_word 1 (varD 0) (nilA)))
def d_law_words (ds : List D) : R (D × D) := finT (b_law_words (env0 4 ds))
def b_law : Env → R (Fl × Env) := seqS (setO 1 (lstD (nilA))) (seqS (setS 2 (compD (argI rng1 (consA (callT d_law_draw 1 (varD 0) (consA (cD (.int 4)) (nilA))) (nilA))) [15] (bName 15) (yesT) (callT d_law_words 1 (varD 0) (consA (cD (.int 4)) (nilA))))) (seqS (setS 3 (callT d_law_draw 1 (varD 0) (consA (cD (.int 5)) (nilA)))) (seqS (setS 4 (op2 addD (cD (.int 6)) (callT d_law_draw 1 (varD 0) (consA (cD (.int 7)) (nilA))))) (seqS (setS 5 (callP d_best_book (consA (varD 4) (consA (varD 2) (consA (varD 3) (nilA)))))) (seqS (setO 6 (lstD (nilA))) (seqS (forS (seqI (varD 2)) (bName 7) (extS 6 (varD 7))) (seqS (ifS (orT (notT (tstD (callP d_is_book (consA (varD 5) (nilA))))) (orT (tstD (op2 neD (op2 idxD (varD 5) (cD (.int 0))) (varD 4))) (orT (tstD (op2 gtD (opN lenD (consA (op2 idxD (varD 5) (cD (.int 1))) (nilA))) (varD 3))) (tstD (op2 neD (opN listD (consA (op2 idxD (varD 5) (cD (.int 1))) (nilA))) (op1 sortedTTx (op2 idxD (varD 5) (cD (.int 1))))))))) (retS (cD (.bool false))) (nextS)) (seqS (ifS (tstD (op2 neD (compD (seqI (op2 idxD (varD 5) (cD (.int 1)))) [13] (bName 13) (orT (tstD (op2OR notInD (varD 13) 6)) (tstD (op2 eqD (opN lenD (consA (varD 13) (nilA))) (cD (.int 1))))) (varD 13)) (lstD (nilA)))) (retS (cD (.bool false))) (nextS)) (seqS (setS 8 (opN dictD (consA (compD (seqI (varD 6)) [13] (bName 13) (yesT) (tupD (consA (varD 13) (consA (op2 mulD (lcntM (varD 6) (varD 13)) (op2 subD (op2 mulD (cD (.int 2)) (opN lenD (consA (varD 13) (nilA)))) (cD (.int 2)))) (nilA))))) (nilA)))) (seqS (setS 9 (sliceD (op1 sortedPSD (compD (keysI 8) [13] (bName 13) (tstD (op2 gtD (op2 dgetD (varD 8) (varD 13)) (cD (.int 0)))) (tupD (consA (op2 subD (cD (.int 0)) (op2 dgetD (varD 8) (varD 13))) (consA (varD 13) (nilA)))))) (noO) (someO (varD 3)))) (seqS (ifS (tstD (op2 neD (op1 sortedTxD (compD (seqI (varD 9)) [17, 13] (bTup 2 (bCons (bName 17) (bCons (bName 13) (bNil)))) (yesT) (varD 13))) (opN listD (consA (op2 idxD (varD 5) (cD (.int 1))) (nilA))))) (retS (cD (.bool false))) (nextS)) (seqS (setS 10 (opN sumD (consA (compD (seqI (varD 2)) [7] (bName 7) (yesT) (opN lenD (consA (callP d_put (consA (varD 5) (consA (varD 7) (nilA)))) (nilA)))) (nilA)))) (seqS (setS 11 (opN sumD (consA (compD (seqI (varD 2)) [7] (bName 7) (yesT) (opN lenD (consA (callP d_put (consA (tupD (consA (varD 4) (consA (tupD (nilA)) (nilA)))) (consA (varD 7) (nilA)))) (nilA)))) (nilA)))) (seqS (ifS (tstD (op2 neD (op2 subD (varD 11) (varD 10)) (opN sumD (consA (compD (seqI (op2 idxD (varD 5) (cD (.int 1)))) [13] (bName 13) (yesT) (op2 dgetD (varD 8) (varD 13))) (nilA))))) (retS (cD (.bool false))) (nextS)) (seqS (setS 12 (lstD (consA (tupD (nilA)) (nilA)))) (seqS (forS (seqI (sliceD (op1 sortedSetX (varD 6)) (noO) (someO (cD (.int 8))))) (bName 13) (setS 12 (op2 addD (varD 12) (compD (seqI (varD 12)) [16] (bName 16) (tstD (op2 ltD (opN lenD (consA (varD 16) (nilA))) (varD 3))) (op2 addD (varD 16) (tupD (consA (varD 13) (nilA)))))))) (seqS (forS (seqI (sliceD (varD 12) (noO) (someO (cD (.int 60))))) (bName 14) (ifS (tstD (op2 ltD (opN sumD (consA (compD (seqI (varD 2)) [7] (bName 7) (yesT) (opN lenD (consA (callP d_put (consA (tupD (consA (varD 4) (consA (varD 14) (nilA)))) (consA (varD 7) (nilA)))) (nilA)))) (nilA))) (varD 10))) (retS (cD (.bool false))) (nextS))) (retS (cD (.bool true))))))))))))))))))))
def d_law (ds : List D) : R D := fin (b_law (env0 18 ds))
end Hz

namespace Hz
open PySem PySem.Spec PyProof.Rows L2

theorem nr {α : Sort _} {a b : α} (h : a = b) : a = b := h
/-! ### plain reasoning about what defs are worth -/
def nD (k : Nat) : D := .int (k : Int)
def ntD (t : List Nat) : D := .tuple (t.map nD)
def nlD (t : List Nat) : D := .list (t.map nD)
def Ok {α : Type} (r : R α) (P : α → Prop) : Prop := ∃ a, r = .ok a ∧ P a
theorem Ok.bind {α β : Type} {r : R α} {k : α → R β} {P : β → Prop} (h : Ok r fun a => Ok (k a) P) : Ok (r.bind k) P := by
  obtain ⟨a, rfl, b, hb, p⟩ := h
  exact ⟨b, hb, p⟩
theorem Ok.mono {α : Type} {r : R α} {P Q : α → Prop} (h : Ok r P) (f : ∀ a, P a → Q a) : Ok r Q := by
  obtain ⟨a, e, p⟩ := h
  exact ⟨a, e, f a p⟩
@[simp] theorem lift_some {α : Type} (a : α) : lift (some a) = .ok a := nr rfl
@[simp] theorem ne_ok {α : Type} (a : α) : (R.ok a).ne = .ok a := nr rfl
/-! equality -/
mutual
theorem eqv_self : ∀ (n : Nat) (d : D), dep n d = true → PyData.eqv d d = true
  | _, .none, _ => by simp [PyData.eqv]
  | _, .bool b, _ => by simp [PyData.eqv]
  | _, .int i, _ => by simp [PyData.eqv]
  | _, .str x, _ => by simp [PyData.eqv]
  | 0, .list _, h => by simp [dep] at h
  | 0, .tuple _, h => by simp [dep] at h
  | n + 1, .list xs, h => by
    simp only [dep] at h
    simp only [PyData.eqv]
    exact eqvAll_self n xs h
  | n + 1, .tuple xs, h => by
    simp only [dep] at h
    simp only [PyData.eqv]
    exact eqvAll_self n xs h
  | 0, .dict _, h => by simp [dep] at h
  | n + 1, .dict _, h => by simp [dep] at h
theorem eqvAll_self : ∀ (n : Nat) (ds : List D), ds.all (dep n) = true → PyData.eqvAll ds ds = true
  | _, [], _ => by simp [PyData.eqvAll]
  | n, d :: ds, h => by
    simp only [List.all_cons, Bool.and_eq_true] at h
    simp only [PyData.eqvAll, Bool.and_eq_true]
    exact ⟨eqv_self n d h.1, eqvAll_self n ds h.2⟩
end
theorem scrD_none {n : Nat} {d : D} (h : dep n d = true) : scrD d = none := by
  cases d <;> first | rfl | skip
  cases n <;> simp [dep] at h
theorem eqD_dep {d e : D} (h : dep 9 d = true) (h' : dep 9 e = true) : eqD d e = some (.bool (PyData.eqv d e)) := by
  unfold eqD
  rw [scrD_none h]
  simp only
  rw [if_pos ⟨h, h'⟩]
theorem neD_dep {d e : D} (h : dep 9 d = true) (h' : dep 9 e = true) : neD d e = some (.bool (!PyData.eqv d e)) := by
  unfold neD
  rw [eqD_dep h h']
theorem eqD_self {d : D} (h : dep 9 d = true) : eqD d d = some (.bool true) := by rw [eqD_dep h h, eqv_self 9 d h]
theorem neD_self {d : D} (h : dep 9 d = true) : neD d d = some (.bool false) := by rw [neD_dep h h, eqv_self 9 d h]; rfl
theorem eqD_int (i j : Int) : eqD (.int i) (.int j) = some (.bool (decide (i = j))) := by
  rw [eqD_dep rfl rfl]
  simp only [PyData.eqv]
  congr 2
theorem neD_int (i j : Int) : neD (.int i) (.int j) = some (.bool (!decide (i = j))) := by
  unfold neD
  rw [eqD_int]
theorem dep_nl (n : Nat) (t : List Nat) : dep (n + 1) (nlD t) = true := by
  simp only [nlD, dep, List.all_map, List.all_eq_true]
  intro x _
  cases n <;> rfl
theorem dep_nt (n : Nat) (t : List Nat) : dep (n + 1) (ntD t) = true := by
  simp only [ntD, dep, List.all_map, List.all_eq_true]
  intro x _
  cases n <;> rfl
theorem eqvAll_n : ∀ (s t : List Nat), PyData.eqvAll (s.map nD) (t.map nD) = decide (s = t)
  | [], [] => by simp [PyData.eqvAll]
  | [], _ :: _ => by simp [PyData.eqvAll]
  | _ :: _, [] => by simp [PyData.eqvAll]
  | a :: s, b :: t => by
    simp only [List.map_cons, PyData.eqvAll, eqvAll_n s t, nD, PyData.eqv]
    by_cases h : a = b <;> by_cases h' : s = t <;> simp [h, h'] <;> omega
theorem eqD_nl (s t : List Nat) : eqD (nlD s) (nlD t) = some (.bool (decide (s = t))) := by
  rw [eqD_dep (dep_nl _ _) (dep_nl _ _)]
  simp only [nlD, PyData.eqv, eqvAll_n]
theorem neD_nl (s t : List Nat) : neD (nlD s) (nlD t) = some (.bool (!decide (s = t))) := by
  unfold neD
  rw [eqD_nl]
theorem neD_n (i j : Nat) : neD (nD i) (nD j) = some (.bool (!decide (i = j))) := by
  unfold nD
  rw [neD_int]
  congr 3
  exact decide_eq_decide.mpr Int.ofNat_inj
theorem eqD_n (i j : Nat) : eqD (nD i) (nD j) = some (.bool (decide (i = j))) := by
  unfold nD
  rw [eqD_int]
  congr 2
  exact decide_eq_decide.mpr Int.ofNat_inj
theorem inSeq_n (k : Nat) (t : List Nat) : inSeq (nD k) (t.map nD) = decide (k ∈ t) := by
  unfold inSeq
  rw [Bool.eq_iff_iff]
  simp only [List.any_map, List.any_eq_true, Function.comp, nD, PyData.eqv, decide_eq_true_eq, beq_iff_eq]
  constructor
  · rintro ⟨x, hx, e⟩
    have : x = k := by omega
    exact this ▸ hx
  · intro h
    exact ⟨k, h, rfl⟩
theorem notInD_nt (k : Nat) (t : List Nat) : notInD (nD k) (ntD t) = some (.bool (!decide (k ∈ t))) := by
  unfold notInD
  have e : inD (nD k) (ntD t) = some (.bool (decide (k ∈ t))) := by
    show (if dep 9 (nD k) = true ∧ dep 9 (ntD t) = true then some (PyData.bool (inSeq (nD k) (t.map nD))) else none) = _
    rw [if_pos ⟨rfl, dep_nt 8 t⟩, inSeq_n]
  rw [e]
/-! ranges -/
theorem rangeL_0 (n : Nat) : rangeL 0 (n : Int) = (List.range n).map nD := by
  unfold rangeL
  have e : ((n : Int) - 0).toNat = n := by omega
  rw [e]
  refine List.map_congr_left fun k _ => ?_
  unfold nD
  congr 1
  omega
theorem rangeL_nat (m n : Nat) : rangeL (m : Int) (n : Int) = (List.range' m (n - m)).map nD := by
  unfold rangeL
  have e : ((n : Int) - (m : Int)).toNat = n - m := by omega
  rw [e, List.range'_eq_map_range, List.map_map]
  refine List.map_congr_left fun k _ => ?_
  simp only [nD, Function.comp]
  congr 1
theorem rng1_n (n : Nat) (h : n ≤ 1000000) : rng1 [nD n] = some ((List.range n).map nD) := by
  show (if (n : Int) ≤ 1000000 ∧ -1000000 ≤ (n : Int) then some (rangeL 0 n) else none) = _
  rw [if_pos ⟨by omega, by omega⟩, rangeL_0]
theorem rng2_n (m n : Nat) (h : n ≤ 1000000) (h' : m ≤ 1000000) : rng2 [nD m, nD n] = some ((List.range' m (n - m)).map nD) := by
  show (if (n : Int) ≤ 1000000 ∧ -1000000 ≤ (n : Int) ∧ (m : Int) ≤ 1000000 ∧ -1000000 ≤ (m : Int) then some (rangeL m n) else none) = _
  rw [if_pos ⟨by omega, by omega, by omega, by omega⟩, rangeL_nat]
/-! comprehensions -/
theorem compL_map {α : Type} {vs : List Nat} {b : D → Env → Option Env} {c : Env → R (Bool × Env)} {el : Env → R (D × Env)} {e : Env} (enc : α → D) (p : α → Bool) (g : α → D) : ∀ (xs : List α)
    (_ : ∀ x ∈ xs, ∃ e1, b (enc x) e = some e1 ∧ c e1 = .ok (p x, e1) ∧ (p x = true → el e1 = .ok (g x, e1)) ∧ wipeE e1 vs = e), compL vs b c el (xs.map enc) e = .ok ((xs.filter p).map g, e)
  | [], _ => rfl
  | x :: xs, h => by
    obtain ⟨e1, h1, h2, h3, h4⟩ := h x List.mem_cons_self
    have ih := compL_map enc p g xs fun y hy => h y (List.mem_cons_of_mem _ hy)
    rw [List.map_cons, compL, h1]
    simp only [lift_some, bind_ok, h2, ne_ok]
    by_cases hp : p x = true
    · rw [if_pos hp, h3 hp]
      simp only [ne_ok, bind_ok, h4, ih]
      rw [List.filter_cons_of_pos hp, List.map_cons]
    · rw [if_neg hp, h4, ih, List.filter_cons_of_neg hp]
theorem compD_map {α : Type} {fi : Env → R (List D × Env)} {vs : List Nat} {b : D → Env → Option Env} {c : Env → R (Bool × Env)} {el : Env → R (D × Env)} {env : Env} (enc : α → D) (p : α → Bool) (g : α → D) (xs : List α) (hi : fi env = .ok (xs.map enc, env)) (hl : xs.length ≤ 1000000)
    (h : ∀ x ∈ xs, ∃ e1, b (enc x) (wipeE env vs) = some e1 ∧ c e1 = .ok (p x, e1) ∧ (p x = true → el e1 = .ok (g x, e1)) ∧ wipeE e1 vs = wipeE env vs) (hr : restE env vs (wipeE env vs) = env := by rfl) :
    compD fi vs b c el env = .ok (.list ((xs.filter p).map g), env) := by
  unfold compD
  rw [hi]
  simp only [bind_ok, List.length_map]
  rw [if_pos hl, compL_map enc p g xs h]
  simp only [ne_ok, bind_ok, hr]
/-- each element is made with a change of the state -/
theorem compL_ix {α β : Type} {vs : List Nat} {b : D → Env → Option Env} {el : Env → R (D × Env)} (enc : α → D) (en2 : β → D) (P : α → β → Prop) (xs : List α) (I : Nat → Env → Prop) (e : Env) (h0 : I 0 e)
    (st : ∀ i x e, xs[i]? = some x → I i e → ∃ e1 y e2, b (enc x) e = some e1 ∧ el e1 = .ok (en2 y, e2) ∧ P x y ∧ I (i + 1) (wipeE e2 vs)) : ∃ (ys : List β) (e' : Env), compL vs b yesT el (xs.map enc) e = .ok (ys.map en2, e') ∧ I xs.length e' ∧ ys.length = xs.length ∧ ∀ (i : Nat) (x : α) (y : β), xs[i]? = some x → ys[i]? = some y → P x y := by
  have key : ∀ (zs : List α) (i : Nat) (e : Env), xs.drop i = zs → I i e → ∃ (ys : List β) (e' : Env), compL vs b yesT el (zs.map enc) e = .ok (ys.map en2, e') ∧ I (i + zs.length) e' ∧ ys.length = zs.length ∧ ∀ (i : Nat) (x : α) (y : β), zs[i]? = some x → ys[i]? = some y → P x y := by
    intro zs
    induction zs with
    | nil => intro i e _ h; exact ⟨[], e, rfl, h, rfl, fun i x y h _ => by simp at h⟩
    | cons z zs ih =>
      intro i e hd h
      have hx : xs[i]? = some z := by
        have := congrArg (fun l => l[0]?) hd
        simpa using this
      obtain ⟨e1, y, e2, h1, h2, h3, h4⟩ := st i z e hx h
      have hd2 : xs.drop (i + 1) = zs := by
        rw [← List.drop_drop, hd]
        rfl
      obtain ⟨ys, e', h5, h6, h7, h8⟩ := ih (i + 1) _ hd2 h4
      refine ⟨y :: ys, e', ?_, ?_, by simp [h7], fun j x' y' => ?_⟩
      · rw [List.map_cons, compL, h1]
        simp only [lift_some, bind_ok, yesT, ne_ok, if_true, h2]
        show (compL vs b yesT el (zs.map enc) (wipeE e2 vs)).bind _ = _
        rw [h5]
        rfl
      · rw [List.length_cons, show i + (zs.length + 1) = i + 1 + zs.length by omega]
        exact h6
      · cases j with
        | zero =>
          intro q1 q2
          cases q1
          cases q2
          exact h3
        | succ j => exact fun q1 q2 => h8 j x' y' (by simpa using q1) (by simpa using q2)
  obtain ⟨ys, e', h1, h2, h3, h4⟩ := key xs 0 e rfl h0
  exact ⟨ys, e', h1, by simpa using h2, h3, h4⟩
theorem compD_ix {α β : Type} {fi : Env → R (List D × Env)} {vs : List Nat} {b : D → Env → Option Env} {el : Env → R (D × Env)} {env : Env} (enc : α → D) (en2 : β → D) (P : α → β → Prop) (xs : List α) (I : Nat → Env → Prop) (hi : fi env = .ok (xs.map enc, env)) (hl : xs.length ≤ 1000000) (h0 : I 0 (wipeE env vs))
    (st : ∀ i x e, xs[i]? = some x → I i e → ∃ e1 y e2, b (enc x) e = some e1 ∧ el e1 = .ok (en2 y, e2) ∧ P x y ∧ I (i + 1) (wipeE e2 vs)) : ∃ (ys : List β) (e' : Env), compD fi vs b yesT el env = .ok (.list (ys.map en2), restE env vs e') ∧ I xs.length e' ∧ ys.length = xs.length ∧ ∀ (i : Nat) (x : α) (y : β), xs[i]? = some x → ys[i]? = some y → P x y := by
  obtain ⟨ys, e', h1, h2, h3, h4⟩ := compL_ix enc en2 P xs I (wipeE env vs) h0 st
  refine ⟨ys, e', ?_, h2, h3, h4⟩
  unfold compD
  rw [hi]
  simp only [bind_ok, List.length_map]
  rw [if_pos hl, h1]
  rfl
/-! loops -/
/-- a for loop that runs through: the invariant by the items left -/
theorem forL_inv {b : D → Env → Option Env} {body : Env → R (Fl × Env)} (I : List D → Env → Prop) : ∀ (ds : List D) (e : Env), I ds e → (∀ d ds e, I (d :: ds) e → ∃ e1 e2, b d e = some e1 ∧ body e1 = .ok (.nx, e2) ∧ I ds e2) → ∃ e', forL b body ds e = .ok (.nx, e') ∧ I [] e'
  | [], e, h, _ => ⟨e, rfl, h⟩
  | d :: ds, e, h, st => by
    obtain ⟨e1, e2, h1, h2, h3⟩ := st d ds e h
    obtain ⟨e', h4, h5⟩ := forL_inv I ds e2 h3 st
    refine ⟨e', ?_, h5⟩
    rw [forL, h1]
    simp only [lift_some, bind_ok, h2]
    exact h4
/-- .. over items of a list, with their number -/
theorem forL_idx {α : Type} {b : D → Env → Option Env} {body : Env → R (Fl × Env)} (enc : α → D) (xs : List α) (I : Nat → Env → Prop) (e : Env) (h0 : I 0 e) (st : ∀ i x e, xs[i]? = some x → I i e → ∃ e1 e2, b (enc x) e = some e1 ∧ body e1 = .ok (.nx, e2) ∧ I (i + 1) e2) :
    ∃ e', forL b body (xs.map enc) e = .ok (.nx, e') ∧ I xs.length e' := by
  have key : ∀ (ys : List α) (i : Nat) (e : Env), xs.drop i = ys → I i e → ∃ e', forL b body (ys.map enc) e = .ok (.nx, e') ∧ I (i + ys.length) e' := by
    intro ys
    induction ys with
    | nil => intro i e _ h; exact ⟨e, rfl, h⟩
    | cons y ys ih =>
      intro i e hd h
      have hx : xs[i]? = some y := by
        have := congrArg (fun l => l[0]?) hd
        simpa using this
      obtain ⟨e1, e2, h1, h2, h3⟩ := st i y e hx h
      have hd2 : xs.drop (i + 1) = ys := by
        rw [← List.drop_drop, hd]
        rfl
      obtain ⟨e', h4, h5⟩ := ih (i + 1) e2 hd2 h3
      refine ⟨e', ?_, ?_⟩
      · rw [List.map_cons, forL, h1]
        simp only [lift_some, bind_ok, h2]
        exact h4
      · rw [List.length_cons]
        have z : i + (ys.length + 1) = i + 1 + ys.length := by omega
        rw [z]
        exact h5
  obtain ⟨e', h1, h2⟩ := key xs 0 e rfl h0
  exact ⟨e', h1, by simpa using h2⟩
/-- a while loop with a measure -/
theorem whileL_inv {c : Env → R (Bool × Env)} {body : Env → R (Fl × Env)} (I : Nat → Env → Prop) : ∀ (n m : Nat) (e : Env), m < n → I m e → (∀ m e, I m e → ∃ t e1, c e = .ok (t, e1) ∧ (t = true → ∃ e2 m', body e1 = .ok (.nx, e2) ∧ m' < m ∧ I m' e2)) → ∃ e0 m0 e', I m0 e0 ∧ c e0 = .ok (false, e') ∧ whileL c body n e = .ok (.nx, e')
  | 0, m, e, h, _, _ => by omega
  | n + 1, m, e, h, hi, st => by
    obtain ⟨t, e1, h1, h2⟩ := st m e hi
    cases t with
    | false =>
      refine ⟨e, m, e1, hi, h1, ?_⟩
      rw [whileL, h1]
      rfl
    | true =>
      obtain ⟨e2, m', h3, h4, h5⟩ := h2 rfl
      obtain ⟨e0, m0, e', h6, h7, h8⟩ := whileL_inv I n m' e2 (by omega) h5 st
      refine ⟨e0, m0, e', h6, h7, ?_⟩
      rw [whileL, h1]
      simp only [bind_ok, if_true, h3]
      exact h8
/-! statements -/
theorem seqS_nx {f g : Env → R (Fl × Env)} {e e' : Env} (h : f e = .ok (.nx, e')) : seqS f g e = g e' := by
  unfold seqS
  rw [h]
  rfl
theorem seqS_rt {f g : Env → R (Fl × Env)} {e e' : Env} {d : D} (h : f e = .ok (.rt d, e')) : seqS f g e = .ok (.rt d, e') := by
  unfold seqS
  rw [h]
  rfl
theorem seqS_err {f g : Env → R (Fl × Env)} {e : Env} {k : Nat} (h : f e = .err k) : seqS f g e = .err k := by
  unfold seqS
  rw [h]
  rfl
end Hz

namespace Hz
open PySem PySem.Spec PyProof.Rows L2
/-! ### reckoning by simp -/
def selD {α : Type} (d : D) (t f : R α) : R α := match d with
  | .bool true => t
  | .bool false => f
  | _ => .bad
@[simp] theorem selD_b {α : Type} (b : Bool) (t f : R α) : selD (.bool b) t f = if b = true then t else f := by cases b <;> rfl
def getD2 {α : Type} (o : Option (Option D)) (k : D → R α) : R α := match o with
  | some (some d) => k d
  | _ => .bad
@[simp] theorem getD2_s {α : Type} (d : D) (k : D → R α) : getD2 (some (some d)) k = k d := nr rfl
def intK {α : Type} (d : D) (k : Int → R α) : R α := match d with
  | .int i => k i
  | _ => .bad
@[simp] theorem intK_i {α : Type} (i : Int) (k : Int → R α) : intK (.int i) k = k i := nr rfl
@[simp] theorem intK_n {α : Type} (i : Nat) (k : Int → R α) : intK (nD i) k = k i := nr rfl
def flK (f : Fl) (t u : R (Fl × Env)) : R (Fl × Env) := match f with
  | .nx => t
  | _ => u
@[simp] theorem flK_nx (t u : R (Fl × Env)) : flK .nx t u = t := nr rfl
@[simp] theorem flK_rt (d : D) (t u : R (Fl × Env)) : flK (.rt d) t u = u := nr rfl
section
variable (e : Env) (d : D) (i n : Nat) (g h : D → D → Option D) (a b c : Env → R (D × Env)) (A : Env → R (List D × Env)) (F : List D → R D) (T : List D → R (D × D)) (s t : Env → R (Bool × Env)) (S U : Env → R (Fl × Env)) (b1 : D → Env → Option Env)
@[simp] theorem ev_cD : cD d e = .ok (d, e) := nr rfl
@[simp] theorem ev_varD : varD i e = getD2 e[i]? fun d => .ok (d, e) := by unfold varD getD2; exact nr rfl
@[simp] theorem ev_op2 : op2 g a b e = (a e).bind fun x => (b x.2).bind fun y => (lift (g x.1 y.1)).bind fun d => .ok (d, y.2) := nr rfl
@[simp] theorem ev_op1 (g : D → Option D) : op1 g a e = (a e).bind fun x => (lift (g x.1)).bind fun d => .ok (d, x.2) := nr rfl
@[simp] theorem ev_opN (g : List D → Option D) : opN g A e = (A e).bind fun x => (lift (g x.1)).bind fun d => .ok (d, x.2) := nr rfl
@[simp] theorem ev_nilA : nilA e = .ok ([], e) := nr rfl
@[simp] theorem ev_consA : consA a A e = (a e).bind fun x => (A x.2).bind fun y => .ok (x.1 :: y.1, y.2) := nr rfl
@[simp] theorem ev_lstD : lstD A e = (A e).bind fun x => .ok (.list x.1, x.2) := nr rfl
@[simp] theorem ev_tupD : tupD A e = (A e).bind fun x => .ok (.tuple x.1, x.2) := nr rfl
@[simp] theorem ev_callP : callP F A e = (A e).bind fun x => (F x.1).bind fun d => .ok (d, x.2) := nr rfl
@[simp] theorem ev_callT : callT T i a A e = (a e).bind fun x => (A x.2).bind fun y => getD2 y.2[i]? fun t => (T (x.1 :: t :: y.1)).bind fun r => .ok (r.1, y.2.set i (some r.2)) := by unfold callT getD2; exact nr rfl
@[simp] theorem ev_tstD : tstD a e = (a e).bind fun x => match x.1 with
  | .bool b => .ok (b, x.2)
  | _ => .bad := nr rfl
@[simp] theorem ev_andT : andT s t e = (s e).bind fun x => if x.1 = true then t x.2 else .ok (false, x.2) := nr rfl
@[simp] theorem ev_orT : orT s t e = (s e).bind fun x => if x.1 = true then .ok (true, x.2) else t x.2 := nr rfl
@[simp] theorem ev_notT : notT s e = (s e).bind fun x => .ok (!x.1, x.2) := nr rfl
@[simp] theorem ev_andV : andV a b e = (a e).bind fun x => selD x.1 (b x.2) (.ok (.bool false, x.2)) := by unfold andV selD; exact nr rfl
@[simp] theorem ev_orV : orV a b e = (a e).bind fun x => selD x.1 (.ok (.bool true, x.2)) (b x.2) := by unfold orV selD; exact nr rfl
@[simp] theorem ev_notV : notV a e = (a e).bind fun x => match x.1 with
  | .bool b => .ok (.bool (!b), x.2)
  | _ => .bad := nr rfl
@[simp] theorem ev_ifD : ifD s a b e = (s e).bind fun x => if x.1 = true then a x.2 else b x.2 := nr rfl
@[simp] theorem ev_chainD : chainD g h a b c e = (a e).bind fun x => (b x.2).bind fun y => (lift (g x.1 y.1)).bind fun d => selD d ((c y.2).bind fun z => (lift (h y.1 z.1)).bind fun d => .ok (d, z.2)) (.ok (.bool false, y.2)) := by
  unfold chainD
  congr 1
  funext x
  congr 1
  funext y
  cases g x.1 y.1 with
  | none => rfl
  | some d => cases d <;> first | rfl | skip; rename_i z; cases z <;> rfl
theorem ev_seqS : seqS S U e = (S e).bind fun r => flK r.1 (U r.2) (.ok r) := by unfold seqS flK; rfl
@[simp] theorem ev_nextS : nextS e = .ok (.nx, e) := nr rfl
@[simp] theorem ev_setS : setS i a e = (a e).bind fun x => .ok (.nx, x.2.set i (some x.1)) := nr rfl
@[simp] theorem ev_setO : setO i a e = (a e).bind fun x => if i < x.2.length then .ok (.nx, x.2.set i (some x.1)) else .bad := nr rfl
@[simp] theorem ev_exprS : exprS a e = (a e).bind fun x => .ok (.nx, x.2) := nr rfl
@[simp] theorem ev_retS : retS a e = (a e).bind fun x => .ok (.rt x.1, x.2) := nr rfl
@[simp] theorem ev_ifS : ifS s S U e = (s e).bind fun x => if x.1 = true then S x.2 else U x.2 := nr rfl
@[simp] theorem ev_raiseS : raiseS n e = .err n := nr rfl
@[simp] theorem ev_asgS : asgS b1 a e = (a e).bind fun x => (lift (b1 x.1 x.2)).bind fun e' => .ok (.nx, e') := nr rfl
@[simp] theorem ev_appS : appS i a e = (lift (ownL e i)).bind fun _ => (a e).bind fun x => (lift (ownL x.2 i)).bind fun ds => if ds.length < 1000000 then .ok (.nx, x.2.set i (some (.list (ds ++ [x.1])))) else .bad := nr rfl
@[simp] theorem ev_opNO (g : List D → Option D) : opNO g i e = (lift (ownL e i)).bind fun ds => (lift (g [.list ds])).bind fun d => if atomD d = true then .ok (d, e) else .bad := nr rfl
@[simp] theorem ev_idxO : idxO i b e = (b e).bind fun y => (lift (ownL y.2 i)).bind fun ds => (lift (idxD (.list ds) y.1)).bind fun d => .ok (d, y.2) := nr rfl
@[simp] theorem ev_op2OL : op2OL g i b e = (b e).bind fun y => (lift (ownL y.2 i)).bind fun ds => (lift (g (.list ds) y.1)).bind fun d => if atomD d = true then .ok (d, y.2) else .bad := nr rfl
@[simp] theorem ev_op2OR : op2OR g a i e = (a e).bind fun y => (lift (ownL y.2 i)).bind fun ds => (lift (g y.1 (.list ds))).bind fun d => if atomD d = true then .ok (d, y.2) else .bad := nr rfl
@[simp] theorem ev_popD : popD i a e = (lift (ownL e i)).bind fun _ => (a e).bind fun x => (lift (ownL x.2 i)).bind fun ds => intK x.1 fun j => if 0 ≤ j ∧ j < 1000000 then (lift ds[j.toNat]?).bind fun d => .ok (d, x.2.set i (some (.list (ds.eraseIdx j.toNat)))) else .bad := by unfold popD intK; exact nr rfl
@[simp] theorem ev_argI (g : List D → Option (List D)) : argI g A e = (A e).bind fun x => (lift (g x.1)).bind fun ds => .ok (ds, x.2) := nr rfl
@[simp] theorem ev_seqI : seqI a e = (a e).bind fun x => (lift (itemsOf x.1)).bind fun ds => .ok (ds, x.2) := nr rfl
@[simp] theorem ev_forS (f : Env → R (List D × Env)) : forS f b1 S e = (f e).bind fun x => forL b1 S x.1 x.2 := nr rfl
@[simp] theorem ev_parS (is : List Nat) : parS is A e = (A e).bind fun x => (lift (putE is x.1 x.2)).bind fun e' => .ok (.nx, e') := nr rfl
@[simp] theorem ev_bName : bName i d e = some (e.set i (some d)) := nr rfl
@[simp] theorem ev_wipe0 : wipeE e [] = e := nr rfl
@[simp] theorem ev_wipe1 (vs : List Nat) : wipeE e (i :: vs) = (wipeE e vs).set i none := nr rfl
@[simp] theorem ev_rest0 (e0 : Env) : restE e0 [] e = e := nr rfl
@[simp] theorem ev_rest1 (e0 : Env) (vs : List Nat) : restE e0 (i :: vs) e = (restE e0 vs e).set i (e0.getD i none) := nr rfl
@[simp] theorem ev_yesT : yesT e = .ok (true, e) := nr rfl
end
/-! operators at numbers -/
@[simp] theorem addD_n (i j : Nat) : addD (nD i) (nD j) = some (nD (i + j)) := by simp [addD, nD]
@[simp] theorem addD_i (i j : Int) : addD (.int i) (.int j) = some (.int (i + j)) := nr rfl
@[simp] theorem addD_ni (i : Nat) (j : Int) : addD (nD i) (.int j) = some (.int (i + j)) := nr rfl
@[simp] theorem addD_in (i : Int) (j : Nat) : addD (.int i) (nD j) = some (.int (i + j)) := nr rfl
@[simp high] theorem addD_n1 (i : Nat) : addD (nD i) (.int 1) = some (nD (i + 1)) := nr rfl
@[simp high] theorem addD_1n (i : Nat) : addD (.int 1) (nD i) = some (nD (i + 1)) := by
  show some (PyData.int (1 + (i : Int))) = some (.int ((i + 1 : Nat) : Int))
  congr 2
  omega
@[simp] theorem subD_i (i j : Int) : subD (.int i) (.int j) = some (.int (i - j)) := nr rfl
@[simp] theorem subD_ni (i : Nat) (j : Int) : subD (nD i) (.int j) = some (.int (i - j)) := nr rfl
@[simp] theorem leD_i (i j : Int) : leD (.int i) (.int j) = some (.bool (decide (i ≤ j))) := nr rfl
@[simp] theorem leD_n (i j : Nat) : leD (nD i) (nD j) = some (.bool (decide (i ≤ j))) := by simp [leD, nD]
@[simp] theorem leD_in (i : Int) (j : Nat) : leD (.int i) (nD j) = some (.bool (decide (i ≤ j))) := nr rfl
@[simp] theorem leD_ni (i : Nat) (j : Int) : leD (nD i) (.int j) = some (.bool (decide ((i : Int) ≤ j))) := nr rfl
@[simp] theorem ltD_i (i j : Int) : ltD (.int i) (.int j) = some (.bool (decide (i < j))) := nr rfl
@[simp] theorem ltD_n (i j : Nat) : ltD (nD i) (nD j) = some (.bool (decide (i < j))) := by simp [ltD, nD]
@[simp] theorem ltD_ni (i : Nat) (j : Int) : ltD (nD i) (.int j) = some (.bool (decide ((i : Int) < j))) := nr rfl
@[simp] theorem gtD_ni (i : Nat) (j : Int) : gtD (nD i) (.int j) = some (.bool (decide (j < (i : Int)))) := nr rfl
@[simp] theorem gtD_i (i j : Int) : gtD (.int i) (.int j) = some (.bool (decide (j < i))) := nr rfl
@[simp] theorem gtD_n (i j : Nat) : gtD (nD i) (nD j) = some (.bool (decide (j < i))) := by simp [gtD, nD]
@[simp] theorem geD_n (i j : Nat) : geD (nD i) (nD j) = some (.bool (decide (j ≤ i))) := by simp [geD, nD]
@[simp] theorem geD_i (i j : Int) : geD (.int i) (.int j) = some (.bool (decide (j ≤ i))) := nr rfl
@[simp] theorem negD_i (i : Int) : negD (.int i) = some (.int (-i)) := nr rfl
@[simp] theorem lenD_l (ds : List D) : lenD [.list ds] = some (nD ds.length) := nr rfl
@[simp] theorem lenD_t (ds : List D) : lenD [.tuple ds] = some (nD ds.length) := nr rfl
@[simp] theorem lenD_nl (t : List Nat) : lenD [nlD t] = some (nD t.length) := by simp [nlD]
@[simp] theorem lenD_nt (t : List Nat) : lenD [ntD t] = some (nD t.length) := by simp [ntD]
@[simp] theorem isi_int_i (i : Int) : isiD "int" (.int i) = some (.bool true) := nr (by rfl)
theorem kit_int_bool : kitB "int" "bool" = some false := by decide +kernel
@[simp] theorem isi_bool_i (i : Int) : isiD "bool" (.int i) = some (.bool false) := by
  show (kitB "int" "bool").map PyData.bool = _
  rw [kit_int_bool]
  rfl
@[simp] theorem isi_int_n (i : Nat) : isiD "int" (nD i) = some (.bool true) := isi_int_i _
@[simp] theorem isi_bool_n (i : Nat) : isiD "bool" (nD i) = some (.bool false) := isi_bool_i _
@[simp] theorem isi_tuple_t (ds : List D) : isiD "tuple" (.tuple ds) = some (.bool true) := nr (by rfl)
@[simp] theorem isi_tuple_nt (t : List Nat) : isiD "tuple" (ntD t) = some (.bool true) := nr (by rfl)
theorem kx_none_int : kitB "NoneType" "int" = some false := by decide +kernel
@[simp] theorem isx_none_int  : isiD "int" .none = some (.bool false) := by
  show (kitB "NoneType" "int").map PyData.bool = _
  rw [kx_none_int]
  rfl
theorem kx_bool_int : kitB "bool" "int" = some true := by decide +kernel
@[simp] theorem isx_bool_int (x : Bool) : isiD "int" (.bool x) = some (.bool true) := by
  show (kitB "bool" "int").map PyData.bool = _
  rw [kx_bool_int]
  rfl
theorem kx_int_int : kitB "int" "int" = some true := by decide +kernel
@[simp] theorem isx_int_int (x : Int) : isiD "int" (.int x) = some (.bool true) := by
  show (kitB "int" "int").map PyData.bool = _
  rw [kx_int_int]
  rfl
theorem kx_str_int : kitB "str" "int" = some false := by decide +kernel
@[simp] theorem isx_str_int (x : Str) : isiD "int" (.str x) = some (.bool false) := by
  show (kitB "str" "int").map PyData.bool = _
  rw [kx_str_int]
  rfl
theorem kx_list_int : kitB "list" "int" = some false := by decide +kernel
@[simp] theorem isx_list_int (x : List D) : isiD "int" (.list x) = some (.bool false) := by
  show (kitB "list" "int").map PyData.bool = _
  rw [kx_list_int]
  rfl
theorem kx_tuple_int : kitB "tuple" "int" = some false := by decide +kernel
@[simp] theorem isx_tuple_int (x : List D) : isiD "int" (.tuple x) = some (.bool false) := by
  show (kitB "tuple" "int").map PyData.bool = _
  rw [kx_tuple_int]
  rfl
theorem kx_none_bool : kitB "NoneType" "bool" = some false := by decide +kernel
@[simp] theorem isx_none_bool  : isiD "bool" .none = some (.bool false) := by
  show (kitB "NoneType" "bool").map PyData.bool = _
  rw [kx_none_bool]
  rfl
theorem kx_bool_bool : kitB "bool" "bool" = some true := by decide +kernel
@[simp] theorem isx_bool_bool (x : Bool) : isiD "bool" (.bool x) = some (.bool true) := by
  show (kitB "bool" "bool").map PyData.bool = _
  rw [kx_bool_bool]
  rfl
theorem kx_int_bool : kitB "int" "bool" = some false := by decide +kernel
@[simp] theorem isx_int_bool (x : Int) : isiD "bool" (.int x) = some (.bool false) := by
  show (kitB "int" "bool").map PyData.bool = _
  rw [kx_int_bool]
  rfl
theorem kx_str_bool : kitB "str" "bool" = some false := by decide +kernel
@[simp] theorem isx_str_bool (x : Str) : isiD "bool" (.str x) = some (.bool false) := by
  show (kitB "str" "bool").map PyData.bool = _
  rw [kx_str_bool]
  rfl
theorem kx_list_bool : kitB "list" "bool" = some false := by decide +kernel
@[simp] theorem isx_list_bool (x : List D) : isiD "bool" (.list x) = some (.bool false) := by
  show (kitB "list" "bool").map PyData.bool = _
  rw [kx_list_bool]
  rfl
theorem kx_tuple_bool : kitB "tuple" "bool" = some false := by decide +kernel
@[simp] theorem isx_tuple_bool (x : List D) : isiD "bool" (.tuple x) = some (.bool false) := by
  show (kitB "tuple" "bool").map PyData.bool = _
  rw [kx_tuple_bool]
  rfl
theorem kx_none_str : kitB "NoneType" "str" = some false := by decide +kernel
@[simp] theorem isx_none_str  : isiD "str" .none = some (.bool false) := by
  show (kitB "NoneType" "str").map PyData.bool = _
  rw [kx_none_str]
  rfl
theorem kx_bool_str : kitB "bool" "str" = some false := by decide +kernel
@[simp] theorem isx_bool_str (x : Bool) : isiD "str" (.bool x) = some (.bool false) := by
  show (kitB "bool" "str").map PyData.bool = _
  rw [kx_bool_str]
  rfl
theorem kx_int_str : kitB "int" "str" = some false := by decide +kernel
@[simp] theorem isx_int_str (x : Int) : isiD "str" (.int x) = some (.bool false) := by
  show (kitB "int" "str").map PyData.bool = _
  rw [kx_int_str]
  rfl
theorem kx_str_str : kitB "str" "str" = some true := by decide +kernel
@[simp] theorem isx_str_str (x : Str) : isiD "str" (.str x) = some (.bool true) := by
  show (kitB "str" "str").map PyData.bool = _
  rw [kx_str_str]
  rfl
theorem kx_list_str : kitB "list" "str" = some false := by decide +kernel
@[simp] theorem isx_list_str (x : List D) : isiD "str" (.list x) = some (.bool false) := by
  show (kitB "list" "str").map PyData.bool = _
  rw [kx_list_str]
  rfl
theorem kx_tuple_str : kitB "tuple" "str" = some false := by decide +kernel
@[simp] theorem isx_tuple_str (x : List D) : isiD "str" (.tuple x) = some (.bool false) := by
  show (kitB "tuple" "str").map PyData.bool = _
  rw [kx_tuple_str]
  rfl
theorem kx_none_list : kitB "NoneType" "list" = some false := by decide +kernel
@[simp] theorem isx_none_list  : isiD "list" .none = some (.bool false) := by
  show (kitB "NoneType" "list").map PyData.bool = _
  rw [kx_none_list]
  rfl
theorem kx_bool_list : kitB "bool" "list" = some false := by decide +kernel
@[simp] theorem isx_bool_list (x : Bool) : isiD "list" (.bool x) = some (.bool false) := by
  show (kitB "bool" "list").map PyData.bool = _
  rw [kx_bool_list]
  rfl
theorem kx_int_list : kitB "int" "list" = some false := by decide +kernel
@[simp] theorem isx_int_list (x : Int) : isiD "list" (.int x) = some (.bool false) := by
  show (kitB "int" "list").map PyData.bool = _
  rw [kx_int_list]
  rfl
theorem kx_str_list : kitB "str" "list" = some false := by decide +kernel
@[simp] theorem isx_str_list (x : Str) : isiD "list" (.str x) = some (.bool false) := by
  show (kitB "str" "list").map PyData.bool = _
  rw [kx_str_list]
  rfl
theorem kx_list_list : kitB "list" "list" = some true := by decide +kernel
@[simp] theorem isx_list_list (x : List D) : isiD "list" (.list x) = some (.bool true) := by
  show (kitB "list" "list").map PyData.bool = _
  rw [kx_list_list]
  rfl
theorem kx_tuple_list : kitB "tuple" "list" = some false := by decide +kernel
@[simp] theorem isx_tuple_list (x : List D) : isiD "list" (.tuple x) = some (.bool false) := by
  show (kitB "tuple" "list").map PyData.bool = _
  rw [kx_tuple_list]
  rfl
theorem kx_none_tuple : kitB "NoneType" "tuple" = some false := by decide +kernel
@[simp] theorem isx_none_tuple  : isiD "tuple" .none = some (.bool false) := by
  show (kitB "NoneType" "tuple").map PyData.bool = _
  rw [kx_none_tuple]
  rfl
theorem kx_bool_tuple : kitB "bool" "tuple" = some false := by decide +kernel
@[simp] theorem isx_bool_tuple (x : Bool) : isiD "tuple" (.bool x) = some (.bool false) := by
  show (kitB "bool" "tuple").map PyData.bool = _
  rw [kx_bool_tuple]
  rfl
theorem kx_int_tuple : kitB "int" "tuple" = some false := by decide +kernel
@[simp] theorem isx_int_tuple (x : Int) : isiD "tuple" (.int x) = some (.bool false) := by
  show (kitB "int" "tuple").map PyData.bool = _
  rw [kx_int_tuple]
  rfl
theorem kx_str_tuple : kitB "str" "tuple" = some false := by decide +kernel
@[simp] theorem isx_str_tuple (x : Str) : isiD "tuple" (.str x) = some (.bool false) := by
  show (kitB "str" "tuple").map PyData.bool = _
  rw [kx_str_tuple]
  rfl
theorem kx_list_tuple : kitB "list" "tuple" = some false := by decide +kernel
@[simp] theorem isx_list_tuple (x : List D) : isiD "tuple" (.list x) = some (.bool false) := by
  show (kitB "list" "tuple").map PyData.bool = _
  rw [kx_list_tuple]
  rfl
theorem kx_tuple_tuple : kitB "tuple" "tuple" = some true := by decide +kernel
@[simp] theorem isx_tuple_tuple (x : List D) : isiD "tuple" (.tuple x) = some (.bool true) := by
  show (kitB "tuple" "tuple").map PyData.bool = _
  rw [kx_tuple_tuple]
  rfl
@[simp] theorem atom_i (i : Int) : atomD (.int i) = true := nr rfl
@[simp] theorem atom_n (i : Nat) : atomD (nD i) = true := nr rfl
@[simp] theorem atom_b (b : Bool) : atomD (.bool b) = true := nr rfl
@[simp] theorem fin_rt (d : D) (e : Env) : fin (.ok (.rt d, e)) = .ok d := nr rfl
@[simp] theorem fin_nx (e : Env) : fin (.ok (.nx, e)) = .ok .none := nr rfl
@[simp] theorem fin_err (c : Nat) : fin (.err c) = .err c := nr rfl
theorem finT_rt {d t : D} {e : Env} (h : e[1]? = some (some t)) : finT (.ok (.rt d, e)) = .ok (d, t) := by unfold finT; simp only [h]
@[simp] theorem neD_nn (i j : Nat) : neD (nD i) (nD j) = some (.bool (!decide (i = j))) := neD_n i j
@[simp] theorem eqD_nn (i j : Nat) : eqD (nD i) (nD j) = some (.bool (decide (i = j))) := eqD_n i j
@[simp] theorem neD_ii (i j : Int) : neD (.int i) (.int j) = some (.bool (!decide (i = j))) := neD_int i j
@[simp] theorem eqD_ii (i j : Int) : eqD (.int i) (.int j) = some (.bool (decide (i = j))) := eqD_int i j
@[simp] theorem neD_ni (i : Nat) (j : Int) : neD (nD i) (.int j) = some (.bool (!decide ((i : Int) = j))) := neD_int i j
@[simp] theorem eqD_ni (i : Nat) (j : Int) : eqD (nD i) (.int j) = some (.bool (decide ((i : Int) = j))) := eqD_int i j
@[simp] theorem isNot_n (i : Nat) : isNotD (nD i) .none = some (.bool true) := nr rfl
@[simp] theorem is_n (i : Nat) : isD (nD i) .none = some (.bool false) := nr rfl
@[simp] theorem isNot_none : isNotD .none .none = some (.bool false) := nr rfl
@[simp] theorem is_none : isD .none .none = some (.bool true) := nr rfl
@[simp] theorem is_bool (a b : Bool) : isD (.bool a) (.bool b) = some (.bool (decide (a = b))) := nr rfl
@[simp] theorem isNot_bool (a b : Bool) : isNotD (.bool a) (.bool b) = some (.bool (!decide (a = b))) := nr rfl
theorem mulD_r (i j : Int) (h : -(2 ^ 64) < j ∧ j < 2 ^ 64) : mulD (.int i) (.int j) = some (.int (i * j)) := by
  show (if _ then some (PyData.int (i * j)) else none) = _
  rw [if_pos (.inr h)]
theorem mulD_l (i j : Int) (h : -(2 ^ 64) < i ∧ i < 2 ^ 64) : mulD (.int i) (.int j) = some (.int (i * j)) := by
  show (if _ then some (PyData.int (i * j)) else none) = _
  rw [if_pos (.inl h)]
theorem modD_i (i j : Int) (h : 0 < j) : modD (.int i) (.int j) = some (.int (i % j)) := by
  show (if _ then some (PyData.int (i % j)) else none) = _
  rw [if_pos h]
theorem modD_n (i j : Nat) (h : 0 < j) : modD (nD i) (nD j) = some (nD (i % j)) := modD_i _ _ (by omega)
theorem powD_i (i j : Int) (h : 0 ≤ j ∧ j ≤ 1000000 ∧ i.natAbs < 2 ^ 64) : powD (.int i) (.int j) = some (.int (i ^ j.toNat)) := by
  show (if _ then some (PyData.int (i ^ j.toNat)) else none) = _
  rw [if_pos h]
/-- by place, in numbers -/
theorem atI_n {α : Type} {xs : List α} {k : Nat} {x : α} (h : xs[k]? = some x) : atI xs (k : Int) = some x := by
  have hl := lt_of_get h
  unfold atI ixN
  rw [if_pos (by omega), if_pos (by omega)]
  simpa using h
theorem idx_nt {t : List Nat} {i : Int} {k x : Nat} (hk : i = (k : Int)) (h : t[k]? = some x) : idxD (ntD t) (.int i) = some (nD x) := by
  subst hk
  show atI (t.map nD) (k : Int) = some (nD x)
  exact atI_n (by rw [List.getElem?_map, h]; rfl)
theorem idx_nl {t : List Nat} {i : Int} {k x : Nat} (hk : i = (k : Int)) (h : t[k]? = some x) : idxD (nlD t) (.int i) = some (nD x) := by
  subst hk
  show atI (t.map nD) (k : Int) = some (nD x)
  exact atI_n (by rw [List.getElem?_map, h]; rfl)
theorem idx_l {ds : List D} {i : Int} {k : Nat} {x : D} (hk : i = (k : Int)) (h : ds[k]? = some x) : idxD (.list ds) (.int i) = some x := by
  subst hk
  exact atI_n h
theorem idx_last {t : List Nat} {x : Nat} (h : t.getLast? = some x) : idxD (nlD t) (.int (-1)) = some (nD x) := by
  show atI (t.map nD) (-1) = some (nD x)
  have hne : t ≠ [] := fun z => by rw [z] at h; cases h
  have hl : 0 < t.length := List.length_pos_iff.mpr hne
  unfold atI ixN
  rw [if_neg (by omega), if_pos (by rw [List.length_map]; omega)]
  simp only [List.length_map, Option.bind_some]
  have e : ((-1 : Int) + (t.length : Int)).toNat = t.length - 1 := by omega
  rw [e, List.getElem?_map, ← List.getLast?_eq_getElem?, h]
  rfl
end Hz

namespace Hz
open PySem PySem.Spec PyProof.Rows L2
/-! ### what holds behind a piece -/
@[simp] theorem Ok_ok {α : Type} (a : α) (P : α → Prop) : Ok (.ok a) P ↔ P a := ⟨fun ⟨b, e, p⟩ => by cases e; exact p, fun p => ⟨a, rfl, p⟩⟩
@[simp] theorem Ok_bind {α β : Type} (r : R α) (k : α → R β) (P : β → Prop) : Ok (r.bind k) P ↔ Ok r fun a => Ok (k a) P := by
  refine ⟨fun ⟨b, e, p⟩ => ?_, Ok.bind⟩
  cases r with
  | ok a => exact ⟨a, rfl, b, e, p⟩
  | err c => cases e
  | bad => cases e
theorem Ok_ite {α : Type} {c : Prop} [Decidable c] {r t : R α} {P : α → Prop} (h1 : c → Ok r P) (h2 : ¬ c → Ok t P) : Ok (if c then r else t) P := by
  by_cases h : c
  · rw [if_pos h]; exact h1 h
  · rw [if_neg h]; exact h2 h
def thenP (r : Fl × Env) (A : Env → Prop) (B : Prop) : Prop := match r.1 with
  | .nx => A r.2
  | _ => B
@[simp] theorem thenP_nx (e : Env) (A : Env → Prop) (B : Prop) : thenP (.nx, e) A B = A e := nr rfl
@[simp] theorem thenP_rt (d : D) (e : Env) (A : Env → Prop) (B : Prop) : thenP (.rt d, e) A B = B := nr rfl
theorem Ok_seq {f g : Env → R (Fl × Env)} {e : Env} {P : Fl × Env → Prop} (h : Ok (f e) fun r => thenP r (fun e' => Ok (g e') P) (P r)) : Ok (seqS f g e) P := by
  obtain ⟨⟨fl, e'⟩, h1, h2⟩ := h
  unfold seqS
  rw [h1]
  cases fl with
  | nx => exact h2
  | rt d => exact ⟨_, rfl, h2⟩
  | bk => exact ⟨_, rfl, h2⟩
  | ct => exact ⟨_, rfl, h2⟩
theorem Ok_fin {r : R (Fl × Env)} {P : D → Prop} (h : Ok r fun a => ∃ d, a.1 = .rt d ∧ P d) : Ok (fin r) P := by
  obtain ⟨⟨fl, e⟩, rfl, d, h1, h2⟩ := h
  cases h1
  exact ⟨d, rfl, h2⟩
theorem Ok_finT {r : R (Fl × Env)} {P : D × D → Prop} (h : Ok r fun a => ∃ d t, a.1 = .rt d ∧ a.2[1]? = some (some t) ∧ P (d, t)) : Ok (finT r) P := by
  obtain ⟨⟨fl, e⟩, rfl, d, t, h1, h2, h3⟩ := h
  cases h1
  exact ⟨(d, t), finT_rt h2, h3⟩
theorem Ok_eq {α : Type} {r : R α} {P : α → Prop} {a : α} (h : r = .ok a) (p : P a) : Ok r P := ⟨a, h, p⟩
theorem Ok_compD {α β : Type} {fi : Env → R (List D × Env)} {vs : List Nat} {b : D → Env → Option Env} {el : Env → R (D × Env)} {env : Env} {Q : D × Env → Prop} (enc : α → D) (en2 : β → D) (P : α → β → Prop) (xs : List α) (I : Nat → Env → Prop) (hi : fi env = .ok (xs.map enc, env)) (hl : xs.length ≤ 1000000) (h0 : I 0 (wipeE env vs))
    (st : ∀ i x e, xs[i]? = some x → I i e → ∃ e1, b (enc x) e = some e1 ∧ Ok (el e1) fun r => ∃ y, r.1 = en2 y ∧ P x y ∧ I (i + 1) (wipeE r.2 vs))
    (q : ∀ (ys : List β) (e' : Env), I xs.length e' → ys.length = xs.length → (∀ (i : Nat) (x : α) (y : β), xs[i]? = some x → ys[i]? = some y → P x y) → Q (.list (ys.map en2), restE env vs e')) : Ok (compD fi vs b yesT el env) Q := by
  obtain ⟨ys, e', h1, h2, h3, h4⟩ := compD_ix enc en2 P xs I hi hl h0 (fun i x e hx hI => by
    obtain ⟨e1, h1, ⟨d, e2⟩, h2, y, h3, h4, h5⟩ := st i x e hx hI
    cases h3
    exact ⟨e1, y, e2, h1, h2, h4, h5⟩)
  exact ⟨_, h1, q ys e' h2 h3 h4⟩
theorem Ok_compP {α : Type} {fi : Env → R (List D × Env)} {vs : List Nat} {b : D → Env → Option Env} {c : Env → R (Bool × Env)} {el : Env → R (D × Env)} {env : Env} {Q : D × Env → Prop} (enc : α → D) (p : α → Bool) (g : α → D) (xs : List α) (hi : fi env = .ok (xs.map enc, env)) (hl : xs.length ≤ 1000000)
    (h : ∀ x ∈ xs, ∃ e1, b (enc x) (wipeE env vs) = some e1 ∧ c e1 = .ok (p x, e1) ∧ (p x = true → el e1 = .ok (g x, e1)) ∧ wipeE e1 vs = wipeE env vs) (hr : restE env vs (wipeE env vs) = env) (q : Q (.list ((xs.filter p).map g), env)) : Ok (compD fi vs b c el env) Q :=
  ⟨_, compD_map enc p g xs hi hl h hr, q⟩
theorem Ok_compY {α : Type} {fi : Env → R (List D × Env)} {vs : List Nat} {b : D → Env → Option Env} {el : Env → R (D × Env)} {env : Env} {Q : D × Env → Prop} (enc : α → D) (g : α → D) (xs : List α) (hi : fi env = .ok (xs.map enc, env)) (hl : xs.length ≤ 1000000)
    (h : ∀ x ∈ xs, ∃ e1, b (enc x) (wipeE env vs) = some e1 ∧ el e1 = .ok (g x, e1) ∧ wipeE e1 vs = wipeE env vs) (hr : restE env vs (wipeE env vs) = env) (q : Q (.list (xs.map g), env)) : Ok (compD fi vs b yesT el env) Q := by
  refine Ok_compP enc (fun _ => true) g xs hi hl (fun x hx => ?_) hr ?_
  · obtain ⟨e1, h1, h2, h3⟩ := h x hx
    exact ⟨e1, h1, rfl, fun _ => h2, h3⟩
  · rw [List.filter_eq_self.mpr fun _ _ => rfl]
    exact q
def cI (ds : List D) : Env → R (List D × Env) := fun e => .ok (ds, e)
theorem Ok_compI {fi : Env → R (List D × Env)} {vs : List Nat} {b : D → Env → Option Env} {c : Env → R (Bool × Env)} {el : Env → R (D × Env)} {env e1 : Env} {ds : List D} {Q : D × Env → Prop} (hi : fi env = .ok (ds, e1)) (h : Ok (compD (cI ds) vs b c el e1) Q) : Ok (compD fi vs b c el env) Q := by
  unfold compD at h ⊢
  rw [hi]
  exact h
theorem Ok_forL {α : Type} {b : D → Env → Option Env} {body : Env → R (Fl × Env)} {e : Env} {Q : Fl × Env → Prop} (enc : α → D) (xs : List α) (I : Nat → Env → Prop) (h0 : I 0 e) (st : ∀ i x e, xs[i]? = some x → I i e → ∃ e1, b (enc x) e = some e1 ∧ Ok (body e1) fun r => r.1 = .nx ∧ I (i + 1) r.2)
    (q : ∀ e', I xs.length e' → Q (.nx, e')) : Ok (forL b body (xs.map enc) e) Q := by
  obtain ⟨e', h1, h2⟩ := forL_idx enc xs I e h0 (fun i x e hx hI => by
    obtain ⟨e1, h1, ⟨fl, e2⟩, h2, h3, h4⟩ := st i x e hx hI
    cases h3
    exact ⟨e1, e2, h1, h2, h4⟩)
  exact ⟨_, h1, q e' h2⟩
theorem rgD_nat (m n : Nat) : rgD (m : Int) (n : Int) = (List.range' m (n - m)).map nD := rangeL_nat m n
theorem lrg2_n (m n : Nat) (hm : m ≤ 1000) (hn : n ≤ 1000) : lrg2D (nD m) (nD n) = some (nlD (List.range' m (n - m))) := by
  show (if -1000 ≤ (m : Int) ∧ (m : Int) ≤ 1000 ∧ -1000 ≤ (n : Int) ∧ (n : Int) ≤ 1000 then some (PyData.list (rgD m n)) else none) = _
  rw [if_pos ⟨by omega, by omega, by omega, by omega⟩, rgD_nat]
  rfl
theorem lrg2_lit (md : D) (m n : Nat) (hmd : md = nD m) (hm : m ≤ 1000) (hn : n ≤ 1000) : lrg2D md (nD n) = some (nlD (List.range' m (n - m))) := by
  subst hmd
  exact lrg2_n m n hm hn
theorem rng2_lit (md : D) (m n : Nat) (hmd : md = nD m) (h : n ≤ 1000000) (h' : m ≤ 1000000) : rng2 [md, nD n] = some ((List.range' m (n - m)).map nD) := by
  subst hmd
  exact rng2_n m n h h'
theorem rng1_lit (md : D) (n : Nat) (hmd : md = nD n) (h : n ≤ 1000000) : rng1 [md] = some ((List.range n).map nD) := by
  subst hmd
  exact rng1_n n h
theorem erase_map {α β : Type} (f : α → β) : ∀ (l : List α) (j : Nat), (l.map f).eraseIdx j = (l.eraseIdx j).map f
  | [], _ => rfl
  | _ :: _, 0 => rfl
  | a :: l, j + 1 => by
    rw [List.map_cons, List.eraseIdx_cons_succ, List.eraseIdx_cons_succ, erase_map f l j]
    rfl
theorem perm_erase {α : Type} : ∀ (l : List α) (j : Nat) (x : α), l[j]? = some x → (x :: l.eraseIdx j).Perm l
  | [], j, x, h => by simp at h
  | a :: l, 0, x, h => by
    cases h
    exact List.Perm.refl _
  | a :: l, j + 1, x, h => by
    rw [List.eraseIdx_cons_succ]
    exact (List.Perm.swap a x _).trans ((perm_erase l j x (by simpa using h)).cons a)
theorem getR {n i x : Nat} (h : (List.range n)[i]? = some x) : x = i ∧ i < n := by
  rw [List.getElem?_eq_some_iff] at h
  obtain ⟨h1, h2⟩ := h
  simp at h1 h2
  exact ⟨h2.symm, h1⟩
theorem getR' {m n i x : Nat} (h : (List.range' m n)[i]? = some x) : x = m + i ∧ i < n := by
  rw [List.getElem?_eq_some_iff] at h
  obtain ⟨h1, h2⟩ := h
  simp at h1 h2
  exact ⟨h2.symm, h1⟩
theorem nl_fold (l : List Nat) : PyData.list (l.map nD) = nlD l := rfl
theorem nt_fold (l : List Nat) : PyData.tuple (l.map nD) = ntD l := rfl
@[simp] theorem revD_nl (W : List Nat) : revD (nlD W) = some (nlD W.reverse) := by
  show some (PyData.list (W.map nD).reverse) = _
  rw [← List.map_reverse]
  rfl
theorem Ok_forD {b : D → Env → Option Env} {body : Env → R (Fl × Env)} {e : Env} {Q : Fl × Env → Prop} (xs : List D) (I : Nat → Env → Prop) (h0 : I 0 e) (st : ∀ i x e, xs[i]? = some x → I i e → ∃ e1, b x e = some e1 ∧ Ok (body e1) fun r => r.1 = .nx ∧ I (i + 1) r.2)
    (q : ∀ e', I xs.length e' → Q (.nx, e')) : Ok (forL b body xs e) Q := by
  have h := Ok_forL (b := b) (body := body) (e := e) (Q := Q) id xs I h0 st q
  rwa [List.map_id] at h
theorem rng1_pred (n : Nat) (h : n ≤ 1000000) : rng1 [.int ((n : Int) - 1)] = some ((List.range (n - 1)).map nD) := by
  show (if (n : Int) - 1 ≤ 1000000 ∧ -1000000 ≤ (n : Int) - 1 then some (rangeL 0 ((n : Int) - 1)) else none) = _
  rw [if_pos ⟨by omega, by omega⟩]
  unfold rangeL
  rw [show ((n : Int) - 1 - 0).toNat = n - 1 by omega]
  congr 1
  refine List.map_congr_left fun k _ => ?_
  unfold nD
  congr 1
  omega
theorem dep_up {d : D} (h : dep 0 d = true) (n : Nat) : dep n d = true := by
  cases d <;> first | (cases n <;> rfl; done) | skip
  · cases n <;> exact h
  · simp [dep] at h
  · simp [dep] at h
  · simp [dep] at h
theorem dep_list {ds : List D} {n : Nat} (h : ∀ d ∈ ds, dep n d = true) : dep (n + 1) (.list ds) = true := by
  simp only [dep, List.all_eq_true]
  exact h
theorem dep_tuple {ds : List D} {n : Nat} (h : ∀ d ∈ ds, dep n d = true) : dep (n + 1) (.tuple ds) = true := by
  simp only [dep, List.all_eq_true]
  exact h
theorem addD_l (xs ys : List D) (h : xs.length + ys.length ≤ 1000000) : addD (.list xs) (.list ys) = some (.list (xs ++ ys)) := by
  show (if _ then some (PyData.list (xs ++ ys)) else none) = _
  rw [if_pos h]
/-! cuts -/
def intO (d : D) (e : Env) : R (Option Int × Env) := match d with
  | .int i => .ok (some i, e)
  | _ => .bad
@[simp] theorem intO_i (i : Int) (e : Env) : intO (.int i) e = .ok (some i, e) := nr rfl
@[simp] theorem intO_n (i : Nat) (e : Env) : intO (nD i) e = .ok (some (i : Int), e) := nr rfl
theorem cut_from {α : Type} (xs : List α) (k : Nat) : cutL xs (some (k : Int)) none = xs.drop k := by
  unfold cutL
  rw [HT.sIx_nat, HT.sIx_none]
  by_cases h : k ≤ xs.length
  · rw [Nat.min_eq_left h, List.take_of_length_le (by rw [List.length_drop]; omega)]
  · rw [Nat.min_eq_right (by omega), Nat.sub_self, List.take_zero, List.drop_eq_nil_of_le (by omega)]
theorem cut_to {α : Type} (xs : List α) (k : Nat) : cutL xs none (some (k : Int)) = xs.take k := by
  unfold cutL
  rw [HT.sIx_nat, HT.sIx_none, List.drop_zero, Nat.sub_zero]
  by_cases h : k ≤ xs.length
  · rw [Nat.min_eq_left h]
  · rw [Nat.min_eq_right (by omega), List.take_of_length_le (Nat.le_refl _), List.take_of_length_le (by omega)]
@[simp] theorem ev_sliceD (a : Env → R (D × Env)) (lo hi : Env → R (Option Int × Env)) (e : Env) : sliceD a lo hi e = (a e).bind fun x => (lo x.2).bind fun l => (hi l.2).bind fun h => (lift (cutD x.1 l.1 h.1)).bind fun d => .ok (d, h.2) := nr rfl
@[simp] theorem ev_noO (e : Env) : noO e = .ok (none, e) := nr rfl
@[simp] theorem ev_someO (a : Env → R (D × Env)) (e : Env) : someO a e = (a e).bind fun x => intO x.1 x.2 := by unfold someO intO; exact nr rfl
@[simp] theorem cutD_l (ds : List D) (lo hi : Option Int) : cutD (.list ds) lo hi = some (.list (cutL ds lo hi)) := nr rfl
@[simp] theorem cutD_t (ds : List D) (lo hi : Option Int) : cutD (.tuple ds) lo hi = some (.tuple (cutL ds lo hi)) := nr rfl
/-! dicts of numbers -/
def pD (p : Nat × Nat) : D × D := (nD p.1, nD p.2)
theorem keq_n (i j : Nat) : keqD (nD i) (nD j) = decide (i = j) := by
  show decide ((i : Int) = (j : Int)) = _
  exact decide_eq_decide.mpr Int.ofNat_inj
theorem valD_n (k : Nat) : ∀ l : List (Nat × Nat), valD (l.map pD) (nD k) = (l.find? fun p => decide (p.1 = k)).map fun p => nD p.2
  | [] => rfl
  | p :: l => by
    rw [List.map_cons]
    show (if keqD (nD p.1) (nD k) = true then some (nD p.2) else valD (l.map pD) (nD k)) = _
    rw [keq_n, valD_n k l, List.find?_cons]
    by_cases h : p.1 = k <;> simp [h]
theorem mergeD_n : ∀ (l acc : List (Nat × Nat)), ((acc ++ l).map (·.1)).Nodup → mergeD (acc.map pD) (l.map pD) = (acc ++ l).map pD
  | [], acc, _ => by simp [mergeD]
  | p :: l, acc, h => by
    rw [List.map_cons]
    have hno : hasD (acc.map pD) (nD p.1) = false := by
      unfold hasD
      rw [valD_n]
      have : acc.find? (fun q => decide (q.1 = p.1)) = none := by
        rw [List.find?_eq_none]
        intro q hq
        simp only [decide_eq_true_eq]
        intro z
        rw [List.map_append, List.map_cons, List.nodup_append] at h
        exact h.2.2 q.1 (List.mem_map_of_mem hq) p.1 List.mem_cons_self z
      rw [this]
      rfl
    have e : putD (acc.map pD) (nD p.1) (nD p.2) = (acc ++ [p]).map pD := by
      unfold putD
      rw [hno]
      simp [pD]
    show mergeD (putD (acc.map pD) (nD p.1) (nD p.2)) (l.map pD) = _
    rw [e, mergeD_n l (acc ++ [p]) (by simpa using h)]
    simp
theorem pairsOf_n : ∀ l : List (Nat × Nat), pairsOf (l.map fun p => .tuple [nD p.1, nD p.2]) = some (l.map pD)
  | [] => rfl
  | p :: l => by
    rw [List.map_cons]
    show (match keyOf (nD p.1), pairsOf (l.map fun p => .tuple [nD p.1, nD p.2]) with
      | some _, some r => some ((nD p.1, nD p.2) :: r)
      | _, _ => none) = _
    rw [pairsOf_n l]
    rfl
theorem dictD_n (l : List (Nat × Nat)) (h : (l.map (·.1)).Nodup) : dictD [.list (l.map fun p => .tuple [nD p.1, nD p.2])] = some (.dict (l.map pD)) := by
  show (pairsOf (l.map fun p => .tuple [nD p.1, nD p.2])).map (fun l => PyData.dict (mergeD [] l)) = _
  rw [pairsOf_n l]
  simp only [Option.map_some]
  have := mergeD_n l [] (by simpa using h)
  rw [show ([] : List (D × D)) = ([] : List (Nat × Nat)).map pD from rfl, this]
  simp
theorem dgetD_n {l : List (Nat × Nat)} (h : (l.map (·.1)).Nodup) {k v : Nat} (hm : (k, v) ∈ l) : dgetD (.dict (l.map pD)) (nD k) = some (nD v) := by
  show valD (l.map pD) (nD k) = _
  rw [valD_n]
  have : l.find? (fun p => decide (p.1 = k)) = some (k, v) := by
    induction l with
    | nil => cases hm
    | cons p l ih =>
      rw [List.find?_cons]
      rw [List.map_cons, List.nodup_cons] at h
      rcases List.mem_cons.mp hm with e | e
      · subst e
        simp
      · have : p.1 ≠ k := fun z => h.1 (by rw [z]; exact List.mem_map_of_mem (f := fun q : Nat × Nat => q.1) e)
        simp [this]
        simpa using ih h.2 e
  rw [this]
  rfl
end Hz

namespace Hz
open PySem PySem.Spec PyProof.Rows L2
theorem Ok_while {c : Env → R (Bool × Env)} {body : Env → R (Fl × Env)} {e : Env} {Q : Fl × Env → Prop} (I : Nat → Env → Prop) (m : Nat) (hm : m < 1000000) (h0 : I m e)
    (st : ∀ m e, I m e → Ok (c e) fun r => (r.1 = true → Ok (body r.2) fun q => q.1 = .nx ∧ ∃ m', m' < m ∧ I m' q.2) ∧ (r.1 = false → Q (.nx, r.2))) : Ok (whileS c body e) Q := by
  obtain ⟨e0, m0, e', h1, h2, h3⟩ := whileL_inv I fuel m e hm h0 (fun m e hI => by
    obtain ⟨⟨t, e1⟩, h1, h2, _⟩ := st m e hI
    refine ⟨t, e1, h1, fun ht => ?_⟩
    obtain ⟨⟨fl, e2⟩, h3, h4, m', h5, h6⟩ := h2 ht
    cases h4
    exact ⟨e2, m', h3, h5, h6⟩)
  obtain ⟨r, q1, _, q2⟩ := st m0 e0 h1
  rw [h2] at q1
  cases q1
  exact ⟨_, h3, q2 rfl⟩
/-- a for loop that may return -/
theorem Ok_forR {α : Type} {b : D → Env → Option Env} {body : Env → R (Fl × Env)} {e : Env} {Q : Fl × Env → Prop} (enc : α → D) (xs : List α) (I : Nat → Env → Prop) (h0 : I 0 e) (st : ∀ i x e, xs[i]? = some x → I i e → ∃ e1, b (enc x) e = some e1 ∧ Ok (body e1) fun r => (r.1 = .nx ∧ I (i + 1) r.2) ∨ ∃ d, r.1 = .rt d ∧ Q (.rt d, r.2))
    (q : ∀ e', I xs.length e' → Q (.nx, e')) : Ok (forL b body (xs.map enc) e) Q := by
  have key : ∀ (ys : List α) (i : Nat) (e : Env), xs.drop i = ys → i + ys.length = xs.length → I i e → Ok (forL b body (ys.map enc) e) Q := by
    intro ys
    induction ys with
    | nil =>
      intro i e hd hl h
      refine ⟨_, rfl, q e ?_⟩
      have z : xs.length = i := by simpa using hl.symm
      rw [z]
      exact h
    | cons y ys ih =>
      intro i e hd hl h
      have hx : xs[i]? = some y := by
        have := congrArg (fun l => l[0]?) hd
        simpa using this
      have hd2 : xs.drop (i + 1) = ys := by
        rw [← List.drop_drop, hd]
        rfl
      obtain ⟨e1, h1, ⟨fl, e2⟩, h2, h3⟩ := st i y e hx h
      rw [List.map_cons, forL, h1]
      simp only [lift_some, bind_ok, h2]
      rcases h3 with ⟨rfl, h3⟩ | ⟨d, rfl, h3⟩
      · exact ih (i + 1) e2 hd2 (by rw [List.length_cons] at hl; omega) h3
      · exact ⟨_, rfl, h3⟩
  exact key xs 0 e rfl (by simp) h0
/-! ### going up a tree -/
def up (t : List Nat) (h : Nat) : Nat := if h = 0 then 0 else t.getD (h - 1) 0
def upN (t : List Nat) : Nat → Nat → Nat
  | 0, h => h
  | k + 1, h => upN t k (up t h)
def farN (t : List Nat) : Nat → Nat → Option Nat
  | f, 0 => some 0
  | 0, _ + 1 => none
  | f + 1, h + 1 => (farN t f (up t (h + 1))).map (· + 1)
def Whole (t : List Nat) : Prop := ∀ x ∈ t, x ≤ t.length
section
variable {t : List Nat}
theorem up_zero : up t 0 = 0 := rfl
theorem up_at {h x : Nat} (hx : t[h]? = some x) : up t (h + 1) = x := by
  unfold up
  rw [if_neg (by omega)]
  simp [List.getD, hx]
theorem up_get {h : Nat} (h1 : 1 ≤ h) (h2 : h ≤ t.length) : t[h - 1]? = some (up t h) := by
  unfold up
  rw [if_neg (by omega), List.getD, List.getElem?_eq_getElem (by omega)]
  rfl
theorem up_le (w : Whole t) (h : Nat) : up t h ≤ t.length := by
  unfold up
  split
  · omega
  · rw [List.getD]
    cases e : t[h - 1]? with
    | none => simp
    | some x => exact w x (List.mem_of_getElem? e)
theorem upN_zero : ∀ k, upN t k 0 = 0
  | 0 => rfl
  | k + 1 => by rw [upN, up_zero, upN_zero k]
theorem upN_add : ∀ (i j h : Nat), upN t (i + j) h = upN t j (upN t i h)
  | 0, j, h => by rw [Nat.zero_add]; rfl
  | i + 1, j, h => by rw [show i + 1 + j = i + j + 1 by omega, upN, upN, upN_add i j]
theorem upN_le (w : Whole t) : ∀ (k h : Nat), h ≤ t.length → upN t k h ≤ t.length
  | 0, h, hh => hh
  | k + 1, h, _ => upN_le w k _ (up_le w h)
theorem upN_stay {i j h : Nat} (hij : i ≤ j) (h0 : upN t i h = 0) : upN t j h = 0 := by
  rw [show j = i + (j - i) by omega, upN_add, h0, upN_zero]
theorem farN_zero (f : Nat) : farN t f 0 = some 0 := by cases f <;> rfl
theorem farN_iff : ∀ (f h : Nat), (farN t f h).isSome = true ↔ upN t f h = 0
  | 0, 0 => by simp [farN, upN]
  | 0, h + 1 => by simp [farN, upN]
  | f + 1, 0 => by simp [farN, upN, up_zero, upN_zero]
  | f + 1, h + 1 => by
    rw [farN, Option.isSome_map, farN_iff f, upN]
theorem farN_far : ∀ (f h k : Nat), farN t f h = some k → k ≤ f ∧ upN t k h = 0 ∧ ∀ j, j < k → upN t j h ≠ 0
  | f, 0, k, e => by
    rw [farN_zero] at e
    cases e
    exact ⟨Nat.zero_le _, rfl, fun j hj => by omega⟩
  | 0, h + 1, k, e => by cases e
  | f + 1, h + 1, k, e => by
    rw [farN, Option.map_eq_some_iff] at e
    obtain ⟨k', e, rfl⟩ := e
    obtain ⟨h1, h2, h3⟩ := farN_far f _ k' e
    refine ⟨by omega, h2, fun j hj => ?_⟩
    cases j with
    | zero => simp [upN]
    | succ j => exact h3 j (by omega)
theorem farN_mono : ∀ (f g h k : Nat), f ≤ g → farN t f h = some k → farN t g h = some k
  | f, g, 0, k, _, e => by rw [farN_zero] at e ⊢; exact e
  | 0, g, h + 1, k, _, e => by cases e
  | f + 1, 0, h + 1, k, hg, e => by omega
  | f + 1, g + 1, h + 1, k, hg, e => by
    rw [farN, Option.map_eq_some_iff] at e ⊢
    obtain ⟨k', e, rfl⟩ := e
    exact ⟨k', farN_mono f g _ k' (by omega) e, rfl⟩
end
theorem nodup_le : ∀ (n : Nat) (l : List Nat), l.Nodup → (∀ x ∈ l, x < n) → l.length ≤ n
  | 0, [], _, _ => Nat.le_refl _
  | 0, x :: l, _, h => by have := h x List.mem_cons_self; omega
  | n + 1, l, hd, h => by
    have h1 := nodup_le n (l.erase n) (hd.erase n) (fun x hx => by
      have := h x (List.mem_of_mem_erase hx)
      have : x ≠ n := fun z => by
        rw [z] at hx
        exact (List.Nodup.not_mem_erase hd) hx
      omega)
    have h2 : l.length ≤ (l.erase n).length + 1 := by
      rw [List.length_erase]
      split <;> omega
    omega
theorem upN_pigeon {t : List Nat} (w : Whole t) {h : Nat} (hh : h ≤ t.length) (e : upN t (t.length + 1) h = 0) : upN t t.length h = 0 := by
  refine Classical.byContradiction fun hn => ?_
  have nz : ∀ i, i ≤ t.length → upN t i h ≠ 0 := fun i hi z => hn (upN_stay hi z)
  have hd : ((List.range (t.length + 1)).map fun i => upN t i h - 1).Nodup := by
    rw [List.nodup_iff_pairwise_ne, List.pairwise_map]
    refine List.Pairwise.imp_of_mem (R := fun i j => i < j) (fun {i j} hi hj hij z => ?_) List.pairwise_lt_range
    simp at hi hj
    have h1 := nz i (by omega)
    have h2 := nz j (by omega)
    have z' : upN t i h = upN t j h := by omega
    have h3 : upN t (i + (t.length + 1 - j)) h = 0 := by rw [upN_add, z', ← upN_add, show j + (t.length + 1 - j) = t.length + 1 by omega, e]
    exact nz _ (by omega) h3
  have := nodup_le t.length _ hd (fun x hx => by
    simp at hx
    obtain ⟨i, hi, rfl⟩ := hx
    have h1 := nz i (by omega)
    have h2 := upN_le w i h hh
    omega)
  simp at this
  omega
structure IsTree (t : List Nat) : Prop where
  pos : 1 ≤ t.length
  le : ∀ x ∈ t, x ≤ t.length
  rank : ∃ r : Nat → Nat, (∀ h, h ≤ t.length → r h ≤ t.length) ∧ ∀ (k x : Nat), t[k]? = some x → r x < r (k + 1)
theorem IsTree.top {t : List Nat} (T : IsTree t) {h : Nat} (hh : h ≤ t.length) : upN t t.length h = 0 := by
  obtain ⟨r, h1, h2⟩ := T.rank
  have key : ∀ (n h : Nat), h ≤ t.length → r h ≤ n → upN t n h = 0 := by
    intro n
    induction n with
    | zero =>
      intro h hh hr
      by_cases z : h = 0
      · rw [z, upN_zero]
      · have := h2 (h - 1) (up t h) (up_get (by omega) hh)
        rw [show h - 1 + 1 = h by omega] at this
        omega
    | succ n ih =>
      intro h hh hr
      by_cases z : h = 0
      · rw [z, upN_zero]
      · have := h2 (h - 1) (up t h) (up_get (by omega) hh)
        rw [show h - 1 + 1 = h by omega] at this
        rw [upN]
        exact ih _ (up_le T.le h) (by omega)
  exact key t.length h hh (h1 h hh)
theorem IsTree.far {t : List Nat} (T : IsTree t) {h : Nat} (hh : h ≤ t.length) : ∃ k, k ≤ t.length ∧ farN t (t.length + 1) h = some k ∧ farN t t.length h = some k := by
  obtain ⟨k, hk⟩ := Option.isSome_iff_exists.mp ((farN_iff t.length h).mpr (T.top hh))
  exact ⟨k, (farN_far _ _ _ hk).1, farN_mono _ _ _ _ (by omega) hk, hk⟩
end Hz

namespace Hz
open PySem PySem.Spec PyProof.Rows L2
theorem ofOk {α : Type} {r : R α} {a : α} (h : Ok r fun x => x = a) : r = .ok a := by
  obtain ⟨x, e, rfl⟩ := h
  exact e
/-- a comprehension whose elements hang on those before -/
theorem compL_acc {α β : Type} {vs : List Nat} {b : D → Env → Option Env} {el : Env → R (D × Env)} (enc : α → D) (en2 : β → D) (I : List β → Env → Prop) (n : Nat)
    (st : ∀ x acc e, acc.length < n → I acc e → ∃ e1, b (enc x) e = some e1 ∧ Ok (el e1) fun r => ∃ y, r.1 = en2 y ∧ I (acc ++ [y]) (wipeE r.2 vs)) :
    ∀ (xs : List α) (acc : List β) (e : Env), acc.length + xs.length ≤ n → I acc e → ∃ ys e', compL vs b yesT el (xs.map enc) e = .ok (ys.map en2, e') ∧ I (acc ++ ys) e' ∧ ys.length = xs.length
  | [], acc, e, _, h => ⟨[], e, rfl, by simpa using h, rfl⟩
  | x :: xs, acc, e, hl, h => by
    rw [List.length_cons] at hl
    obtain ⟨e1, h1, ⟨d, e2⟩, h2, y, h3, h4⟩ := st x acc e (by omega) h
    simp only at h3
    subst h3
    obtain ⟨ys, e', h5, h6, h7⟩ := compL_acc enc en2 I n st xs (acc ++ [y]) _ (by simp; omega) h4
    refine ⟨y :: ys, e', ?_, by simpa using h6, by simp [h7]⟩
    rw [List.map_cons, compL, h1]
    simp only [lift_some, bind_ok, ev_yesT, ne_ok, if_true, h2]
    rw [h5]
    rfl
theorem Ok_compA {α β : Type} {fi : Env → R (List D × Env)} {vs : List Nat} {b : D → Env → Option Env} {el : Env → R (D × Env)} {env env1 : Env} {Q : D × Env → Prop} (enc : α → D) (en2 : β → D) (xs : List α) (I : List β → Env → Prop) (hi : fi env = .ok (xs.map enc, env1)) (hl : xs.length ≤ 1000000) (h0 : I [] (wipeE env1 vs))
    (st : ∀ x acc e, acc.length < xs.length → I acc e → ∃ e1, b (enc x) e = some e1 ∧ Ok (el e1) fun r => ∃ y, r.1 = en2 y ∧ I (acc ++ [y]) (wipeE r.2 vs))
    (q : ∀ (ys : List β) (e' : Env), I ys e' → ys.length = xs.length → Q (.list (ys.map en2), restE env1 vs e')) : Ok (compD fi vs b yesT el env) Q := by
  obtain ⟨ys, e', h1, h2, h3⟩ := compL_acc enc en2 I xs.length st xs [] _ (by simp) h0
  refine ⟨_, ?_, q ys e' (by simpa using h2) h3⟩
  unfold compD
  rw [hi]
  simp only [bind_ok]
  rw [if_pos (by simpa using hl), h1]
  rfl
theorem zip2_map {α : Type} (f : α → D) (hf : ∀ a b, needN [f a, f b] = false) (xs ys : List α) : zip2 [.tuple (xs.map f), .tuple (ys.map f)] = some ((xs.zip ys).map fun p => .tuple [f p.1, f p.2]) := by
  have hz : ∀ (xs ys : List α), (xs.map f).zip (ys.map f) = (xs.zip ys).map fun p => (f p.1, f p.2) := by
    intro xs
    induction xs with
    | nil => intro ys; rfl
    | cons x xs ih =>
      intro ys
      cases ys with
      | nil => rfl
      | cons y ys => simp [ih]
  simp only [zip2]
  rw [hz, if_pos]
  · rw [List.map_map]
    rfl
  · rw [List.all_eq_true]
    intro p hp
    obtain ⟨i, _, rfl⟩ := List.mem_map.mp hp
    simp [hf]
end Hz

namespace Hz
open PySem PySem.Spec PyProof.Rows L2
/-! ### posts: reckoning by simp -/
def posR (xt xb xs xi xa xl xh xr xf xw xk xg xo : D) : D := insD [(.str "tree", xt), (.str "book", xb), (.str "shows", xs), (.str "items_left", xi), (.str "at", xa), (.str "tellings", xl), (.str "here", xh), (.str "broken", xr), (.str "fogs", xf), (.str "wrong", xw), (.str "books", xk), (.str "got_there", xg), (.str "told", xo)]
def setF (f : Str) (d x : D) : D := match insOf x with
  | some ds => insD (setD f d ds)
  | none => x
def oD {α : Type} (o : Option (Option D)) (k : D → Option α) : Option α := match o with
  | some (some d) => k d
  | _ => none
@[simp] theorem oD_s {α : Type} (d : D) (k : D → Option α) : oD (some (some d)) k = k d := nr rfl
def insK {α : Type} (d : D) (k : List (D × D) → R α) : R α := match insOf d with
  | some ds => if ds.length < 1000 then k ds else .bad
  | none => .bad
def setK (o : Option (Option D)) (e : Env) (i : Nat) (f : Str) (d : D) : R (Fl × Env) := getD2 o fun x => insK x fun ds => .ok (.nx, e.set i (some (setF f d x)))
section
variable (xt xb xs xi xa xl xh xr xf xw xk xg xo d : D)
@[simp] theorem fld_tree : fldD "tree" (posR xt xb xs xi xa xl xh xr xf xw xk xg xo) = some xt := nr (by rfl)
@[simp] theorem set_tree : setF "tree" d (posR xt xb xs xi xa xl xh xr xf xw xk xg xo) = (posR d xb xs xi xa xl xh xr xf xw xk xg xo) := nr (by rfl)
@[simp] theorem fld_book : fldD "book" (posR xt xb xs xi xa xl xh xr xf xw xk xg xo) = some xb := nr (by rfl)
@[simp] theorem set_book : setF "book" d (posR xt xb xs xi xa xl xh xr xf xw xk xg xo) = (posR xt d xs xi xa xl xh xr xf xw xk xg xo) := nr (by rfl)
@[simp] theorem fld_shows : fldD "shows" (posR xt xb xs xi xa xl xh xr xf xw xk xg xo) = some xs := nr (by rfl)
@[simp] theorem set_shows : setF "shows" d (posR xt xb xs xi xa xl xh xr xf xw xk xg xo) = (posR xt xb d xi xa xl xh xr xf xw xk xg xo) := nr (by rfl)
@[simp] theorem fld_items_left : fldD "items_left" (posR xt xb xs xi xa xl xh xr xf xw xk xg xo) = some xi := nr (by rfl)
@[simp] theorem set_items_left : setF "items_left" d (posR xt xb xs xi xa xl xh xr xf xw xk xg xo) = (posR xt xb xs d xa xl xh xr xf xw xk xg xo) := nr (by rfl)
@[simp] theorem fld_at : fldD "at" (posR xt xb xs xi xa xl xh xr xf xw xk xg xo) = some xa := nr (by rfl)
@[simp] theorem set_at : setF "at" d (posR xt xb xs xi xa xl xh xr xf xw xk xg xo) = (posR xt xb xs xi d xl xh xr xf xw xk xg xo) := nr (by rfl)
@[simp] theorem fld_tellings : fldD "tellings" (posR xt xb xs xi xa xl xh xr xf xw xk xg xo) = some xl := nr (by rfl)
@[simp] theorem set_tellings : setF "tellings" d (posR xt xb xs xi xa xl xh xr xf xw xk xg xo) = (posR xt xb xs xi xa d xh xr xf xw xk xg xo) := nr (by rfl)
@[simp] theorem fld_here : fldD "here" (posR xt xb xs xi xa xl xh xr xf xw xk xg xo) = some xh := nr (by rfl)
@[simp] theorem set_here : setF "here" d (posR xt xb xs xi xa xl xh xr xf xw xk xg xo) = (posR xt xb xs xi xa xl d xr xf xw xk xg xo) := nr (by rfl)
@[simp] theorem fld_broken : fldD "broken" (posR xt xb xs xi xa xl xh xr xf xw xk xg xo) = some xr := nr (by rfl)
@[simp] theorem set_broken : setF "broken" d (posR xt xb xs xi xa xl xh xr xf xw xk xg xo) = (posR xt xb xs xi xa xl xh d xf xw xk xg xo) := nr (by rfl)
@[simp] theorem fld_fogs : fldD "fogs" (posR xt xb xs xi xa xl xh xr xf xw xk xg xo) = some xf := nr (by rfl)
@[simp] theorem set_fogs : setF "fogs" d (posR xt xb xs xi xa xl xh xr xf xw xk xg xo) = (posR xt xb xs xi xa xl xh xr d xw xk xg xo) := nr (by rfl)
@[simp] theorem fld_wrong : fldD "wrong" (posR xt xb xs xi xa xl xh xr xf xw xk xg xo) = some xw := nr (by rfl)
@[simp] theorem set_wrong : setF "wrong" d (posR xt xb xs xi xa xl xh xr xf xw xk xg xo) = (posR xt xb xs xi xa xl xh xr xf d xk xg xo) := nr (by rfl)
@[simp] theorem fld_books : fldD "books" (posR xt xb xs xi xa xl xh xr xf xw xk xg xo) = some xk := nr (by rfl)
@[simp] theorem set_books : setF "books" d (posR xt xb xs xi xa xl xh xr xf xw xk xg xo) = (posR xt xb xs xi xa xl xh xr xf xw d xg xo) := nr (by rfl)
@[simp] theorem fld_got_there : fldD "got_there" (posR xt xb xs xi xa xl xh xr xf xw xk xg xo) = some xg := nr (by rfl)
@[simp] theorem set_got_there : setF "got_there" d (posR xt xb xs xi xa xl xh xr xf xw xk xg xo) = (posR xt xb xs xi xa xl xh xr xf xw xk d xo) := nr (by rfl)
@[simp] theorem fld_told : fldD "told" (posR xt xb xs xi xa xl xh xr xf xw xk xg xo) = some xo := nr (by rfl)
@[simp] theorem set_told : setF "told" d (posR xt xb xs xi xa xl xh xr xf xw xk xg xo) = (posR xt xb xs xi xa xl xh xr xf xw xk xg d) := nr (by rfl)
@[simp] theorem mOk_row_waiting : mOk "row_waiting" (posR xt xb xs xi xa xl xh xr xf xw xk xg xo) = true := nr (by rfl)
@[simp] theorem mOk_note : mOk "note" (posR xt xb xs xi xa xl xh xr xf xw xk xg xo) = true := nr (by rfl)
@[simp] theorem mOk_under_way : mOk "under_way" (posR xt xb xs xi xa xl xh xr xf xw xk xg xo) = true := nr (by rfl)
@[simp] theorem mOk_log : mOk "log" (posR xt xb xs xi xa xl xh xr xf xw xk xg xo) = true := nr (by rfl)
@[simp] theorem mOk_break_off : mOk "break_off" (posR xt xb xs xi xa xl xh xr xf xw xk xg xo) = true := nr (by rfl)
@[simp] theorem mOk_finish : mOk "finish" (posR xt xb xs xi xa xl xh xr xf xw xk xg xo) = true := nr (by rfl)
@[simp] theorem mOk_waiting : mOk "waiting" (posR xt xb xs xi xa xl xh xr xf xw xk xg xo) = true := nr (by rfl)
@[simp] theorem mOk_standing : mOk "standing" (posR xt xb xs xi xa xl xh xr xf xw xk xg xo) = true := nr (by rfl)
@[simp] theorem mOk_heard_by : mOk "heard_by" (posR xt xb xs xi xa xl xh xr xf xw xk xg xo) = true := nr (by rfl)
@[simp] theorem mOk_send : mOk "send" (posR xt xb xs xi xa xl xh xr xf xw xk xg xo) = true := nr (by rfl)
@[simp] theorem mOk_begin : mOk "begin" (posR xt xb xs xi xa xl xh xr xf xw xk xg xo) = true := nr (by rfl)
@[simp] theorem mOk_hear : mOk "hear" (posR xt xb xs xi xa xl xh xr xf xw xk xg xo) = true := nr (by rfl)
@[simp] theorem mOk_pass_on : mOk "pass_on" (posR xt xb xs xi xa xl xh xr xf xw xk xg xo) = true := nr (by rfl)
@[simp] theorem mOk_go : mOk "go" (posR xt xb xs xi xa xl xh xr xf xw xk xg xo) = true := nr (by rfl)
@[simp] theorem mOk_moment : mOk "moment" (posR xt xb xs xi xa xl xh xr xf xw xk xg xo) = true := nr (by rfl)
@[simp] theorem mOk_shown_now : mOk "shown_now" (posR xt xb xs xi xa xl xh xr xf xw xk xg xo) = true := nr (by rfl)
@[simp] theorem mOk_withdraw : mOk "withdraw" (posR xt xb xs xi xa xl xh xr xf xw xk xg xo) = true := nr (by rfl)
@[simp] theorem mOk_fog : mOk "fog" (posR xt xb xs xi xa xl xh xr xf xw xk xg xo) = true := nr (by rfl)
@[simp] theorem mOk_slip : mOk "slip" (posR xt xb xs xi xa xl xh xr xf xw xk xg xo) = true := nr (by rfl)
@[simp] theorem mOk_need_lower : mOk "need_lower" (posR xt xb xs xi xa xl xh xr xf xw xk xg xo) = true := nr (by rfl)
@[simp] theorem mOk_twin : mOk "twin" (posR xt xb xs xi xa xl xh xr xf xw xk xg xo) = true := nr (by rfl)
@[simp] theorem insK_p {α : Type} (k : List (D × D) → R α) : insK (posR xt xb xs xi xa xl xh xr xf xw xk xg xo) k = k [(.str "tree", xt), (.str "book", xb), (.str "shows", xs), (.str "items_left", xi), (.str "at", xa), (.str "tellings", xl), (.str "here", xh), (.str "broken", xr), (.str "fogs", xf), (.str "wrong", xw), (.str "books", xk), (.str "got_there", xg), (.str "told", xo)] := nr (by rfl)
@[simp] theorem setK_p (e : Env) (i : Nat) (f : Str) : setK (some (some (posR xt xb xs xi xa xl xh xr xf xw xk xg xo))) e i f d = .ok (.nx, e.set i (some (setF f d (posR xt xb xs xi xa xl xh xr xf xw xk xg xo)))) := nr (by rfl)
end
section
variable (e : Env) (i j n : Nat) (f key m : Str) (a b : Env → R (D × Env)) (A : Env → R (List D × Env)) (F : List D → R D) (T : List D → R (D × D)) (s : Env → R (Bool × Env)) (S : Env → R (Fl × Env)) (q k : Env → R D) (qb : Env → R Bool) (qa : Env → R (List D)) (c : Env → R Unit)
@[simp] theorem fldAt_o : fldAt e i f = oD e[i]? (fldD f) := by
  unfold fldAt insAt oD fldD
  cases e[i]? with
  | none => exact nr rfl
  | some o => cases o <;> exact nr rfl
def oL (o : Option D) : Option (List D) := match o with
  | some (.list es) => some es
  | _ => none
@[simp] theorem oL_l (es : List D) : oL (some (.list es)) = some es := nr rfl
def oT (o : Option D) : Option (List (D × D)) := match o with
  | some (.dict es) => some es
  | _ => none
@[simp] theorem oT_d (es : List (D × D)) : oT (some (.dict es)) = some es := nr rfl
@[simp] theorem fldL_o : fldL e i f = oL (oD e[i]? (fldD f)) := by rw [← fldAt_o]; unfold fldL oL; exact nr rfl
@[simp] theorem fldT_o : fldT e i f = oT (oD e[i]? (fldD f)) := by rw [← fldAt_o]; unfold fldT oT; exact nr rfl
def sA (o : Option (Option D)) (e : Env) (i : Nat) (f : Str) (d : D) : Env := match o with
  | some (some x) => match insOf x with
    | some ds => e.set i (some (setF f d x))
    | none => e
  | _ => e
theorem setAt_o (d : D) : setAt e i f d = sA e[i]? e i f d := by
  unfold setAt insAt sA
  cases e[i]? with
  | none => rfl
  | some o =>
    cases o with
    | none => rfl
    | some x =>
      cases hx : insOf x with
      | none => simp only [hx]
      | some ds =>
        simp only [hx]
        unfold setF
        rw [hx]
@[simp] theorem ev_quI : quI q e = (q e).bind fun d => .ok (d, e) := nr rfl
@[simp] theorem ev_quT : quT qb e = (qb e).bind fun d => .ok (d, e) := nr rfl
@[simp] theorem ev_brwQ : brwQ a e = (a e).bind fun x => if lightD x.1 = true then .ok x.1 else .bad := nr rfl
@[simp] theorem ev_brwB : brwB s e = (s e).bind fun x => .ok x.1 := nr rfl
@[simp] theorem ev_brwN : brwN a e = (a e).bind fun x => if lightC x.1 = true then .ok x.1 else .bad := nr rfl
@[simp] theorem ev_hidQ (own : List Nat) : hidQ own a e = (a (wipeE e own)).bind fun x => .ok x.1 := nr rfl
@[simp] theorem ev_qNil : qNil e = .ok [] := nr rfl
@[simp] theorem ev_qCons : qCons q qa e = (q e).bind fun x => (qa e).bind fun y => .ok (x :: y) := nr rfl
@[simp] theorem ev_qDisp (ks : List Str) : qDisp ks qa e = (qa e).bind fun ds => .ok (.dict (mergeD [] ((ks.zip ds).map fun p => (.str p.1, p.2)))) := nr rfl
@[simp] theorem ev_callMP : callMP m F a A e = (a e).bind fun x => if mOk m x.1 = true then (A x.2).bind fun y => (F (x.1 :: y.1)).bind fun d => .ok (d, y.2) else .bad := nr rfl
@[simp] theorem ev_callM : callM m T i A e = getD2 e[i]? fun t0 => if mOk m t0 = true then (A e).bind fun y => getD2 y.2[i]? fun t => (T (t :: y.1)).bind fun r => .ok (r.1, y.2.set i (some r.2)) else .bad := by unfold callM getD2; exact nr rfl
@[simp] theorem ev_dropC : dropC q e = (q e).bind fun _ => .ok () := nr rfl
@[simp] theorem ev_guardC : guardC qb n e = (qb e).bind fun b => if b = true then .err n else .ok () := nr rfl
@[simp] theorem ev_chkS : chkS c S e = (c e).bind fun _ => S e := nr rfl
theorem ev_neS : neS S e = (S e).ne := rfl
@[simp] theorem ev_retN : retN e = .ok (.rt .none, e) := nr rfl
@[simp] theorem ev_fldS : fldS i f a e = (a e).bind fun x => setK x.2[i]? x.2 i f x.1 := by
  unfold fldS
  congr 1
  funext x
  unfold insAt setK getD2 insK
  cases x.2[i]? with
  | none => exact nr rfl
  | some o =>
    cases o with
    | none => exact nr rfl
    | some y =>
      simp only
      cases hy : insOf y with
      | none => exact nr rfl
      | some ds =>
        simp only [lift_some, bind_ok]
        unfold setF
        rw [hy]
@[simp] theorem ev_fldO : fldO i f e = lift (oD e[i]? (fldD f)) := by unfold fldO; rw [fldAt_o]
def dctK {α : Type} (d : D) (k : List (D × D) → R α) : R α := match d with
  | .dict es => k es
  | _ => .bad
@[simp] theorem dctK_d {α : Type} (es : List (D × D)) (k : List (D × D) → R α) : dctK (.dict es) k = k es := nr rfl
def odK {α : Type} (o : Option D) (k : List (D × D) → R α) : R α := match o with
  | some (.dict es) => k es
  | _ => .bad
@[simp] theorem odK_d {α : Type} (es : List (D × D)) (k : List (D × D) → R α) : odK (some (.dict es)) k = k es := nr rfl
def olK {α : Type} (o : Option D) (k : List D → R α) : R α := match o with
  | some (.list es) => k es
  | _ => .bad
@[simp] theorem olK_l {α : Type} (es : List D) (k : List D → R α) : olK (some (.list es)) k = k es := nr rfl
@[simp] theorem ev_dputF : dputF i f k a e = (a e).bind fun x => (lift (oD x.2[i]? (fldD f))).bind fun d => (k x.2).bind fun y => (lift (keyOf y)).bind fun ky => dctK d fun es => if es.length < 1000 then .ok (.nx, sA x.2[i]? x.2 i f (.dict (putD es (kD ky) x.1))) else .bad := by
  unfold dputF dctK
  simp only [fldAt_o, setAt_o]
  all_goals exact nr rfl
@[simp] theorem ev_appF : appF i f q e = (lift (oL (oD e[i]? (fldD f)))).bind fun es => (q e).bind fun x => if es.length < 1000000 then .ok (.nx, sA e[i]? e i f (.list (es ++ [x]))) else .bad := by
  unfold appF
  simp only [fldL_o, setAt_o]
@[simp] theorem ev_dputL : dputL i f key q a e = (a e).bind fun x => (lift (oL (oD x.2[i]? (fldD f)))).bind fun es => (q x.2).bind fun y => intK y fun j => (lift (ixN es.length j)).bind fun m => odK es[m]? fun ks => if ks.length < 1000 then .ok (.nx, sA x.2[i]? x.2 i f (.list (es.set m (.dict (putD ks (.str key) x.1))))) else .bad := by
  unfold dputL intK odK
  simp only [fldL_o, setAt_o]
  all_goals exact nr rfl
@[simp] theorem ev_appLN : appLN i f q e = (lift (oL (oD e[i]? (fldD f)))).bind fun es => (q e).bind fun x => if es.length < 1000000 ∧ newOk "told" x = true then .ok (.nx, sA e[i]? e i f (.list (es ++ [x]))) else .bad := by
  unfold appLN
  simp only [fldL_o, setAt_o]
@[simp] theorem ev_dputN : dputN i f k a e = (a e).bind fun x => (lift (oT (oD x.2[i]? (fldD f)))).bind fun es => (k x.2).bind fun y => (lift (keyOf y)).bind fun ky => if es.length < 1000 ∧ newOk "told" x.1 = true ∧ (valD es (kD ky)).isNone = true then .ok (.nx, sA x.2[i]? x.2 i f (.dict (es ++ [(kD ky, x.1)]))) else .bad := by
  unfold dputN
  simp only [fldT_o, setAt_o]
@[simp] theorem ev_appD : appD i f k q e = (lift (oT (oD e[i]? (fldD f)))).bind fun es => (k e).bind fun y => (lift (keyOf y)).bind fun ky => olK (valD es (kD ky)) fun xs => (q e).bind fun x => if xs.length < 1000000 then .ok (.nx, sA e[i]? e i f (.dict (setG (kD ky) (.list (xs ++ [x])) es))) else .bad := by
  unfold appD olK
  simp only [fldT_o, setAt_o]
  all_goals exact nr rfl
@[simp] theorem ev_dpopF : dpopF i f k e = (lift (oT (oD e[i]? (fldD f)))).bind fun es => (k e).bind fun y => (lift (keyOf y)).bind fun ky => (lift (valD es (kD ky))).bind fun d => .ok (d, sA e[i]? e i f (.dict (dropD (kD ky) es))) := by
  unfold dpopF
  simp only [fldT_o, setAt_o]
@[simp] theorem ev_rdL : rdL i f key q e = (lift (oL (oD e[i]? (fldD f)))).bind fun es => (q e).bind fun y => intK y fun j => (lift (ixN es.length j)).bind fun m => odK es[m]? fun ks => (lift (valD ks (.str key))).bind .ok := by
  unfold rdL intK odK
  simp only [fldL_o]
  all_goals exact nr rfl
def liK (d : D) (k : List D → R (D × Env)) : R (D × Env) := match d with
  | .list ds => k ds
  | _ => .bad
@[simp] theorem liK_l (ds : List D) (k : List D → R (D × Env)) : liK (.list ds) k = k ds := nr rfl
@[simp] theorem ev_sliceL (lo hi : Env → R (Option Int × Env)) : sliceL a lo hi e = (a e).bind fun x => (lo x.2).bind fun l => (hi l.2).bind fun h => liK x.1 fun ds => .ok (.list (cutL ds l.1 h.1), h.2) := by unfold sliceL liK; exact nr rfl
@[simp] theorem ev_makeD : makeD T A e = (A e).bind fun y => (T (insD [] :: y.1)).bind fun r => match r.1 with
  | .none => .ok (r.2, y.2)
  | _ => .bad := nr rfl
@[simp] theorem ev_pairFS : pairFS j i f T A e = (A e).bind fun y => (T y.1).bind fun d => if j < y.2.length then setK (y.2.set j (some d.1))[i]? (y.2.set j (some d.1)) i f d.2 else .bad := by
  unfold pairFS
  congr 1
  funext y
  congr 1
  funext d
  congr 1
  unfold insAt setK getD2 insK
  cases (y.2.set j (some d.1))[i]? with
  | none => exact nr rfl
  | some o =>
    cases o with
    | none => exact nr rfl
    | some y =>
      simp only
      cases hy : insOf y with
      | none => exact nr rfl
      | some ds =>
        simp only [lift_some, bind_ok]
        unfold setF
        rw [hy]
theorem ev_seqR (g : Env → R (D × Env)) : seqR S g e = (S e).bind fun r => match r.1 with
  | .nx => g r.2
  | _ => .bad := rfl
@[simp] theorem keyOf_n : keyOf (nD n) = some (.inl (n : Int)) := nr rfl
@[simp] theorem kD_n : kD (.inl (n : Int)) = nD n := nr rfl
@[simp] theorem light_n : lightD (nD n) = true := nr rfl
@[simp] theorem light_i (z : Int) : lightD (.int z) = true := nr rfl
@[simp] theorem light_s (x : Str) : lightD (.str x) = true := nr rfl
@[simp] theorem light_none : lightD .none = true := nr rfl
@[simp] theorem light_b (b : Bool) : lightD (.bool b) = true := nr rfl
end
section
variable (xt xb xs xi xa xl xh xr xf xw xk xg xo d : D)
@[simp] theorem sA_p (e : Env) (i : Nat) (f : Str) : sA (some (some (posR xt xb xs xi xa xl xh xr xf xw xk xg xo))) e i f d = e.set i (some (setF f d (posR xt xb xs xi xa xl xh xr xf xw xk xg xo))) := nr (by rfl)
end
theorem Ok_ne {α : Type} {r : R α} {P : α → Prop} (h : Ok r P) : Ok r.ne P := by
  obtain ⟨a, rfl, p⟩ := h
  exact ⟨a, rfl, p⟩
theorem Ok_neS {f : Env → R (Fl × Env)} {e : Env} {P : Fl × Env → Prop} (h : Ok (f e) P) : Ok (neS f e) P := Ok_ne h
def resK (k : Nat) (a : Fl × Env) (P : D × D → Prop) : Prop := ∃ t, a.2[k]? = some (some t) ∧ ((∃ d, a.1 = .rt d ∧ P (d, t)) ∨ (a.1 = .nx ∧ P (.none, t)))
theorem Ok_finK {k : Nat} {r : R (Fl × Env)} {P : D × D → Prop} (h : Ok r fun a => resK k a P) : Ok (finK k r) P := by
  obtain ⟨⟨fl, e⟩, rfl, t, ht, h⟩ := h
  rcases h with ⟨d, hd, p⟩ | ⟨hd, p⟩
  · refine ⟨_, ?_, p⟩
    cases hd
    show (match e[k]? with
      | some (some t) => R.ok (d, t)
      | _ => .bad) = _
    rw [show e[k]? = _ from ht]
  · refine ⟨_, ?_, p⟩
    cases hd
    show (match e[k]? with
      | some (some t) => R.ok (PyData.none, t)
      | _ => .bad) = _
    rw [show e[k]? = _ from ht]
@[simp] theorem resK_rt (k : Nat) (d : D) (e : Env) (P : D × D → Prop) : resK k (.rt d, e) P ↔ ∃ t, e[k]? = some (some t) ∧ P (d, t) := by
  unfold resK
  refine ⟨fun ⟨t, ht, h⟩ => ⟨t, ht, ?_⟩, fun ⟨t, ht, h⟩ => ⟨t, ht, .inl ⟨d, rfl, h⟩⟩⟩
  rcases h with ⟨d', hd, p⟩ | ⟨hd, p⟩
  · cases hd
    exact p
  · cases hd
@[simp] theorem resK_nx (k : Nat) (e : Env) (P : D × D → Prop) : resK k (.nx, e) P ↔ ∃ t, e[k]? = some (some t) ∧ P (.none, t) := by
  unfold resK
  refine ⟨fun ⟨t, ht, h⟩ => ⟨t, ht, ?_⟩, fun ⟨t, ht, h⟩ => ⟨t, ht, .inr ⟨rfl, h⟩⟩⟩
  rcases h with ⟨d', hd, p⟩ | ⟨hd, p⟩
  · cases hd
  · exact p
theorem Ok_seqR {f : Env → R (Fl × Env)} {g : Env → R (D × Env)} {e : Env} {P : D × Env → Prop} (h : Ok (f e) fun r => thenP r (fun e' => Ok (g e') P) False) : Ok (seqR f g e) P := by
  obtain ⟨⟨fl, e1⟩, he, h⟩ := h
  rw [ev_seqR, he]
  cases fl with
  | nx => exact h
  | _ => exact h.elim
theorem Ok_finE {r : R (D × Env)} {P : D → Prop} (h : Ok r fun a => P a.1) : Ok (finE r) P := by
  obtain ⟨a, rfl, p⟩ := h
  exact ⟨_, rfl, p⟩
theorem Ok_finF {i : Nat} {r : R (D × Env)} {P : D × D → Prop} (h : Ok r fun a => ∃ x, a.2[i]? = some (some x) ∧ P (x, a.1)) : Ok (finF i r) P := by
  obtain ⟨a, rfl, x, hx, p⟩ := h
  refine ⟨_, ?_, p⟩
  show (match a.2[i]? with
    | some (some x) => R.ok (x, a.1)
    | _ => .bad) = _
  rw [hx]
end Hz

namespace Hz
open PySem PySem.Spec PyProof.Rows L2
/-! ### draws -/
def twn (k : Nat) : D := .list (List.replicate k (.int 0))
theorem cell_ok (ns : List Int) (k : Nat) : ∃ z, d_law_cell_at [scrV ns, nD k] = .ok (.int z) := by
  have hs : scrD (scrV ns) = some (ns.map PyData.int) := rfl
  have hlen : lenD [scrV ns] = some (nD ns.length) := by simp [scrV, lenD, scrD, nD]
  have hidx : ∀ i : Nat, i < ns.length → ∃ z, idxD (scrV ns) (nD i) = some (.int z) := fun i hi => by
    refine ⟨ns[i], ?_⟩
    show atI (ns.map PyData.int) (i : Int) = _
    exact atI_n (by rw [List.getElem?_map, List.getElem?_eq_getElem hi]; rfl)
  unfold d_law_cell_at b_law_cell_at env0
  by_cases hk : k < ns.length
  · obtain ⟨z, hz⟩ := hidx k hk
    simp [ev_seqS, hlen, hk, hz]
  · have he : eqD (scrV ns) (.list []) = some (.bool (decide (ns = []))) := by
      unfold eqD
      rw [hs]
      have hd : dep 9 (.list (ns.map PyData.int)) = true := by simp [dep]
      simp only
      rw [if_pos ⟨hd, rfl⟩]
      cases ns <;> simp [PyData.eqv, PyData.eqvAll]
    by_cases hn : ns = []
    · rw [decide_eq_true hn] at he
      simp [ev_seqS, hlen, hk, he]
    · rw [decide_eq_false hn] at he
      have hp : 0 < ns.length := List.length_pos_iff.mpr hn
      obtain ⟨z, hz⟩ := hidx (k % ns.length) (Nat.mod_lt _ hp)
      simp [ev_seqS, hlen, hk, he, modD_n k _ hp, hz, mulD_r z 31 (by decide)]
theorem mixed_ok (ns : List Int) (k many : Nat) (hm : 0 < many) : ∃ m, m < many ∧ d_law_mixed [scrV ns, nD k, nD many] = .ok (nD m) := by
  obtain ⟨z, hz⟩ := cell_ok ns k
  have h2 : mulD (.int 7919) (nD k) = some (.int (7919 * k)) := mulD_l _ _ (by decide)
  have h4 : ∀ i : Int, powD (.int (i % 2147483647)) (.int 5) = some (.int ((i % 2147483647) ^ 5)) := fun i => by
    have h := Int.emod_nonneg i (show (2147483647 : Int) ≠ 0 by decide)
    have h' := Int.emod_lt_of_pos i (show (0 : Int) < 2147483647 by decide)
    exact powD_i _ _ ⟨by decide, by decide, by omega⟩
  have h5 : ∀ i : Int, modD (.int i) (nD many) = some (.int (i % many)) := fun i => modD_i i many (by omega)
  have key : ∃ i : Int, d_law_mixed [scrV ns, nD k, nD many] = .ok (.int (i % many)) := by
    unfold d_law_mixed b_law_mixed env0
    simp [ev_seqS, hz, mulD_r z 1103515245 (by decide), h2, modD_i _ 2147483647 (by decide), modD_i _ 999983 (by decide), h4, h5]
    exact ⟨_, rfl⟩
  obtain ⟨i, hi⟩ := key
  have h := Int.emod_nonneg i (show (many : Int) ≠ 0 by omega)
  have h' := Int.emod_lt_of_pos i (show (0 : Int) < many by omega)
  refine ⟨(i % many).toNat, by omega, ?_⟩
  rw [hi]
  unfold nD
  rw [Int.toNat_of_nonneg h]
theorem draw_ok (ns : List Int) (k many : Nat) (hm : 0 < many) (hk : k < 999999) : ∃ m, m < many ∧ d_law_draw [scrV ns, twn k, nD many] = .ok (nD m, twn (k + 1)) := by
  obtain ⟨m, h, e⟩ := mixed_ok ns (k + 1) many hm
  refine ⟨m, h, ?_⟩
  have ht : ownL [some (scrV ns), some (twn k), some (nD many)] 1 = some (List.replicate k (.int 0)) := rfl
  have ht2 : ownL [some (scrV ns), some (twn (k + 1)), some (nD many)] 1 = some (List.replicate (k + 1) (.int 0)) := rfl
  have hr : List.replicate k (PyData.int 0) ++ [PyData.int 0] = List.replicate (k + 1) (.int 0) := List.replicate_succ'.symm
  have hr2 : PyData.list (List.replicate (k + 1) (.int 0)) = twn (k + 1) := rfl
  unfold d_law_draw b_law_draw env0
  simp [ev_seqS, ht, hr, hr2, ht2, e, show k < 1000000 by omega]
  rfl
theorem draw_lit (ns : List Int) (k many : Nat) (md : D) (hmd : md = nD many) (hm : 0 < many) (hk : k < 999999) : ∃ m, m < many ∧ d_law_draw [scrV ns, twn k, md] = .ok (nD m, twn (k + 1)) := by
  subst hmd
  exact draw_ok ns k many hm hk
theorem pick_ok (ns : List Int) (k : Nat) (ds : List D) (hd : ds ≠ []) (hk : k < 999999) : ∃ d, d ∈ ds ∧ d_law_pick [scrV ns, twn k, .list ds] = .ok (d, twn (k + 1)) := by
  obtain ⟨m, h, e⟩ := draw_ok ns k ds.length (List.length_pos_iff.mpr hd) hk
  have hi : idxD (.list ds) (nD m) = some ds[m] := idx_l rfl (List.getElem?_eq_getElem h)
  refine ⟨ds[m], List.getElem_mem h, ?_⟩
  unfold d_law_pick b_law_pick env0
  simp [e, hi]
  rfl
end Hz

namespace Hz
open PySem PySem.Spec PyProof.Rows L2
/-! ### what the defs about trees are worth -/
theorem whole_int (i lo hi : Int) : d_is_whole [.int i, .int lo, .int hi] = .ok (.bool (decide (lo ≤ i) && decide (i ≤ hi))) := by
  unfold d_is_whole b_is_whole env0
  by_cases h1 : lo ≤ i <;> by_cases h2 : i ≤ hi <;> simp [h1, h2]
def belowN (t : List Nat) (h : Nat) : List Nat := (List.range' 1 t.length).filter fun o => decide (up t o = h)
theorem bools_map {α : Type} (f : α → Bool) : ∀ l : List α, boolsOf (l.map fun x => .bool (f x)) = some (l.map f)
  | [] => rfl
  | x :: l => by
    rw [List.map_cons]
    show (boolsOf (l.map fun x => .bool (f x))).map (f x :: ·) = _
    rw [bools_map f l]
    rfl
theorem allD_map {α : Type} (f : α → Bool) (l : List α) : allD [.list (l.map fun x => .bool (f x))] = some (.bool (l.all f)) := by
  show (boolsOf (l.map fun x => .bool (f x))).map (fun bs => PyData.bool (bs.all id)) = _
  rw [bools_map f l]
  simp
section
variable {t : List Nat} (T : IsTree t) (hl : t.length < 8)
include T hl
end
def leavesN (t : List Nat) : List Nat := (List.range' 1 t.length).filter fun h => decide (belowN t h = [])
end Hz

namespace Hz
open PySem PySem.Spec PyProof.Rows L2
theorem farN_pos {t : List Nat} {f h k : Nat} (e : farN t f h = some k) (hh : h ≠ 0) : ∃ k', k = k' + 1 ∧ farN t f (up t h) = some k' := by
  cases h with
  | zero => exact absurd rfl hh
  | succ h =>
    cases f with
    | zero => cases e
    | succ f =>
      rw [farN, Option.map_eq_some_iff] at e
      obtain ⟨k', e, rfl⟩ := e
      exact ⟨k', rfl, farN_mono _ _ _ _ (by omega) e⟩
end Hz

namespace Hz
open PySem PySem.Spec PyProof.Rows L2
/-! ### signs and rows -/
def ctrls : List Str := ["begin", "end", "halt", "spell", "strike", "word"]
def restD : D := .str "rest"
def signB (d : D) : Bool := match d with
  | .int i => decide (0 ≤ i) && decide (i ≤ 11)
  | .str x => ctrls.contains x
  | _ => false
def restsOf : List D → List D
  | [] => []
  | d :: ds => d :: restD :: restsOf ds
theorem rests_len : ∀ ds : List D, (restsOf ds).length = 2 * ds.length
  | [] => rfl
  | d :: ds => by simp [restsOf, rests_len ds]; omega
def isR (d : D) : Bool := PyData.eqv d restD
def cntP (p : D × D) : Bool := !isR p.1 && isR p.2
def cntL (xs : List D) : List D := ((xs.zip (xs.drop 1)).filter cntP).map (·.1)
def showB (d : D) : Bool := signB d || isR d
theorem sign_not_rest {d : D} (h : signB d = true) : isR d = false := by
  cases d with
  | int i => rfl
  | str x =>
    unfold signB ctrls at h
    simp at h
    rcases h with rfl | rfl | rfl | rfl | rfl | rfl <;> decide +kernel
  | _ => simp [signB] at h
theorem isR_rest : isR restD = true := by decide +kernel
theorem rests_mem : ∀ {ds : List D} {d : D}, d ∈ restsOf ds → d ∈ ds ∨ d = restD
  | [], _, h => by cases h
  | e :: ds, d, h => by
    rcases List.mem_cons.mp h with z | h
    · exact .inl (by rw [z]; exact List.mem_cons_self)
    · rcases List.mem_cons.mp h with z | h
      · exact .inr z
      · rcases rests_mem h with z | z
        · exact .inl (List.mem_cons_of_mem _ z)
        · exact .inr z
/-! words -/
end Hz

namespace Hz
open PySem PySem.Spec PyProof.Rows L2
/-! ### passing on -/
def atD (sh : List D) (h : Nat) : D := sh.getD h .none
theorem atD_get {sh : List D} {h : Nat} (hh : h < sh.length) : sh[h]? = some (atD sh h) := by
  unfold atD
  rw [List.getD, List.getElem?_eq_getElem hh]
  rfl
def repB (t : List Nat) (sh : List D) (h : Nat) (un : List Nat) : Bool := (belowN t h).all fun o => !decide (o ∈ un) && PyData.eqv (atD sh o) (atD sh h)
theorem below_le {t : List Nat} {h o : Nat} (ho : o ∈ belowN t h) : 1 ≤ o ∧ o ≤ t.length ∧ up t o = h := by
  unfold belowN at ho
  rw [List.mem_filter, List.mem_range'_1] at ho
  simp at ho
  exact ⟨ho.1.1, by omega, ho.2⟩
def nextD (t : List Nat) (sh : List D) (h : Nat) (un : List Nat) : D := if (decide (h ∈ un) || (PyData.eqv (atD sh (up t h)) (atD sh h) || !repB t sh h un)) = true then atD sh h else atD sh (up t h)
@[simp] theorem ev_putS (i : Nat) (k v : Env → R (D × Env)) (e : Env) : putS i k v e = (v e).bind fun x => (k x.2).bind fun y => (lift (ownL y.2 i)).bind fun ds => intK y.1 fun j => (lift (ixN ds.length j)).bind fun m => .ok (.nx, y.2.set i (some (.list (ds.set m x.1)))) := by unfold putS intK; exact nr rfl
/-! slips of a moment: hills and signs -/
def valW (wr : List (Nat × D)) (h : Nat) : Option D := (wr.find? fun p => decide (p.1 = h)).map (·.2)
def stepV (t : List Nat) (sh : List D) (un : List Nat) (wr : List (Nat × D)) (h : Nat) : D :=
  if (!PyData.eqv (nextD t sh h un) (atD sh h) && !isR (nextD t sh h un)) = true then (valW wr h).getD (nextD t sh h un) else nextD t sh h un
def goB (t : List Nat) (sh items : List D) (un : List Nat) : Bool := !items.isEmpty && repB t sh 0 un
def stepL (t : List Nat) (sh items : List D) (un : List Nat) (wr : List (Nat × D)) : List D := (if goB t sh items un = true then atD items 0 else atD sh 0) :: (List.range' 1 t.length).map (stepV t sh un wr)
def stepI (t : List Nat) (sh items : List D) (un : List Nat) : List D := if goB t sh items un = true then items.drop 1 else items
theorem next_mem {t : List Nat} {sh : List D} (w : Whole t) (hs : sh.length = t.length + 1) {h : Nat} (hh : h ≤ t.length) (un : List Nat) : nextD t sh h un ∈ sh := by
  have hu := up_le w h
  unfold nextD
  split
  · exact List.mem_of_getElem? (atD_get (by omega))
  · exact List.mem_of_getElem? (atD_get (by omega))
end Hz

namespace Hz
open PySem PySem.Spec PyProof.Rows L2
/-! ### moment by moment -/
def unAt (fog : List (Nat × Nat)) (m : Nat) : List Nat := (fog.filter fun p => decide (p.1 = m)).map (·.2)
def wrAt (slips : List (Nat × Nat × D)) (m : Nat) : List (Nat × D) := (slips.filter fun p => decide (p.1 = m + 1)).map (·.2)
def stAt (t : List Nat) (row : List D) (fog : List (Nat × Nat)) (slips : List (Nat × Nat × D)) : Nat → List D × List D
  | 0 => (List.replicate (t.length + 1) restD, restsOf row)
  | m + 1 => (stepL t (stAt t row fog slips m).1 (stAt t row fog slips m).2 (unAt fog m) (wrAt slips m), stepI t (stAt t row fog slips m).1 (stAt t row fog slips m).2 (unAt fog m))
section
variable {t : List Nat} {row : List D} {fog : List (Nat × Nat)} {slips : List (Nat × Nat × D)}
theorem st_len (m : Nat) : (stAt t row fog slips m).1.length = t.length + 1 := by
  cases m with
  | zero => simp [stAt]
  | succ m => simp [stAt, stepL]
theorem find_w {wr : List (Nat × D)} {h : Nat} {d : D} (e : valW wr h = some d) : ∃ p ∈ wr, p.2 = d := by
  unfold valW at e
  rw [Option.map_eq_some_iff] at e
  obtain ⟨p, hp, rfl⟩ := e
  exact ⟨p, List.mem_of_find?_eq_some hp, rfl⟩
theorem st_mem (w : Whole t) (P : D → Prop) (h0 : P restD) (hr : ∀ d ∈ row, P d) (hs : ∀ p ∈ slips, P p.2.2) : ∀ m, (∀ d ∈ (stAt t row fog slips m).1, P d) ∧ ∀ d ∈ (stAt t row fog slips m).2, P d
  | 0 => ⟨fun d hd => by
      simp [stAt] at hd
      rw [hd]
      exact h0, fun d hd => by
      rcases rests_mem hd with z | rfl
      · exact hr d z
      · exact h0⟩
  | m + 1 => by
    obtain ⟨i1, i2⟩ := st_mem w P h0 hr hs m
    have hl := st_len (t := t) (row := row) (fog := fog) (slips := slips) m
    refine ⟨fun d hd => ?_, fun d hd => ?_⟩
    · simp only [stAt, stepL] at hd
      rcases List.mem_cons.mp hd with z | z
      · by_cases g : goB t (stAt t row fog slips m).1 (stAt t row fog slips m).2 (unAt fog m) = true
        · rw [if_pos g] at z
          rw [z]
          refine i2 _ (List.mem_of_getElem? (atD_get ?_))
          unfold goB at g
          rw [Bool.and_eq_true] at g
          cases e : (stAt t row fog slips m).2 with
          | nil => rw [e] at g; simp at g
          | cons a l => simp
        · rw [if_neg g] at z
          rw [z]
          exact i1 _ (List.mem_of_getElem? (atD_get (by omega)))
      · obtain ⟨h, hh, rfl⟩ := List.mem_map.mp z
        rw [List.mem_range'_1] at hh
        have hn := i1 _ (next_mem w hl (show h ≤ t.length by omega) (unAt fog m))
        unfold stepV
        split
        · cases e : valW (wrAt slips m) h with
          | none => exact hn
          | some d =>
            obtain ⟨p, hp, rfl⟩ := find_w e
            unfold wrAt at hp
            obtain ⟨q, hq, rfl⟩ := List.mem_map.mp hp
            exact hs q (List.mem_filter.mp hq).1
        · exact hn
    · simp only [stAt, stepI] at hd
      split at hd
      · exact i2 d (List.mem_of_mem_drop hd)
      · exact i2 d hd
end
end Hz

namespace Hz
open PySem PySem.Spec PyProof.Rows L2
/-! ### how many things each hill has begun -/
def goC (t : List Nat) (N : Nat) (un : List Nat) (c : Nat → Nat) (h : Nat) : Bool :=
  ((belowN t h).all fun o => !decide (o ∈ un) && decide (c o = c h)) && (if h = 0 then decide (c 0 < N) else !decide (h ∈ un) && !decide (c (up t h) = c h))
def stepC (t : List Nat) (N : Nat) (un : List Nat) (c : Nat → Nat) : Nat → Nat := fun h => c h + if goC t N un c h = true then 1 else 0
theorem below_mem {t : List Nat} {h o : Nat} : o ∈ belowN t h ↔ 1 ≤ o ∧ o ≤ t.length ∧ up t o = h := by
  refine ⟨below_le, fun ⟨h1, h2, h3⟩ => ?_⟩
  unfold belowN
  rw [List.mem_filter, List.mem_range'_1]
  exact ⟨⟨h1, by omega⟩, by simpa using h3⟩
section
variable {t : List Nat} {N : Nat} {un : List Nat} {c : Nat → Nat} {h : Nat}
theorem goC_iff : goC t N un c h = true ↔ (∀ o, 1 ≤ o → o ≤ t.length → up t o = h → o ∉ un ∧ c o = c h) ∧ (h = 0 → c 0 < N) ∧ (h ≠ 0 → h ∉ un ∧ c (up t h) ≠ c h) := by
  unfold goC
  rw [Bool.and_eq_true, List.all_eq_true]
  refine and_congr ⟨fun z o h1 h2 h3 => ?_, fun z o ho => ?_⟩ ?_
  · have := z o (below_mem.mpr ⟨h1, h2, h3⟩)
    simpa using this
  · obtain ⟨h1, h2, h3⟩ := below_mem.mp ho
    simpa using z o h1 h2 h3
  · by_cases hz : h = 0 <;> simp [hz]
theorem stepC_go (g : goC t N un c h = true) : stepC t N un c h = c h + 1 := by
  unfold stepC
  rw [if_pos g]
theorem stepC_st (g : ¬ goC t N un c h = true) : stepC t N un c h = c h := by
  unfold stepC
  rw [if_neg g]
  rfl
end
structure InvC (t : List Nat) (N : Nat) (c : Nat → Nat) : Prop where
  le0 : c 0 ≤ N
  kid : ∀ h, 1 ≤ h → h ≤ t.length → c h ≤ c (up t h) ∧ c (up t h) ≤ c h + 1
theorem InvC.step {t : List Nat} {N : Nat} {c : Nat → Nat} (I : InvC t N c) (un : List Nat) : InvC t N (stepC t N un c) := by
  refine ⟨?_, fun h h1 h2 => ?_⟩
  · by_cases g : goC t N un c 0 = true
    · have := (goC_iff.mp g).2.1 rfl
      rw [stepC_go g]
      omega
    · rw [stepC_st g]
      exact I.le0
  · have hk := I.kid h h1 h2
    by_cases g : goC t N un c (up t h) = true
    · have hh := (goC_iff.mp g).1 h h1 h2 rfl
      have g2 : ¬ goC t N un c h = true := fun z => ((goC_iff.mp z).2.2 (by omega)).2 hh.2.symm
      rw [stepC_go g, stepC_st g2]
      omega
    · rw [stepC_st g]
      by_cases g2 : goC t N un c h = true
      · have := ((goC_iff.mp g2).2.2 (by omega)).2
        rw [stepC_go g2]
        omega
      · rw [stepC_st g2]
        exact hk
section
variable {t : List Nat} (T : IsTree t)
include T
theorem IsTree.kid {o f : Nat} (h1 : 1 ≤ o) (h2 : o ≤ t.length) (e : farN t (t.length + 1) (up t o) = some f) : farN t (t.length + 1) o = some (f + 1) := by
  obtain ⟨k, _, hk, _⟩ := T.far h2
  obtain ⟨k', rfl, e'⟩ := farN_pos hk (by omega)
  rw [e] at e'
  cases e'
  exact hk
theorem IsTree.par {o f : Nat} (h1 : 1 ≤ o) (e : farN t (t.length + 1) o = some f) : ∃ f', f = f' + 1 ∧ farN t (t.length + 1) (up t o) = some f' := farN_pos e (by omega)
end
/-! when each thing was begun -/
structure Rises (c : Nat → Nat) : Prop where
  z : c 0 = 0
  s : ∀ m, c m ≤ c (m + 1) ∧ c (m + 1) ≤ c m + 1
theorem Rises.mono {c : Nat → Nat} (r : Rises c) {m n : Nat} (h : m ≤ n) : c m ≤ c n := by
  induction n with
  | zero => rw [show m = 0 by omega]; exact Nat.le_refl _
  | succ n ih =>
    by_cases z : m = n + 1
    · rw [z]; exact Nat.le_refl _
    · exact Nat.le_trans (ih (by omega)) (r.s n).1
/-! what hills show, by these numbers -/
def itemAt (row : List D) (k : Nat) : D := if k = 0 then restD else atD (restsOf row) (k - 1)
theorem rests_get : ∀ (row : List D) (k : Nat), k < row.length → (restsOf row)[2 * k]? = some (atD row k) ∧ (restsOf row)[2 * k + 1]? = some restD
  | [], k, h => by simp at h
  | d :: row, 0, _ => ⟨rfl, rfl⟩
  | d :: row, k + 1, h => by
    obtain ⟨h1, h2⟩ := rests_get row k (by simpa using h)
    have e1 : 2 * (k + 1) = 2 * k + 1 + 1 := by omega
    have e2 : 2 * (k + 1) + 1 = 2 * k + 1 + 1 + 1 := by omega
    rw [e2, e1]
    simp only [restsOf, List.getElem?_cons_succ]
    exact ⟨h1, h2⟩
theorem atD_of {sh : List D} {k : Nat} {d : D} (h : sh[k]? = some d) : atD sh k = d := by
  unfold atD
  rw [List.getD, h]
  rfl
theorem item_even (row : List D) (k : Nat) (h : k ≤ row.length) : itemAt row (2 * k) = restD := by
  unfold itemAt
  by_cases z : k = 0
  · rw [z]; rfl
  · rw [if_neg (by omega), show 2 * k - 1 = 2 * (k - 1) + 1 by omega]
    exact atD_of (rests_get row (k - 1) (by omega)).2
theorem item_odd (row : List D) (k : Nat) (h : k < row.length) : itemAt row (2 * k + 1) = atD row k := by
  unfold itemAt
  rw [if_neg (by omega)]
  exact atD_of (rests_get row k h).1
section
variable {row : List D} (hr : ∀ d ∈ row, signB d = true ∧ dep 0 d = true)
include hr
theorem row_at {k : Nat} (h : k < row.length) : signB (atD row k) = true ∧ dep 0 (atD row k) = true := hr _ (List.mem_of_getElem? (atD_get h))
theorem isR_item {k : Nat} (h : k ≤ 2 * row.length) : isR (itemAt row k) = decide (k % 2 = 0) := by
  rcases Nat.mod_two_eq_zero_or_one k with e | e
  · rw [show k = 2 * (k / 2) by omega, item_even row _ (by omega), isR_rest]
    simp
  · rw [show k = 2 * (k / 2) + 1 by omega, item_odd row _ (by omega), sign_not_rest (row_at hr (by omega)).1]
    simp
theorem item_dep {k : Nat} (h : k ≤ 2 * row.length) : dep 0 (itemAt row k) = true := by
  rcases Nat.mod_two_eq_zero_or_one k with e | e
  · rw [show k = 2 * (k / 2) by omega, item_even row _ (by omega)]
    decide +kernel
  · rw [show k = 2 * (k / 2) + 1 by omega, item_odd row _ (by omega)]
    exact (row_at hr (by omega)).2
omit hr in
theorem eqv_rest_l {d : D} (h : isR d = false) : PyData.eqv restD d = false := by
  cases d with
  | str x =>
    unfold isR restD at h
    unfold restD
    simp only [PyData.eqv] at h ⊢
    rw [Bool.eq_false_iff] at h ⊢
    intro z
    exact h (by rw [beq_iff_eq] at z ⊢; exact z.symm)
  | _ => rfl
theorem eqv_item {a b : Nat} (ha : a ≤ 2 * row.length) (hb : b ≤ 2 * row.length) (h1 : b ≤ a + 1) (h2 : a ≤ b + 1) : PyData.eqv (itemAt row a) (itemAt row b) = decide (a = b) := by
  by_cases z : a = b
  · subst z
    rw [eqv_self 0 _ (item_dep hr ha)]
    simp
  · have ea := isR_item hr ha
    have eb := isR_item hr hb
    rw [show decide (a = b) = false by simp [z]]
    rcases Nat.mod_two_eq_zero_or_one a with e | e
    · have : itemAt row a = restD := by rw [show a = 2 * (a / 2) by omega, item_even row _ (by omega)]
      rw [this]
      exact eqv_rest_l (by rw [eb]; simp; omega)
    · have : itemAt row b = restD := by rw [show b = 2 * (b / 2) by omega, item_even row _ (by omega)]
      rw [this]
      show isR _ = false
      rw [ea]
      simp
      omega
end
section
variable {t : List Nat} {row : List D} (T : IsTree t) (hr : ∀ d ∈ row, signB d = true ∧ dep 0 d = true)
include T hr
/-! it comes to an end -/
end
end Hz

namespace Hz
open PySem PySem.Spec PyProof.Rows L2
/-! ### with slips: what each hill begins to show -/
theorem eqv_show {a b : D} (ha : showB a = true) (hb : showB b = true) : PyData.eqv a b = true ↔ a = b := by
  have key : ∀ d, showB d = true → (∃ i, d = .int i) ∨ ∃ x, d = .str x := fun d h => by
    cases d with
    | int i => exact .inl ⟨i, rfl⟩
    | str x => exact .inr ⟨x, rfl⟩
    | _ => exact absurd h (by simp [showB, signB, isR, restD, PyData.eqv])
  rcases key a ha with ⟨i, rfl⟩ | ⟨x, rfl⟩ <;> rcases key b hb with ⟨j, rfl⟩ | ⟨y, rfl⟩ <;> simp [PyData.eqv]
theorem isR_eq {d : D} (h : showB d = true) : isR d = true ↔ d = restD := eqv_show h (by decide +kernel)
def shw (t : List Nat) (row : List D) (fog : List (Nat × Nat)) (slips : List (Nat × Nat × D)) (m h : Nat) : D := atD (stAt t row fog slips m).1 h
inductive Ext : List D → List D → Prop
  | nil : Ext [] []
  | cons {x : D} {ws L M : List D} : (∀ w ∈ ws, signB w = true) → (x = restD → ws = []) → Ext L M → Ext (x :: L) (ws ++ x :: M)
theorem Ext.snoc {y : D} {us : List D} (hu : ∀ w ∈ us, signB w = true) (hy : y = restD → us = []) : ∀ {L M : List D}, Ext L M → Ext (L ++ [y]) (M ++ (us ++ [y]))
  | _, _, .nil => .cons hu hy .nil
  | _, _, .cons (ws := ws) (x := x) (M := M) h1 h2 t => by
    have := Ext.cons (x := x) h1 h2 (Ext.snoc hu hy t)
    simpa using this
theorem Ext.split : ∀ {A B M : List D}, Ext (A ++ B) M → ∃ M1 M2, M = M1 ++ M2 ∧ Ext A M1 ∧ Ext B M2
  | [], B, M, h => ⟨[], M, rfl, .nil, h⟩
  | a :: A, B, _, .cons (ws := ws) h1 h2 t => by
    obtain ⟨M1, M2, e, i1, i2⟩ := Ext.split t
    subst e
    exact ⟨ws ++ a :: M1, M2, by simp, .cons h1 h2 i1, i2⟩
theorem Ext.signs : ∀ {A M : List D}, Ext A M → (∀ w ∈ A, signB w = true) → ∀ w ∈ M, signB w = true
  | _, _, .nil, _ => fun _ h => by cases h
  | _, _, .cons h1 h2 t, h => fun w hw => by
    rcases List.mem_append.mp hw with z | z
    · exact h1 w z
    · rcases List.mem_cons.mp z with z | z
      · rw [z]
        exact h _ List.mem_cons_self
      · exact Ext.signs t (fun w hw => h w (List.mem_cons_of_mem _ hw)) w z
inductive Gd : List D → List D → Prop
  | nil : Gd [] []
  | cons {a : D} {ws row L : List D} : (∀ w ∈ ws, signB w = true) → Gd row L → Gd (a :: row) (ws ++ a :: restD :: L)
theorem Gd.rests : ∀ row : List D, Gd row (restsOf row)
  | [] => .nil
  | a :: row => by
    have := Gd.cons (a := a) (ws := []) (fun _ h => by cases h) (Gd.rests row)
    exact this
theorem Gd.ext : ∀ {row L M : List D}, Gd row L → Ext L M → Gd row M
  | _, _, _, .nil, .nil => .nil
  | _, _, M, .cons (a := a) (ws := ws) (L := L) h g, e => by
    obtain ⟨M1, M2, rfl, e1, e2⟩ := Ext.split e
    generalize hq : a :: restD :: L = q at e2
    cases e2 with
    | nil => cases hq
    | cons h1 h2 t =>
      rename_i ws2 L2 M3
      injection hq with hq1 hq2
      subst hq1
      generalize hq : restD :: L = q at hq2
      subst hq2
      cases t with
      | nil => cases hq
      | cons h3 h4 t2 =>
        injection hq with hq1 hq2
        subst hq1 hq2
        rw [h4 rfl]
        have := Gd.cons (a := a) (ws := M1 ++ ws2) (fun w hw => by
          rcases List.mem_append.mp hw with z | z
          · exact Ext.signs e1 h w z
          · exact h1 w z) (Gd.ext g t2)
        simpa using this
section
variable {t : List Nat} {row : List D} {fog : List (Nat × Nat)} {slips : List (Nat × Nat × D)}
theorem shw_0 (m : Nat) : shw t row fog slips (m + 1) 0 = if goB t (stAt t row fog slips m).1 (stAt t row fog slips m).2 (unAt fog m) = true then atD (stAt t row fog slips m).2 0 else shw t row fog slips m 0 := rfl
theorem shw_h (m : Nat) {h : Nat} (h1 : 1 ≤ h) (hh : h ≤ t.length) : shw t row fog slips (m + 1) h = stepV t (stAt t row fog slips m).1 (unAt fog m) (wrAt slips m) h := by
  obtain ⟨k, rfl⟩ : ∃ k, h = k + 1 := ⟨h - 1, by omega⟩
  show atD (_ :: (List.range' 1 t.length).map _) (k + 1) = _
  refine atD_of ?_
  rw [List.getElem?_cons_succ, List.getElem?_map, List.getElem?_range' (by omega)]
  simp [Nat.add_comm]
variable (w : Whole t) (hr : ∀ d ∈ row, signB d = true ∧ dep 0 d = true) (hs : ∀ p ∈ slips, signB p.2.2 = true)
include w hr hs
theorem shw_show (m : Nat) {h : Nat} (hh : h ≤ t.length) : showB (shw t row fog slips m h) = true := by
  have hl := st_len (t := t) (row := row) (fog := fog) (slips := slips) m
  refine (st_mem (t := t) (row := row) (fog := fog) (slips := slips) w (fun d => showB d = true) (by decide +kernel) (fun d hd => by unfold showB; rw [(hr d hd).1]; rfl) (fun p hp => by unfold showB; rw [hs p hp]; rfl) m).1 _ ?_
  exact List.mem_of_getElem? (atD_get (by omega))
theorem no_rep (m : Nat) {h : Nat} (h1 : 1 ≤ h) (hh : h ≤ t.length) (un : List Nat) (ne : shw t row fog slips m h ≠ shw t row fog slips m (up t h)) : repB t (stAt t row fog slips m).1 (up t h) un = false := by
  unfold repB
  rw [List.all_eq_false]
  refine ⟨h, below_mem.mpr ⟨h1, hh, rfl⟩, ?_⟩
  rw [Bool.and_eq_true]
  intro z
  exact ne ((eqv_show (shw_show w hr hs m hh) (shw_show w hr hs m (up_le w h))).mp z.2)
theorem par_stay (m : Nat) {h : Nat} (h1 : 1 ≤ h) (hh : h ≤ t.length) (ne : shw t row fog slips m h ≠ shw t row fog slips m (up t h)) : shw t row fog slips (m + 1) (up t h) = shw t row fog slips m (up t h) := by
  have hn := no_rep w hr hs m h1 hh (unAt fog m) ne
  have hu := up_le w h
  by_cases z : up t h = 0
  · rw [z] at hn ⊢
    rw [shw_0, if_neg]
    unfold goB
    rw [hn, Bool.and_false]
    simp
  · rw [shw_h m (by omega) hu]
    have hx : nextD t (stAt t row fog slips m).1 (up t h) (unAt fog m) = shw t row fog slips m (up t h) := by
      unfold nextD
      rw [hn]
      simp
      rfl
    unfold stepV
    rw [hx]
    rw [if_neg]
    rw [show PyData.eqv (shw t row fog slips m (up t h)) (atD (stAt t row fog slips m).1 (up t h)) = true from (eqv_show (shw_show w hr hs m hu) (shw_show w hr hs m hu)).mpr rfl]
    simp
theorem kid_stay (m : Nat) {h : Nat} (h1 : 1 ≤ h) (hh : h ≤ t.length) (e : shw t row fog slips m h = shw t row fog slips m (up t h)) : shw t row fog slips (m + 1) h = shw t row fog slips m h := by
  have hs1 := shw_show (fog := fog) w hr hs m hh
  have hx : nextD t (stAt t row fog slips m).1 h (unAt fog m) = shw t row fog slips m h := by
    unfold nextD
    rw [show PyData.eqv (atD (stAt t row fog slips m).1 (up t h)) (atD (stAt t row fog slips m).1 h) = true from (eqv_show (shw_show w hr hs m (up_le w h)) hs1).mpr e.symm]
    simp
    rfl
  rw [shw_h m h1 hh]
  unfold stepV
  rw [hx, if_neg]
  rw [show PyData.eqv (shw t row fog slips m h) (atD (stAt t row fog slips m).1 h) = true from (eqv_show hs1 hs1).mpr rfl]
  simp
theorem kid_go (m : Nat) {h : Nat} (h1 : 1 ≤ h) (hh : h ≤ t.length) (ne : shw t row fog slips (m + 1) h ≠ shw t row fog slips m h) : shw t row fog slips (m + 1) h = shw t row fog slips m (up t h) ∨ (valW (wrAt slips m) h = some (shw t row fog slips (m + 1) h) ∧ shw t row fog slips m (up t h) ≠ restD) := by
  have hs1 := shw_show (fog := fog) w hr hs m hh
  have e := shw_h (row := row) (fog := fog) (slips := slips) m h1 hh
  have hx : nextD t (stAt t row fog slips m).1 h (unAt fog m) = shw t row fog slips m h ∨ nextD t (stAt t row fog slips m).1 h (unAt fog m) = shw t row fog slips m (up t h) := by
    unfold nextD
    split
    · exact .inl rfl
    · exact .inr rfl
  unfold stepV at e
  rcases hx with hx | hx
  · rw [hx, if_neg] at e
    · exact absurd e ne
    · rw [show PyData.eqv (shw t row fog slips m h) (atD (stAt t row fog slips m).1 h) = true from (eqv_show hs1 hs1).mpr rfl]
      simp
  · rw [hx] at e
    split at e
    · rename_i hc
      cases hv : valW (wrAt slips m) h with
      | none =>
        rw [hv] at e
        exact .inl e
      | some d =>
        rw [hv] at e
        refine .inr ⟨by rw [e]; rfl, fun z => ?_⟩
        rw [z] at hc
        rw [isR_rest] at hc
        simp at hc
    · exact .inl e
end
end Hz

namespace Hz
open PySem PySem.Spec PyProof.Rows L2
section
variable {t : List Nat} {row : List D} {fog : List (Nat × Nat)} {slips : List (Nat × Nat × D)}
variable (w : Whole t) (hr : ∀ d ∈ row, signB d = true ∧ dep 0 d = true) (hs : ∀ p ∈ slips, signB p.2.2 = true)
include w hr hs
omit hr hs in
theorem rank_up (T : IsTree t) (P : Nat → Prop) (h0 : P 0) (step : ∀ h, 1 ≤ h → h ≤ t.length → P (up t h) → P h) : ∀ h, h ≤ t.length → P h := by
  obtain ⟨r, r1, r2⟩ := T.rank
  have key : ∀ n h, h ≤ t.length → r h ≤ n → P h := by
    intro n
    induction n with
    | zero =>
      intro h hh hn
      by_cases z : h = 0
      · rw [z]; exact h0
      · have hx : t[h - 1]? = some (up t h) := by
          unfold up
          rw [if_neg (by omega), List.getD, List.getElem?_eq_getElem (by omega)]
          rfl
        have h2 := r2 (h - 1) _ hx
        rw [show h - 1 + 1 = h by omega] at h2
        omega
    | succ n ih =>
      intro h hh hn
      by_cases z : h = 0
      · rw [z]; exact h0
      · have hx : t[h - 1]? = some (up t h) := by
          unfold up
          rw [if_neg (by omega), List.getD, List.getElem?_eq_getElem (by omega)]
          rfl
        have h2 := r2 (h - 1) _ hx
        rw [show h - 1 + 1 = h by omega] at h2
        exact step h (by omega) hh (ih _ (up_le w h) (by omega))
  exact fun h hh => key _ h hh (Nat.le_refl _)
end
end Hz

namespace Hz
open PySem PySem.Spec PyProof.Rows L2
/-! ### registers -/
/-! what is needed -/
structure FogOk (t : List Nat) (fog : List (Nat × Nat)) : Prop where
  len : fog.length ≤ 12
  at' : ∀ p ∈ fog, p.1 ≤ 999 ∧ 1 ≤ p.2 ∧ p.2 ≤ t.length
  srt : fog.Pairwise fun p q => p.1 < q.1 ∨ p.1 = q.1 ∧ p.2 < q.2
/-! without slips -/
section
variable {t : List Nat} {row : List D} {fog : List (Nat × Nat)} (T : IsTree t) (hl : t.length < 8) (h : ∀ d ∈ row, signB d = true ∧ dep 0 d = true) (hrl : row.length ≤ 160) (F : FogOk t fog)
include T hl h hrl F
end
end Hz

namespace Hz
open PySem PySem.Spec PyProof.Rows L2
/-! ### several at once -/
@[simp] theorem ev_putE0 (e : Env) : putE [] [] e = some e := nr rfl
@[simp] theorem ev_putE1 (i : Nat) (is : List Nat) (d : D) (ds : List D) (e : Env) : putE (i :: is) (d :: ds) e = if i < e.length then putE is ds (e.set i (some d)) else none := nr rfl
@[simp] theorem ev_bNil (e : Env) : bNil [] e = some e := nr rfl
@[simp] theorem ev_bCons (b : D → Env → Option Env) (c : List D → Env → Option Env) (d : D) (ds : List D) (e : Env) : bCons b c (d :: ds) e = (b d e).bind (c ds) := nr rfl
@[simp] theorem ev_bTup (n : Nat) (c : List D → Env → Option Env) (ds : List D) (e : Env) : bTup n c (.tuple ds) e = if ds.length = n then c ds e else none := nr rfl
/-! ### refusals -/
@[simp] theorem bind_e {α β : Type} (c : Nat) (k : α → R β) : (R.err c : R α).bind k = .err c := nr rfl
/-! ### how far the farthest hill is -/
end Hz

namespace Hz
open PySem PySem.Spec PyProof.Rows L2
/-! ### what is asked of fog and slips, in general -/
def okP (n : Nat) (p : Nat × Nat) : Bool := decide (p.1 ≤ 999) && (decide (1 ≤ p.2) && decide (p.2 ≤ n))
/-! slips -/
def okS (n : Nat) (p : Nat × Nat × D) : Bool := okP n (p.1, p.2.1) && signB p.2.2
/-! refusals by need_all -/
section
variable {tr row fog sl : D}
end
/-! rows that are none -/
/-! the law's own takers -/
end Hz

namespace Hz
open PySem PySem.Spec PyProof.Rows L2
structure SlipOk (t : List Nat) (slips : List (Nat × Nat × D)) : Prop where
  few : slips.length ≤ 6
  at' : ∀ p ∈ slips, 1 ≤ p.1 ∧ p.1 ≤ 999 ∧ 1 ≤ p.2.1 ∧ p.2.1 ≤ t.length
  sg : ∀ p ∈ slips, signB p.2.2 = true
  dp : ∀ p ∈ slips, dep 0 p.2.2 = true
  srt : slips.Pairwise fun p q => p.1 < q.1 ∨ p.1 = q.1 ∧ p.2.1 < q.2.1
section
variable {t : List Nat} {row : List D} {fog : List (Nat × Nat)} {slips : List (Nat × Nat × D)}
variable (T : IsTree t) (hr : ∀ d ∈ row, signB d = true ∧ dep 0 d = true) (S : SlipOk t slips)
include T hr S
end
end Hz

namespace Hz
open PySem PySem.Spec PyProof.Rows L2
/-! ### drawn fog -/
/-! what is shown at a moment -/
section
variable {t : List Nat} {row : List D} {fog : List (Nat × Nat)} (T : IsTree t) (hl : t.length < 8) (h : ∀ d ∈ row, signB d = true ∧ dep 0 d = true) (hrl : row.length ≤ 160) (F : FogOk t fog)
include T hl h hrl F
end
/-! one behind the other -/
section
variable {t : List Nat} {N : Nat} {un : Nat → List Nat}
end
end Hz

namespace Hz
open PySem PySem.Spec PyProof.Rows L2
/-! ### what is asked, with slips -/
theorem Gd.cnt {row L : List D} (g : Gd row L) : (∀ d ∈ row, signB d = true) → cntL L = row := by
  induction g with
  | nil => exact fun _ => rfl
  | @cons a ws row L h g ih0 =>
    intro hr
    have ih := ih0 (fun d hd => hr d (List.mem_cons_of_mem _ hd))
    have ha : isR a = false := sign_not_rest (hr a List.mem_cons_self)
    have key : ∀ ws : List D, (∀ w ∈ ws, signB w = true) → cntL (ws ++ a :: restD :: L) = a :: cntL L := by
      intro ws
      induction ws with
      | nil =>
        intro _
        unfold cntL
        cases L with
        | nil =>
          simp [cntP, ha, isR_rest]
        | cons b L =>
          simp [cntP, ha, isR_rest]
      | cons w ws ih2 =>
        intro hw
        have hw0 := sign_not_rest (hw w List.mem_cons_self)
        have i2 := ih2 fun w hx => hw w (List.mem_cons_of_mem _ hx)
        unfold cntL at i2 ⊢
        cases ws with
        | nil => simpa [cntP, ha, hw0] using i2
        | cons v ws =>
          have hv := sign_not_rest (hw v (by simp))
          simpa [cntP, hv, hw0] using i2
    rw [key ws h, ih]
theorem Gd.len {row L : List D} (g : Gd row L) : 2 * row.length ≤ L.length := by
  induction g with
  | nil => exact Nat.le_refl _
  | cons h g ih =>
    simp
    omega
theorem Gd.last {row L : List D} (g : Gd row L) : L = [] ∨ L.getLast? = some restD := by
  induction g with
  | nil => exact .inl rfl
  | @cons a ws row L h g ih =>
    rcases ih with z | z
    · subst z
      exact .inr (by simp)
    · refine .inr ?_
      rw [List.getLast?_append, List.getLast?_cons, List.getLast?_cons, z]
      simp
section
variable {t : List Nat} {row : List D} {fog : List (Nat × Nat)} {slips : List (Nat × Nat × D)} (T : IsTree t) (hl : t.length < 8) (h : ∀ d ∈ row, signB d = true ∧ dep 0 d = true) (hrl : row.length ≤ 40) (F : FogOk t fog) (S : SlipOk t slips)
include T hl h hrl F S
end
end Hz

namespace Hz
open PySem PySem.Spec PyProof.Rows L2
def nine : List Str := ["a", "fog", "hill", "ab", "north", "z", "eastward", "b", "mxm"]
def bkD (many : Nat) (ws : List Str) : D := .tuple [nD many, .tuple (ws.map PyData.str)]
theorem ddL_nd {xs : List Str} (h : xs.Nodup) : (ddL xs).length = xs.length := by
  have go : ∀ (xs l : List Str), (∀ x ∈ xs, x ∉ l) → xs.Nodup → (xs.foldl ddS l).length = l.length + xs.length := by
    intro xs
    induction xs with
    | nil => intro l _ _; rfl
    | cons x xs ih =>
      intro l hx nd
      rw [List.nodup_cons] at nd
      have h1 : ddS l x = x :: l := by
        unfold ddS
        rw [if_neg (hx x List.mem_cons_self)]
      rw [List.foldl_cons, h1, ih (x :: l) (fun y hy hm => ?_) nd.2]
      · simp
        omega
      · rcases List.mem_cons.mp hm with e | e
        · exact nd.1 (e ▸ hy)
        · exact hx y (List.mem_cons_of_mem _ hy) e
  have := go xs [] (by simp) h
  simpa [ddL] using this
theorem strsOf_map : ∀ ws : List Str, strsOf (ws.map PyData.str) = some ws
  | [] => rfl
  | w :: ws => by
    rw [List.map_cons, strsOf, strsOf_map ws]
    rfl
theorem is_book_n {many : Nat} {ws : List Str} (h6 : 6 ≤ many) (h12 : many ≤ 12) (nd : ws.Nodup) (hl : ws.length ≤ 36) (hw : ∀ w ∈ ws, d_is_word [.str w] = .ok (.bool true)) : d_is_book [bkD many ws] = .ok (.bool true) := by
  have hwh : d_is_whole [nD many, .int 6, .int 12] = .ok (.bool true) := by
    rw [show nD many = .int (many : Int) from rfl, whole_int]
    simp
    omega
  have hmul : mulD (nD many) (nD many) = some (nD (many * many)) := by
    rw [show nD many = .int (many : Int) from rfl, mulD_l _ _ (by omega)]
    rfl
  have hmm : 36 ≤ many * many := Nat.mul_le_mul h6 h6
  have hmin : minD [.int 60, nD (many * many)] = some (.int (if ((many * many : Nat) : Int) < 60 then ((many * many : Nat) : Int) else 60)) := rfl
  have i0 : idxD (bkD many ws) (.int 0) = some (nD many) := rfl
  have i1 : idxD (bkD many ws) (.int 1) = some (.tuple (ws.map PyData.str)) := rfl
  have c1 : ∀ v : Option D, compD (seqI (varD 1)) [2] (bName 2) yesT (callP d_is_word (consA (varD 2) nilA)) [some (bkD many ws), some (.tuple (ws.map PyData.str)), none] = .ok (.list (ws.map fun _ => .bool true), [some (bkD many ws), some (.tuple (ws.map PyData.str)), none]) := fun v =>
    ofOk (Ok_compY PyData.str (fun _ => .bool true) ws (by simp [itemsOf]) (by omega) (fun w hw' => ⟨_, rfl, by simp [hw w hw'], rfl⟩) rfl rfl)
  have hall := allD_map (fun _ : Str => true) ws
  rw [show ws.all (fun _ => true) = true by simp] at hall
  have hset : lenSetD (.tuple (ws.map PyData.str)) = some (nD ws.length) := by
    unfold lenSetD
    simp only [strsOf_map]
    rw [if_pos (by omega), ddL_nd nd]
    rfl
  have hgt : ¬ (if ((many * many : Nat) : Int) < 60 then ((many * many : Nat) : Int) else 60) < (ws.length : Int) := by
    split <;> omega
  have key : Ok (d_is_book [bkD many ws]) fun d => d = .bool true := by
    unfold d_is_book b_is_book env0
    refine Ok_fin (Ok_seq ?_)
    have hl2 : lenD [bkD many ws] = some (nD 2) := rfl
    have hti : isiD "tuple" (bkD many ws) = some (.bool true) := isx_tuple_tuple _
    simp [hti, hl2, i0, hwh]
    refine Ok_seq ?_
    simp [i1]
    refine Ok_seq ?_
    simp [i0, hmul, hmin]
    rw [if_neg (by simpa using hgt)]
    simp [c1 none, hall, hset]
  obtain ⟨d, e, rfl⟩ := key
  exact e
end Hz

namespace Hz
open PySem PySem.Spec PyProof.Rows L2
def LET : Str := "abcdefghijklmnopqrstuvwxyz"
structure IsW (w : Str) : Prop where
  pos : 1 ≤ w.cps.size
  le : w.cps.size ≤ 8
  low : ∀ c ∈ w.cps.toList, 97 ≤ c ∧ c ≤ 122
theorem LET_cps : LET.cps.toList = List.range' 97 26 := by decide +kernel
theorem six_all : ∀ c ∈ List.range' 97 26, Builtin.Str.occurrences LET ⟨#[c]⟩ 0 LET.length 1 = [c - 97] := by decide +kernel
theorem six_c {c : Nat} (h1 : 97 ≤ c) (h2 : c ≤ 122) : sixD (.str LET) (.str ⟨#[c]⟩) = some (nD (c - 97)) := by
  have := six_all c (by simp; omega)
  simp only [sixD, this]
  rfl
theorem in_c {c : Nat} (h1 : 97 ≤ c) (h2 : c ≤ 122) : inD (.str ⟨#[c]⟩) (.str LET) = some (.bool true) := by
  show (signOf ⟨#[c]⟩).map (fun c => PyData.bool (decide (c ∈ LET.cps.toList))) = _
  have : signOf ⟨#[c]⟩ = some c := rfl
  rw [this, LET_cps]
  have : c ∈ List.range' 97 26 := by simp; omega
  simp only [this, decide_true, Option.map_some]
theorem lenD_w (w : Str) (h : w.cps.size ≤ 1000) : lenD [.str w] = some (nD w.cps.size) := by
  show (if w.length ≤ 1000000 then some (PyData.int (w.length : Nat)) else none) = _
  rw [if_pos (show w.length ≤ 1000000 from Nat.le_trans h (by omega))]
  rfl
theorem is_word_n {w : Str} (h : IsW w) : d_is_word [.str w] = .ok (.bool true) := by
  have h1 := h.pos
  have h2 := h.le
  have key : Ok (d_is_word [.str w]) fun d => d = .bool true := by
    unfold d_is_word b_is_word env0
    refine Ok_fin (Ok_seq ?_)
    simp [lenD_w w (by omega), show (1 : Int) ≤ (w.cps.size : Int) by omega, show (w.cps.size : Int) ≤ 8 by omega]
    refine Ok_compY (fun c : Nat => PyData.str ⟨#[c]⟩) (fun _ => .bool true) w.cps.toList (by simp [itemsOf, signsOf]) (by simp; omega) (fun c hc => ⟨_, rfl, ?_, rfl⟩) rfl ?_
    · have := h.low c hc
      have hin := in_c this.1 this.2
      unfold LET at hin
      simp [hin]
    · have hall := allD_map (fun _ : Nat => true) w.cps.toList
      rw [show w.cps.toList.all (fun _ => true) = true by simp] at hall
      simp [hall]
  obtain ⟨d, e, rfl⟩ := key
  exact e
theorem isW_of {w : Str} (h : (decide (1 ≤ w.cps.size) && decide (w.cps.size ≤ 8) && w.cps.toList.all fun c => decide (97 ≤ c) && decide (c ≤ 122)) = true) : IsW w := by
  simp only [Bool.and_eq_true, decide_eq_true_eq, List.all_eq_true] at h
  exact ⟨h.1.1, h.1.2, h.2⟩
theorem isW_nine {w : Str} (h : w ∈ nine) : IsW w := by
  unfold nine at h
  simp only [List.mem_cons, List.not_mem_nil, or_false] at h
  rcases h with rfl | rfl | rfl | rfl | rfl | rfl | rfl | rfl | rfl <;> exact isW_of (by decide +kernel)
def sgC (many c : Nat) : List D := [nD ((c - 97) / many), nD ((c - 97) % many)]
def rowW (many : Nat) (ws : List Str) (w : Str) : List D := if w ∈ ws then [.str "word", nD (ws.idxOf w / many), nD (ws.idxOf w % many)] else .str "spell" :: w.cps.toList.flatMap (sgC many)
theorem eqv_s (a b : Str) : PyData.eqv (.str a) (.str b) = decide (a = b) := by
  show (a == b) = decide (a = b)
  by_cases h : a = b
  · subst h; simp
  · simp [h]
theorem inSeq_s (w : Str) (ws : List Str) : inSeq (.str w) (ws.map PyData.str) = decide (w ∈ ws) := by
  unfold inSeq
  rw [List.any_map]
  induction ws with
  | nil => rfl
  | cons q ws ih =>
    rw [List.any_cons, ih]
    simp only [Function.comp, eqv_s]
    by_cases h : q = w
    · subst h; simp
    · have : ¬ w = q := fun z => h z.symm
      simp [h, this]
theorem strOk_w {w : Str} (W : IsW w) : PyData.canLay0 (.str w) = true := by
  show w.cps.all (· < 0x110000) = true
  rw [Array.all_eq_true_iff_forall_mem]
  intro c hc
  have := W.low c (Array.mem_toList_iff.mpr hc)
  simp
  omega
theorem dep_w (n : Nat) {w : Str} (W : IsW w) : dep n (.str w) = true := by
  cases n <;> exact strOk_w W
theorem dep_strs (n : Nat) {ws : List Str} (hw : ∀ w ∈ ws, IsW w) : dep (n + 1) (.tuple (ws.map PyData.str)) = true := dep_tuple fun d hd => by
  obtain ⟨w, h, rfl⟩ := List.mem_map.mp hd
  exact dep_w n (hw w h)
theorem dep_strl (n : Nat) {ws : List Str} (hw : ∀ w ∈ ws, IsW w) : dep (n + 1) (.list (ws.map PyData.str)) = true := dep_list fun d hd => by
  obtain ⟨w, h, rfl⟩ := List.mem_map.mp hd
  exact dep_w n (hw w h)
theorem inD_s {w : Str} {ws : List Str} (W : IsW w) (hw : ∀ w ∈ ws, IsW w) : inD (.str w) (.tuple (ws.map PyData.str)) = some (.bool (decide (w ∈ ws))) := by
  have h1 := dep_w 9 W
  have h2 := dep_strs 8 hw
  simp only [inD, h1, h2, and_self, if_true, inSeq_s]
structure BkA (many : Nat) (ws : List Str) : Prop where
  ge : 6 ≤ many
  le : many ≤ 12
  wd : ∀ w ∈ ws, IsW w
  nn : ws ≠ [] → needN (ws.map PyData.str) = true
theorem need_w {w : Str} {ws : List Str} (h : w ∉ resW) : needN ((w :: ws).map PyData.str) = true := by
  show (!decide (w ∈ resW) && (ws.map PyData.str).all isSD) = true
  simp [h, isSD]
theorem nine_res {w : Str} (h : w ∈ nine) : w ∉ resW := by
  unfold nine at h
  simp only [List.mem_cons, List.not_mem_nil, or_false] at h
  rcases h with rfl | rfl | rfl | rfl | rfl | rfl | rfl | rfl | rfl <;> decide +kernel
theorem fdiv_n (a m : Nat) (h : 0 < m) (h2 : m ≤ 1000) : fdivD (nD a) (nD m) = some (nD (a / m)) := by
  show (if 0 < (m : Int) ∧ (m : Int) < 1073741824 then some (PyData.int ((a : Int) / (m : Int))) else none) = _
  rw [if_pos (by omega)]
  rfl
theorem two_n {many : Nat} (h : 6 ≤ many) (h2 : many ≤ 12) (a : Nat) : d_two_signs [nD many, nD a] = .ok (.list [nD (a / many), nD (a % many)]) := by
  unfold d_two_signs b_two_signs env0
  simp [fdiv_n a many (by omega) (by omega), modD_n a many (by omega)]
section
variable {many : Nat} {ws : List Str}
theorem bk_i0 : idxD (bkD many ws) (.int 0) = some (nD many) := rfl
theorem bk_i1 : idxD (bkD many ws) (.int 1) = some (.tuple (ws.map PyData.str)) := rfl
theorem tix_n (B : BkA many ws) {w : Str} (hw : w ∈ ws) {a b : Env → R (D × Env)} {e : Env} (ha : a e = .ok (.tuple (ws.map PyData.str), e)) (hb : b e = .ok (.str w, e)) : tixM a b e = .ok (nD (ws.idxOf w), e) := by
  have hne : ws ≠ [] := fun z => by rw [z] at hw; cases hw
  unfold tixM
  rw [ha]
  simp only [bind_ok, B.nn hne, if_true, hb, tixD, strsOf_map, hw, lift_some]
  rfl
theorem rowW_len (w : Str) : (rowW many ws w).length ≤ 3 + 2 * w.cps.size := by
  unfold rowW
  split
  · simp
  · have : (w.cps.toList.flatMap (sgC many)).length = 2 * w.cps.size := by
      rw [List.length_flatMap]
      have e : w.cps.toList.map (fun c => (sgC many c).length) = w.cps.toList.map (fun _ => 2) := by
        refine List.map_congr_left fun c _ => rfl
      rw [e, List.map_const', List.sum_replicate_nat, Array.length_toList]
      omega
    rw [List.length_cons, this]
    omega
theorem word_row_n (B : BkA many ws) {w : Str} (W : IsW w) : d_word_row [bkD many ws, .str w] = .ok (.list (rowW many ws w)) := by
  have h6 := B.ge
  have h12 := B.le
  have h8 := W.le
  have key : Ok (d_word_row [bkD many ws, .str w]) fun d => d = .list (rowW many ws w) := by
    unfold d_word_row b_word_row env0
    refine Ok_fin (Ok_seq ?_)
    by_cases hw : w ∈ ws
    · have ht : ∀ e : Env, e = [some (bkD many ws), some (.str w), none, none] → tixM (op2 idxD (varD 0) (cD (.int 1))) (varD 1) e = .ok (nD (ws.idxOf w), e) := fun e he => by
        subst he
        exact tix_n B hw (by simp [bk_i1]) (by simp)
      have hadd := addD_l [.str "word"] [nD (ws.idxOf w / many), nD (ws.idxOf w % many)] (by simp)
      simp only [List.cons_append, List.nil_append] at hadd
      simp [bk_i1, bk_i0, inD_s W B.wd, hw, ht _ rfl, two_n h6 h12, hadd, rowW]
    · simp [bk_i1, inD_s W B.wd, hw]
      refine Ok_seq ?_
      simp
      refine Ok_seq ?_
      simp only [ev_forS, ev_seqI, ev_varD, Ok_bind]
      have hit : itemsOf (.str w) = some (w.cps.toList.map fun c => PyData.str ⟨#[c]⟩) := rfl
      simp [hit]
      refine Ok_forL (fun c : Nat => PyData.str ⟨#[c]⟩) w.cps.toList (fun i e => ∃ v, e = [some (bkD many ws), some (.str w), some (.list (.str "spell" :: (w.cps.toList.take i).flatMap (sgC many))), v]) ⟨none, by simp⟩ (fun i c e hc hI => ?_) fun e hI => ?_
      · obtain ⟨v, rfl⟩ := hI
        refine ⟨_, rfl, ?_⟩
        have hlc := W.low c (List.mem_of_getElem? hc)
        have hs := six_c hlc.1 hlc.2
        unfold LET at hs
        have hlen : ((w.cps.toList.take i).flatMap (sgC many)).length ≤ 16 := by
          rw [List.length_flatMap]
          have e : (w.cps.toList.take i).map (fun c => (sgC many c).length) = (w.cps.toList.take i).map (fun _ => 2) := List.map_congr_left fun c _ => rfl
          rw [e, List.map_const', List.sum_replicate_nat, List.length_take, Array.length_toList]
          have : min i w.cps.size ≤ 8 := by omega
          omega
        have hst : (w.cps.toList.take (i + 1)).flatMap (sgC many) = (w.cps.toList.take i).flatMap (sgC many) ++ [nD ((c - 97) / many), nD ((c - 97) % many)] := by
          rw [List.take_add_one, hc]
          simp [sgC]
        rw [hst]
        generalize (w.cps.toList.take i).flatMap (sgC many) = Z at *
        have ho : ∀ v : Option D, ownL [some (bkD many ws), some (.str w), some (.list (.str "spell" :: Z)), v] 2 = some (.str "spell" :: Z) := fun _ => rfl
        have hcall : callP d_two_signs (consA (op2 idxD (varD 0) (cD (.int 0))) (consA (strM sixD (cD (.str "abcdefghijklmnopqrstuvwxyz")) (varD 3)) nilA)) [some (bkD many ws), some (.str w), some (.list (.str "spell" :: Z)), some (.str ⟨#[c]⟩)] = .ok (.list [nD ((c - 97) / many), nD ((c - 97) % many)], [some (bkD many ws), some (.str w), some (.list (.str "spell" :: Z)), some (.str ⟨#[c]⟩)]) := by
          simp only [ev_callP, ev_consA, ev_op2, ev_varD, ev_cD, ev_nilA]
          simp [bk_i0, strM, isStrD, hs, two_n h6 h12]
        have hset : ∀ v : Option D, [some (bkD many ws), some (.str w), some (.list (.str "spell" :: Z)), v].set 3 (some (.str ⟨#[c]⟩)) = [some (bkD many ws), some (.str w), some (.list (.str "spell" :: Z)), some (.str ⟨#[c]⟩)] := fun _ => rfl
        rw [hset]
        unfold extS
        rw [ho]
        simp only [lift_some, bind_ok]
        rw [hcall]
        simp only [bind_ok]
        rw [ho]
        simp only [lift_some, bind_ok]
        rw [if_pos (by simp; omega)]
        exact ⟨_, rfl, rfl, _, rfl⟩
      · obtain ⟨v, rfl⟩ := hI
        rw [List.take_length]
        simp [rowW, hw]
  obtain ⟨d, e, rfl⟩ := key
  exact e
def rowsW (many : Nat) (ws vs : List Str) : List D := vs.flatMap (rowW many ws)
theorem rowsW_len {vs : List Str} (hv : ∀ v ∈ vs, IsW v) : (rowsW many ws vs).length ≤ 19 * vs.length := by
  unfold rowsW
  induction vs with
  | nil => simp
  | cons v vs ih =>
    have h1 := rowW_len (many := many) (ws := ws) v
    have h2 := (hv v List.mem_cons_self).le
    have h3 := ih fun x hx => hv x (List.mem_cons_of_mem _ hx)
    rw [List.flatMap_cons, List.length_append, List.length_cons]
    omega
theorem row_of_n (B : BkA many ws) {vs : List Str} (hv : ∀ v ∈ vs, IsW v) (hl : vs.length ≤ 20) : d_row_of [bkD many ws, .list (vs.map PyData.str)] = .ok (.list (.str "begin" :: rowsW many ws vs ++ [.str "end"])) := by
  have hrl := rowsW_len (many := many) (ws := ws) hv
  have key : Ok (d_row_of [bkD many ws, .list (vs.map PyData.str)]) fun d => d = .list (.str "begin" :: rowsW many ws vs ++ [.str "end"]) := by
    unfold d_row_of b_row_of env0
    refine Ok_fin (Ok_seq ?_)
    simp
    refine Ok_seq ?_
    simp only [ev_forS, ev_seqI, ev_varD, Ok_bind]
    have hit : itemsOf (.list (vs.map PyData.str)) = some (vs.map PyData.str) := rfl
    simp [hit]
    refine Ok_forL PyData.str vs (fun i e => ∃ u, e = [some (bkD many ws), some (.list (vs.map PyData.str)), some (.list (.str "begin" :: rowsW many ws (vs.take i))), u]) ⟨none, by simp [rowsW]⟩ (fun i v e hv' hI => ?_) fun e hI => ?_
    · obtain ⟨u, rfl⟩ := hI
      refine ⟨_, rfl, ?_⟩
      have hlen := rowsW_len (many := many) (ws := ws) (vs := vs.take i) fun x hx => hv x (List.mem_of_mem_take hx)
      have hmem := List.mem_of_getElem? hv'
      have hst : rowsW many ws (vs.take (i + 1)) = rowsW many ws (vs.take i) ++ rowW many ws v := by
        unfold rowsW
        rw [List.take_add_one, hv']
        simp
      rw [hst]
      have hlw := rowW_len (many := many) (ws := ws) v
      have h8 := (hv v hmem).le
      have hwr := word_row_n B (hv v hmem)
      generalize rowsW many ws (vs.take i) = Z at *
      generalize rowW many ws v = Y at *
      rw [List.length_take] at hlen
      have ho : ∀ u : Option D, ownL [some (bkD many ws), some (.list (vs.map PyData.str)), some (.list (.str "begin" :: Z)), u] 2 = some (.str "begin" :: Z) := fun _ => rfl
      have hset : ∀ u : Option D, [some (bkD many ws), some (.list (vs.map PyData.str)), some (.list (.str "begin" :: Z)), u].set 3 (some (.str v)) = [some (bkD many ws), some (.list (vs.map PyData.str)), some (.list (.str "begin" :: Z)), some (.str v)] := fun _ => rfl
      rw [hset]
      have hcall : callP d_word_row (consA (varD 0) (consA (varD 3) nilA)) [some (bkD many ws), some (.list (vs.map PyData.str)), some (.list (.str "begin" :: Z)), some (.str v)] = .ok (.list Y, [some (bkD many ws), some (.list (vs.map PyData.str)), some (.list (.str "begin" :: Z)), some (.str v)]) := by
        simp [hwr]
      unfold extS
      rw [ho]
      simp only [lift_some, bind_ok]
      rw [hcall]
      simp only [bind_ok]
      rw [ho]
      simp only [lift_some, bind_ok]
      rw [if_pos (by simp; omega)]
      exact ⟨_, rfl, rfl, _, rfl⟩
    · obtain ⟨u, rfl⟩ := hI
      rw [List.take_length]
      have hadd := addD_l (.str "begin" :: rowsW many ws vs) [.str "end"] (by simp; omega)
      simp [hadd]
  obtain ⟨d, e, rfl⟩ := key
  exact e
theorem need_words_n {vs : List Str} (hv : ∀ v ∈ vs, IsW v) {n : Nat} (hl : vs.length ≤ n) (hn : n ≤ 100) (nd : D) (hnd : nd = nD n) : d_need_words [.list (vs.map PyData.str), nd] = .ok .none := by
  subst hnd
  have c1 : compD (seqI (varD 0)) [2] (bName 2) yesT (callP d_is_word (consA (varD 2) nilA)) [some (.list (vs.map PyData.str)), some (nD n), none] = .ok (.list (vs.map fun _ => .bool true), [some (.list (vs.map PyData.str)), some (nD n), none]) :=
    ofOk (Ok_compY PyData.str (fun _ => .bool true) vs (by simp [itemsOf]) (by omega) (fun w hw' => ⟨_, rfl, by simp [is_word_n (hv w hw')], rfl⟩) rfl rfl)
  have hall := allD_map (fun _ : Str => true) vs
  rw [show vs.all (fun _ => true) = true by simp] at hall
  unfold d_need_words b_need_words env0
  simp [show ¬ n < vs.length by omega, c1, hall]
theorem put_n (B : BkA many ws) (hb : d_need_book [bkD many ws] = .ok .none) {vs : List Str} (hv : ∀ v ∈ vs, IsW v) (hl : vs.length ≤ 8) : d_put [bkD many ws, .list (vs.map PyData.str)] = .ok (.list (.str "begin" :: rowsW many ws vs ++ [.str "end"])) := by
  have hr := row_of_n B hv (by omega)
  have hw := need_words_n hv hl (by omega) (.int 8) rfl
  unfold d_put b_put env0
  simp [ev_seqS, hb, hw, hr]
end
end Hz

namespace Hz
open PySem PySem.Spec PyProof.Rows L2 TL
structure IsP (w : Str) : Prop where
  isw : IsW w
  nr : w ∉ resW
def seven : List Str := ["a", "fog", "hill", "ab", "north", "z", "eastward"]
theorem seven_nine {w : Str} (h : w ∈ seven) : w ∈ nine := by
  have : ∀ w ∈ seven, w ∈ nine := by decide +kernel
  exact this w h
theorem nine_P {w : Str} (h : w ∈ nine) : IsP w := ⟨isW_nine h, nine_res h⟩
def six6 : List Nat := [97, 98, 109, 120, 121, 122]
theorem joinL_nil : ∀ ps : List (List Nat), joinL [] ps = ps.flatten
  | [] => rfl
  | [p] => by simp [joinL]
  | p :: q :: r => by
    rw [joinL, joinL_nil (q :: r)]
    simp
theorem join_cps (cs : List Nat) : (Txt.join ("" : Str) (cs.map fun c => ⟨#[c]⟩)).cps.toList = cs := by
  rw [join_eq]
  show tl (Str.join ("" : Str) (cs.map fun c => ⟨#[c]⟩)) = cs
  rw [tl_join]
  have e : tl ("" : Str) = [] := by decide +kernel
  rw [e, joinL_nil, List.map_map]
  have e2 : (tl ∘ fun c => (⟨#[c]⟩ : Str)) = fun c => [c] := by
    funext c
    rfl
  rw [e2]
  clear e e2
  induction cs with
  | nil => rfl
  | cons c cs ih => simpa using ih
theorem letters_P {cs : List Nat} (h1 : 1 ≤ cs.length) (h8 : cs.length ≤ 8) (hc : ∀ c ∈ cs, c ∈ six6) : IsP (Txt.join ("" : Str) (cs.map fun c => ⟨#[c]⟩)) := by
  have e := join_cps cs
  have hs : (Txt.join ("" : Str) (cs.map fun c => ⟨#[c]⟩)).cps.size = cs.length := by
    rw [← Array.length_toList, e]
  refine ⟨⟨by omega, by omega, fun c hm => ?_⟩, fun hr => ?_⟩
  · rw [e] at hm
    have := hc c hm
    unfold six6 at this
    simp at this
    omega
  · have key : ∀ w ∈ resW, ∃ c ∈ w.cps.toList, c ∉ six6 := by decide +kernel
    obtain ⟨c, h2, h3⟩ := key _ hr
    rw [e] at h2
    exact h3 (hc c h2)
theorem word_ok (ns : List Int) (k : Nat) (hk : k ≤ 100000) : Ok (d_law_word [scrV ns, twn k]) fun r => ∃ (w : Str) (k' : Nat), r = (.str w, twn k') ∧ IsP w ∧ k' ≤ k + 10 := by
  unfold d_law_word b_law_word env0
  refine Ok_finT (Ok_seq ?_)
  obtain ⟨m, hm, e1⟩ := draw_lit ns k 4 (.int 4) rfl (by omega) (by omega)
  by_cases h0 : 0 < m
  · obtain ⟨d, hd, e2⟩ := pick_ok ns (k + 1) (seven.map PyData.str) (by simp [seven]) (by omega)
    obtain ⟨w, hw, rfl⟩ := List.mem_map.mp hd
    have e3 : d_law_pick [scrV ns, twn (k + 1), .list [.str "a", .str "fog", .str "hill", .str "ab", .str "north", .str "z", .str "eastward"]] = .ok (.str w, twn (k + 1 + 1)) := e2
    simp [e1, h0, e3]
    exact ⟨w, k + 1 + 1, ⟨rfl, rfl⟩, nine_P (seven_nine hw), by omega⟩
  · simp [e1, h0]
    obtain ⟨n, hn, e2⟩ := draw_lit ns (k + 1) 8 (.int 8) rfl (by omega) (by omega)
    have hadd : addD (.int 1) (nD n) = some (nD (n + 1)) := by
      show some (PyData.int (1 + (n : Int))) = some (.int ((n + 1 : Nat) : Int))
      exact congrArg (fun z => some (PyData.int z)) (by omega)
    have hlist : listS [.str "abmxyz"] = some (.list (six6.map fun c => PyData.str ⟨#[c]⟩)) := by kernel_rfl
    have hcomp : Ok (compD (argI rng1 (consA (op2 addD (cD (.int 1)) (callT d_law_draw 1 (varD 0) (consA (cD (.int 8)) nilA))) nilA)) [2] (bName 2) yesT (callT d_law_pick 1 (varD 0) (consA (opN listS (consA (cD (.str "abmxyz")) nilA)) nilA)) [some (scrV ns), some (twn (k + 1)), none]) fun r => ∃ cs : List Nat, r = (.list (cs.map fun c => PyData.str ⟨#[c]⟩), [some (scrV ns), some (twn (k + 2 + (n + 1))), none]) ∧ cs.length = n + 1 ∧ ∀ c ∈ cs, c ∈ six6 := by
      refine Ok_compA nD (fun c : Nat => PyData.str ⟨#[c]⟩) (List.range (n + 1)) (fun acc e => e = [some (scrV ns), some (twn (k + 2 + acc.length)), none] ∧ ∀ c ∈ acc, c ∈ six6) (env1 := [some (scrV ns), some (twn (k + 2)), none]) ?_ (by simp; omega) ⟨rfl, by simp⟩ (fun x acc e hx hI => ?_) (fun ys e' hI hl => ?_)
      · simp only [ev_argI, ev_consA, ev_op2, ev_cD, ev_callT, ev_varD, ev_nilA]
        simp [e2, hadd, rng1_n (n + 1) (by omega)]
      · obtain ⟨rfl, hacc⟩ := hI
        simp at hx
        refine ⟨_, rfl, ?_⟩
        obtain ⟨d, hd, e4⟩ := pick_ok ns (k + 2 + acc.length) (six6.map fun c => PyData.str ⟨#[c]⟩) (by simp [six6]) (by omega)
        obtain ⟨c, hc, rfl⟩ := List.mem_map.mp hd
        generalize hS : six6.map (fun c => PyData.str ⟨#[c]⟩) = S6 at *
        simp [hlist, e4]
        refine ⟨by rw [Nat.add_assoc], fun x hx => ?_⟩
        rcases hx with hx | rfl
        · exact hacc x hx
        · exact hc
      · obtain ⟨rfl, hacc⟩ := hI
        simp at hl
        exact ⟨ys, by rw [hl]; rfl, hl, hacc⟩
    obtain ⟨_, ec, cs, rfl, hcl, hcs⟩ := hcomp
    have hj : joinM (.str "") (.list (cs.map fun c => PyData.str ⟨#[c]⟩)) = some (.str (Txt.join ("" : Str) (cs.map fun c => ⟨#[c]⟩))) := by
      have e5 : (cs.map fun c => PyData.str ⟨#[c]⟩) = (cs.map fun c => (⟨#[c]⟩ : Str)).map PyData.str := by rw [List.map_map]; rfl
      rw [e5]
      simp only [joinM, strsOf_map]
      rw [if_pos]
      have e6 : ((cs.map fun c => (⟨#[c]⟩ : Str)).map (·.length)) = cs.map fun _ => 1 := by
        rw [List.map_map]
        rfl
      have e7 : ("" : Str).length = 0 := by decide +kernel
      rw [e6, e7, List.map_const', List.sum_replicate_nat]
      omega
    simp only [strM, ev_cD, bind_ok, isStrD, if_true]
    rw [ec]
    simp [hj]
    exact ⟨_, _, ⟨rfl, rfl⟩, letters_P (by omega) (by omega) hcs, by omega⟩
theorem words_ok (ns : List Int) (k most : Nat) (md : D) (hmd : md = nD most) (hm : most ≤ 20) (hk : k ≤ 50000) : Ok (d_law_words [scrV ns, twn k, md]) fun r => ∃ (vs : List Str) (k' : Nat), r = (.list (vs.map PyData.str), twn k') ∧ (∀ v ∈ vs, IsP v) ∧ vs.length ≤ most ∧ k' ≤ k + 300 := by
  subst hmd
  unfold d_law_words b_law_words env0
  refine Ok_finT ?_
  obtain ⟨n, hn, e1⟩ := draw_ok ns k (most + 1) (by omega) (by omega)
  have hadd : addD (nD most) (.int 1) = some (nD (most + 1)) := rfl
  simp only [ev_retS, Ok_bind]
  refine Ok_compA nD PyData.str (List.range n) (fun acc e => ∃ j, e = [some (scrV ns), some (twn j), some (nD most), none] ∧ (∀ v ∈ acc, IsP v) ∧ j ≤ k + 1 + 10 * acc.length) (env1 := [some (scrV ns), some (twn (k + 1)), some (nD most), none]) ?_ (by simp; omega) ⟨k + 1, rfl, by simp, by simp⟩ (fun x acc e hx hI => ?_) (fun ys e' hI hl => ?_)
  · simp only [ev_argI, ev_consA, ev_op2, ev_cD, ev_callT, ev_varD, ev_nilA]
    simp [hadd, e1, rng1_n n (by omega)]
  · obtain ⟨j, rfl, hacc, hj⟩ := hI
    simp at hx
    refine ⟨_, rfl, ?_⟩
    obtain ⟨_, e2, w, k', rfl, hw, hk'⟩ := word_ok ns j (by omega)
    simp [e2]
    refine ⟨k', rfl, fun v hv => ?_, by omega⟩
    rcases hv with hv | rfl
    · exact hacc v hv
    · exact hw
  · obtain ⟨j, rfl, hacc, hj⟩ := hI
    simp at hl
    simp
    exact ⟨ys, j, ⟨rfl, rfl⟩, hacc, by omega, by omega⟩
end Hz

namespace Hz
open PySem PySem.Spec PyProof.Rows L2
/-! reading rows, plainly -/
section
variable {many : Nat} {ws : List Str}
end
end Hz

namespace Hz
open PySem PySem.Spec PyProof.Rows L2 TL
section
variable {many : Nat} {ws : List Str}
end
end Hz

namespace Hz
open PySem PySem.Spec PyProof.Rows L2 TL
section
variable {many : Nat} {ws : List Str}
end
end Hz

namespace Hz
open PySem PySem.Spec PyProof.Rows L2 TL
section
variable {many : Nat} {ws : List Str}
end
end Hz

namespace Hz
open PySem PySem.Spec PyProof.Rows L2 TL
section
variable {many : Nat} {ws : List Str}
theorem need_bk (h6 : 6 ≤ many) (h12 : many ≤ 12) (nd : ws.Nodup) (hl : ws.length ≤ 36) (hw : ∀ w ∈ ws, IsW w) : d_need_book [bkD many ws] = .ok .none := by
  unfold d_need_book b_need_book env0
  simp [is_book_n h6 h12 nd hl fun w h => is_word_n (hw w h)]
end
end Hz

namespace Hz
open PySem PySem.Spec PyProof.Rows L2
/-! ### a run, moment by moment: what each hill has begun to show -/
def InvB (s u : D) (Bu Bh : List D) : Prop :=
  (s = u ∧ Ext Bu Bh) ∨ (s ≠ u ∧ ∃ L M ws, Bu = L ++ [u] ∧ Bh = M ++ ws ∧ Ext L M ∧ (∀ w ∈ ws, signB w = true) ∧ (u = restD → ws = []))
structure RunI (t : List Nat) (row sh it : List D) (B : Nat → List D) : Prop where
  len : sh.length = t.length + 1
  shw : ∀ d ∈ sh, showB d = true ∧ dep 0 d = true
  zero : ∃ k, k ≤ 2 * row.length ∧ atD sh 0 = itemAt row k ∧ it = (restsOf row).drop k ∧ B 0 = (restsOf row).take k
  inv : ∀ h, 1 ≤ h → h ≤ t.length → InvB (atD sh h) (atD sh (up t h)) (B (up t h)) (B h)
  last : ∀ h, h ≤ t.length → (B h = [] ∧ atD sh h = restD) ∨ ∃ X, B h = X ++ [atD sh h]
  bsh : ∀ h, h ≤ t.length → ∀ d ∈ B h, showB d = true ∧ dep 0 d = true
def nxtB (sh sh' : List D) (B : Nat → List D) (h : Nat) : List D := if PyData.eqv (atD sh' h) (atD sh h) = true then B h else B h ++ [atD sh' h]
section
variable {t : List Nat} {row sh it : List D} {B : Nat → List D} {un : List Nat} {wr : List (Nat × D)}
theorem step_0 : atD (stepL t sh it un wr) 0 = if goB t sh it un = true then atD it 0 else atD sh 0 := rfl
theorem step_h {h : Nat} (h1 : 1 ≤ h) (hh : h ≤ t.length) : atD (stepL t sh it un wr) h = stepV t sh un wr h := by
  obtain ⟨k, rfl⟩ : ∃ k, h = k + 1 := ⟨h - 1, by omega⟩
  show atD (_ :: (List.range' 1 t.length).map _) (k + 1) = _
  refine atD_of ?_
  rw [List.getElem?_cons_succ, List.getElem?_map, List.getElem?_range' (by omega)]
  simp [Nat.add_comm]
theorem step_len : (stepL t sh it un wr).length = t.length + 1 := by simp [stepL]
theorem RunI.at_show (R : RunI t row sh it B) {h : Nat} (hh : h ≤ t.length) : showB (atD sh h) = true := (R.shw _ (List.mem_of_getElem? (atD_get (by rw [R.len]; omega)))).1
theorem RunI.at_dep (R : RunI t row sh it B) {h : Nat} (hh : h ≤ t.length) : dep 0 (atD sh h) = true := (R.shw _ (List.mem_of_getElem? (atD_get (by rw [R.len]; omega)))).2
theorem rests_memP {P : D → Prop} (h0 : P restD) : ∀ {row : List D}, (∀ d ∈ row, P d) → ∀ d ∈ restsOf row, P d
  | [], _ => fun _ h => by cases h
  | a :: row, h => fun d hd => by
    rcases List.mem_cons.mp hd with rfl | hd
    · exact h _ List.mem_cons_self
    · rcases List.mem_cons.mp hd with rfl | hd
      · exact h0
      · exact rests_memP h0 (fun x hx => h x (List.mem_cons_of_mem _ hx)) d hd
theorem show_rest : showB restD = true ∧ dep 0 restD = true := ⟨by decide +kernel, by decide +kernel⟩
theorem sign_show {d : D} (h : signB d = true) : showB d = true := by unfold showB; rw [h]; rfl
section
variable (R : RunI t row sh it B) (w : Whole t) (hr : ∀ d ∈ row, signB d = true ∧ dep 0 d = true) (hs : ∀ p ∈ wr, signB p.2 = true ∧ dep 0 p.2 = true)
include R w hr hs
omit hr in
theorem RunI.next_at {h : Nat} (h1 : 1 ≤ h) (hh : h ≤ t.length) : showB (atD (stepL t sh it un wr) h) = true ∧ dep 0 (atD (stepL t sh it un wr) h) = true := by
  rw [step_h h1 hh]
  have hm : nextD t sh h un ∈ sh := next_mem w R.len hh un
  unfold stepV
  split
  · cases hv : valW wr h with
    | none => exact R.shw _ hm
    | some d =>
      obtain ⟨p, hp, rfl⟩ := find_w hv
      exact ⟨sign_show (hs p hp).1, (hs p hp).2⟩
  · exact R.shw _ hm
theorem RunI.it_mem : ∀ d ∈ it, showB d = true ∧ dep 0 d = true := by
  obtain ⟨k, _, _, e, _⟩ := R.zero
  intro d hd
  rw [e] at hd
  exact rests_memP (P := fun d => showB d = true ∧ dep 0 d = true) show_rest (fun d hd => ⟨sign_show (hr d hd).1, (hr d hd).2⟩) d (List.mem_of_mem_drop hd)
theorem RunI.next_show : ∀ d ∈ stepL t sh it un wr, showB d = true ∧ dep 0 d = true := by
  intro d hd
  obtain ⟨k, hk⟩ := List.getElem?_of_mem hd
  have hkl : k < (stepL t sh it un wr).length := by
    rcases Nat.lt_or_ge k (stepL t sh it un wr).length with z | z
    · exact z
    · rw [List.getElem?_eq_none z] at hk
      cases hk
  rw [step_len] at hkl
  rw [← atD_of hk]
  by_cases z : k = 0
  · subst z
    rw [step_0]
    split
    · rename_i g
      refine R.it_mem w hr hs _ (List.mem_of_getElem? (atD_get (h := 0) ?_))
      unfold goB at g
      cases it with
      | nil => simp at g
      | cons a l => simp
    · exact ⟨R.at_show (by omega), R.at_dep (by omega)⟩
  · exact R.next_at w hs (by omega) (by omega)
omit hr hs in
theorem RunI.no_rep {h : Nat} (h1 : 1 ≤ h) (hh : h ≤ t.length) (ne : atD sh h ≠ atD sh (up t h)) : repB t sh (up t h) un = false := by
  unfold repB
  rw [List.all_eq_false]
  refine ⟨h, below_mem.mpr ⟨h1, hh, rfl⟩, ?_⟩
  rw [Bool.and_eq_true]
  intro z
  exact ne ((eqv_show (R.at_show hh) (R.at_show (up_le w h))).mp z.2)
omit hr hs in
theorem RunI.par_stay {h : Nat} (h1 : 1 ≤ h) (hh : h ≤ t.length) (ne : atD sh h ≠ atD sh (up t h)) : atD (stepL t sh it un wr) (up t h) = atD sh (up t h) := by
  have hn := R.no_rep w (un := un) h1 hh ne
  have hu := up_le w h
  by_cases z : up t h = 0
  · rw [z] at hn ⊢
    rw [step_0, if_neg]
    unfold goB
    rw [hn, Bool.and_false]
    simp
  · rw [step_h (by omega) hu]
    have hx : nextD t sh (up t h) un = atD sh (up t h) := by
      unfold nextD
      rw [hn]
      simp
    unfold stepV
    rw [hx]
    rw [if_neg]
    rw [show PyData.eqv (atD sh (up t h)) (atD sh (up t h)) = true from (eqv_show (R.at_show hu) (R.at_show hu)).mpr rfl]
    simp
omit hr hs in
theorem RunI.kid_stay {h : Nat} (h1 : 1 ≤ h) (hh : h ≤ t.length) (e : atD sh h = atD sh (up t h)) : atD (stepL t sh it un wr) h = atD sh h := by
  have hs1 := R.at_show hh
  have hx : nextD t sh h un = atD sh h := by
    unfold nextD
    rw [show PyData.eqv (atD sh (up t h)) (atD sh h) = true from (eqv_show (R.at_show (up_le w h)) hs1).mpr e.symm]
    simp
  rw [step_h h1 hh]
  unfold stepV
  rw [hx, if_neg]
  rw [show PyData.eqv (atD sh h) (atD sh h) = true from (eqv_show hs1 hs1).mpr rfl]
  simp
omit w hr hs in
theorem RunI.kid_go {h : Nat} (h1 : 1 ≤ h) (hh : h ≤ t.length) (ne : atD (stepL t sh it un wr) h ≠ atD sh h) : atD (stepL t sh it un wr) h = atD sh (up t h) ∨ (valW wr h = some (atD (stepL t sh it un wr) h) ∧ atD sh (up t h) ≠ restD) := by
  have hs1 := R.at_show hh
  have e := step_h (sh := sh) (it := it) (un := un) (wr := wr) h1 hh
  have hx : nextD t sh h un = atD sh h ∨ nextD t sh h un = atD sh (up t h) := by
    unfold nextD
    split
    · exact .inl rfl
    · exact .inr rfl
  unfold stepV at e
  rcases hx with hx | hx
  · rw [hx, if_neg] at e
    · exact absurd e ne
    · rw [show PyData.eqv (atD sh h) (atD sh h) = true from (eqv_show hs1 hs1).mpr rfl]
      simp
  · rw [hx] at e
    split at e
    · rename_i hc
      cases hv : valW wr h with
      | none =>
        rw [hv] at e
        exact .inl e
      | some d =>
        rw [hv] at e
        refine .inr ⟨by rw [e]; rfl, fun z => ?_⟩
        rw [z] at hc
        rw [isR_rest] at hc
        simp at hc
    · exact .inl e
theorem RunI.nx_at {h : Nat} (hh : h ≤ t.length) : showB (atD (stepL t sh it un wr) h) = true := (R.next_show w hr hs _ (List.mem_of_getElem? (atD_get (by rw [step_len]; omega)))).1
theorem RunI.b_same {h : Nat} (hh : h ≤ t.length) (e : atD (stepL t sh it un wr) h = atD sh h) : nxtB sh (stepL t sh it un wr) B h = B h := by
  unfold nxtB
  rw [if_pos ((eqv_show (R.nx_at w hr hs hh) (R.at_show hh)).mpr e)]
theorem RunI.b_new {h : Nat} (hh : h ≤ t.length) (e : atD (stepL t sh it un wr) h ≠ atD sh h) : nxtB sh (stepL t sh it un wr) B h = B h ++ [atD (stepL t sh it un wr) h] := by
  unfold nxtB
  rw [if_neg (fun z => e ((eqv_show (R.nx_at w hr hs hh) (R.at_show hh)).mp z))]
theorem RunI.step : RunI t row (stepL t sh it un wr) (stepI t sh it un) (nxtB sh (stepL t sh it un wr) B) where
  len := step_len
  shw := R.next_show w hr hs
  zero := by
    obtain ⟨k, hk, e1, e2, e3⟩ := R.zero
    have hln := rests_len row
    by_cases g : goB t sh it un = true
    · have hne : it ≠ [] := fun z => by
        unfold goB at g
        rw [z] at g
        simp at g
      have hk2 : k < 2 * row.length := by
        rcases Nat.lt_or_ge k (2 * row.length) with z | z
        · exact z
        · rw [e2, List.drop_eq_nil_of_le (by omega)] at hne
          exact absurd rfl hne
      have i1 : atD (stepL t sh it un wr) 0 = itemAt row (k + 1) := by
        rw [step_0, if_pos g, e2]
        unfold itemAt
        rw [if_neg (by omega)]
        refine atD_of ?_
        rw [List.getElem?_drop]
        exact atD_get (by omega)
      refine ⟨k + 1, by omega, i1, ?_, ?_⟩
      · unfold stepI
        rw [if_pos g, e2, List.drop_drop]
      · rw [R.b_new w hr hs (by omega) (fun z => ?_), e3, i1]
        · unfold itemAt
          rw [if_neg (by omega), List.take_succ, @atD_get (restsOf row) k (by omega)]
          rfl
        · rw [i1, e1] at z
          have := eqv_item hr (a := k + 1) (b := k) (by omega) (by omega) (by omega) (by omega)
          rw [z, eqv_self 0 _ (item_dep hr (by omega))] at this
          simp at this
    · refine ⟨k, hk, ?_, ?_, ?_⟩
      · rw [step_0, if_neg g, e1]
      · unfold stepI
        rw [if_neg g, e2]
      · rw [R.b_same w hr hs (by omega) (by rw [step_0, if_neg g]), e3]
  inv := by
    intro h h1 hh
    have hu := up_le w h
    rcases R.inv h h1 hh with ⟨e, x⟩ | ⟨ne, L, M, ws, e1, e2, x, e3, e4⟩
    · have k1 := R.kid_stay w (un := un) (wr := wr) h1 hh e
      have k2 := R.b_same w hr hs hh k1
      by_cases z : atD (stepL t sh it un wr) (up t h) = atD sh (up t h)
      · have p2 := R.b_same w hr hs hu z
        refine .inl ?_
        rw [k1, z, k2, p2]
        exact ⟨e, x⟩
      · have p2 := R.b_new w hr hs hu z
        exact .inr ⟨by rw [k1, e]; exact fun y => z y.symm, B (up t h), B h, [], p2, by rw [k2, List.append_nil], x, fun _ h => (by cases h), fun _ => rfl⟩
    · have p1 := R.par_stay w (un := un) (wr := wr) h1 hh ne
      have p2 := R.b_same w hr hs hu p1
      by_cases z : atD (stepL t sh it un wr) h = atD sh h
      · have k2 := R.b_same w hr hs hh z
        refine .inr ?_
        rw [z, p1, k2, p2]
        exact ⟨ne, L, M, ws, e1, e2, x, e3, e4⟩
      · have k2 := R.b_new w hr hs hh z
        by_cases y : atD (stepL t sh it un wr) h = atD sh (up t h)
        · refine .inl ?_
          rw [p1, k2, p2, y]
          refine ⟨rfl, ?_⟩
          rw [e1, e2, List.append_assoc]
          exact Ext.snoc e3 e4 x
        · rcases R.kid_go h1 hh z with y' | ⟨hv, hne⟩
          · exact absurd y' y
          · obtain ⟨p, hp, hpd⟩ := find_w hv
            refine .inr ?_
            rw [p1, k2, p2]
            refine ⟨y, L, M, ws ++ [atD (stepL t sh it un wr) h], e1, by rw [e2, List.append_assoc], x, fun v hv' => ?_, fun q => absurd q hne⟩
            rcases List.mem_append.mp hv' with q | q
            · exact e3 v q
            · rw [List.mem_singleton.mp q, ← hpd]
              exact (hs p hp).1
  last := by
    intro h hh
    by_cases z : atD (stepL t sh it un wr) h = atD sh h
    · rw [R.b_same w hr hs hh z, z]
      exact R.last h hh
    · rw [R.b_new w hr hs hh z]
      exact .inr ⟨_, rfl⟩
  bsh := by
    intro h hh d hd
    by_cases z : atD (stepL t sh it un wr) h = atD sh h
    · rw [R.b_same w hr hs hh z] at hd
      exact R.bsh h hh d hd
    · rw [R.b_new w hr hs hh z] at hd
      rcases List.mem_append.mp hd with q | q
      · exact R.bsh h hh d q
      · rw [List.mem_singleton.mp q]
        exact R.next_show w hr hs _ (List.mem_of_getElem? (atD_get (by rw [step_len]; omega)))
end
theorem RunI.start (w : Whole t) (hr : ∀ d ∈ row, signB d = true ∧ dep 0 d = true) (hl : sh.length = t.length + 1) (hsh : ∀ d ∈ sh, d = restD) : RunI t row sh (restsOf row) (fun _ => []) := by
  have key : ∀ h, h ≤ t.length → atD sh h = restD := fun h hh => hsh _ (List.mem_of_getElem? (atD_get (by omega)))
  refine ⟨hl, fun d hd => ?_, ⟨0, by omega, key 0 (by omega), rfl, rfl⟩, fun h h1 hh => ?_, fun h hh => .inl ⟨rfl, key h hh⟩, fun h hh d hd => by cases hd⟩
  · rw [hsh d hd]
    exact show_rest
  · rw [key h hh, key _ (up_le w h)]
    exact .inl ⟨rfl, .nil⟩
/-! what a hill has begun is a beginning of the row, with signs in between that do not count -/
theorem Ext.trans : ∀ {L M N : List D}, Ext L M → Ext M N → Ext L N
  | _, _, _, .nil, .nil => .nil
  | _, _, N, .cons (x := x) (ws := ws) (M := M) h1 h2 r, e => by
    obtain ⟨N1, N2, rfl, e1, e2⟩ := Ext.split e
    cases e2 with
    | cons h3 h4 r2 =>
      rename_i ws2 N3
      have := Ext.cons (x := x) (ws := N1 ++ ws2) (fun w hw => by
        rcases List.mem_append.mp hw with z | z
        · exact Ext.signs e1 h1 w z
        · exact h3 w z) (fun z => by
          have := h2 z
          subst this
          cases e1
          rw [h4 z]
          rfl) (Ext.trans r r2)
      simpa using this
def Qg (row L : List D) : Prop := ∃ j X ws, j ≤ 2 * row.length ∧ L = X ++ ws ∧ Ext ((restsOf row).take j) X ∧ (∀ w ∈ ws, signB w = true) ∧ (ws ≠ [] → j % 2 = 0 ∧ j < 2 * row.length)
theorem Ext.last {A M : List D} {y : D} (e : Ext (A ++ [y]) M) : ∃ M1 us, M = M1 ++ (us ++ [y]) ∧ Ext A M1 ∧ (∀ w ∈ us, signB w = true) ∧ (y = restD → us = []) := by
  obtain ⟨M1, M2, rfl, e1, e2⟩ := Ext.split e
  cases e2 with
  | cons h1 h2 r =>
    cases r
    exact ⟨M1, _, rfl, e1, h1, h2⟩
theorem rest_sign : signB restD = false := by decide +kernel
theorem rests_at (row : List D) {j : Nat} (hj : j < 2 * row.length) : (restsOf row)[j]? = some (if j % 2 = 0 then atD row (j / 2) else restD) := by
  have := rests_get row (j / 2) (by omega)
  split
  · rw [← this.1]
    congr 1
    omega
  · rw [← this.2]
    congr 1
    omega
theorem take_last (row : List D) {j : Nat} (hj : j < 2 * row.length) : (restsOf row).take (j + 1) = (restsOf row).take j ++ [if j % 2 = 0 then atD row (j / 2) else restD] := by
  rw [List.take_succ, rests_at row hj]
  rfl
theorem Qg.down (hr : ∀ d ∈ row, signB d = true ∧ dep 0 d = true) {s u : D} {Bu Bh : List D} (q : Qg row Bu) (i : InvB s u Bu Bh) : Qg row Bh := by
  obtain ⟨j, X, ws, hj, rfl, e, hw, hz⟩ := q
  rcases i with ⟨_, x⟩ | ⟨_, L, M, ws', e1, rfl, x, e3, e4⟩
  · obtain ⟨M1, M2, rfl, x1, x2⟩ := Ext.split x
    refine ⟨j, M1, M2, hj, rfl, e.trans x1, Ext.signs x2 hw, fun z => hz fun y => z ?_⟩
    subst y
    cases x2
    rfl
  · by_cases hws : ws = []
    · subst hws
      rw [List.append_nil] at e1
      subst e1
      have hj0 : j ≠ 0 := fun z => by
        subst z
        generalize hq : L ++ [u] = q at e
        rw [List.take_zero] at e
        cases e
        simp at hq
      obtain ⟨j, rfl⟩ : ∃ i, j = i + 1 := ⟨j - 1, by omega⟩
      rw [take_last row (by omega)] at e
      generalize hy : (if j % 2 = 0 then atD row (j / 2) else restD) = y at e
      obtain ⟨M1, us, em, ex, hu, hu2⟩ := Ext.last e
      rw [← List.append_assoc] at em
      obtain ⟨rfl, hl⟩ := List.append_inj' em rfl
      have : u = y := by simpa using hl
      subst this
      obtain ⟨N1, N2, rfl, x1, x2⟩ := Ext.split x
      refine ⟨j, N1, N2 ++ ws', by omega, by simp, ex.trans x1, fun w hw => ?_, fun z => ?_⟩
      · rcases List.mem_append.mp hw with q | q
        · exact Ext.signs x2 hu w q
        · exact e3 w q
      · refine ⟨?_, by omega⟩
        rcases Nat.mod_two_eq_zero_or_one j with c | c
        · exact c
        · rw [if_neg (by omega)] at hy
          have h1 := hu2 hy.symm
          have h2 := e4 hy.symm
          subst h1 h2
          cases x2
          exact absurd rfl z
    · obtain ⟨us, a, rfl⟩ : ∃ us a, ws = us ++ [a] := ⟨ws.dropLast, ws.getLast hws, (List.dropLast_concat_getLast hws).symm⟩
      rw [← List.append_assoc] at e1
      obtain ⟨rfl, hl⟩ := List.append_inj' e1 rfl
      obtain ⟨N1, N2, rfl, x1, x2⟩ := Ext.split x
      refine ⟨j, N1, N2 ++ ws', hj, by simp, e.trans x1, fun w hw' => ?_, fun z => hz (by simp)⟩
      rcases List.mem_append.mp hw' with q | q
      · exact Ext.signs x2 (fun w hw' => hw w (List.mem_append_left _ hw')) w q
      · exact e3 w q
theorem Ext.refl : ∀ (L : List D), Ext L L
  | [] => .nil
  | a :: L => by
    have := Ext.cons (x := a) (ws := []) (fun _ h => by cases h) (fun _ => rfl) (Ext.refl L)
    simpa using this
theorem RunI.qg (R : RunI t row sh it B) (T : IsTree t) (hr : ∀ d ∈ row, signB d = true ∧ dep 0 d = true) : ∀ h, h ≤ t.length → Qg row (B h) := by
  refine rank_up T.le T _ ?_ fun h h1 hh ih => ih.down hr (R.inv h h1 hh)
  obtain ⟨k, hk, _, _, e⟩ := R.zero
  exact ⟨k, B 0, [], hk, by simp, by rw [e]; exact Ext.refl _, fun _ h => (by cases h), fun z => absurd rfl z⟩
theorem rests_take (row : List D) : ∀ i, i ≤ row.length → (restsOf row).take (2 * i) = restsOf (row.take i) := by
  induction row with
  | nil => intro i h; simp [restsOf]
  | cons a row ih =>
    intro i h
    cases i with
    | zero => rfl
    | succ i =>
      rw [show 2 * (i + 1) = 2 * i + 1 + 1 by omega]
      show a :: restD :: (restsOf row).take (2 * i) = a :: restD :: restsOf (row.take i)
      rw [ih i (by simpa using h)]
theorem Qg.heard (hr : ∀ d ∈ row, signB d = true ∧ dep 0 d = true) {X : List D} {y : D} (q : Qg row (X ++ [y, restD])) : ∃ i, i < row.length ∧ atD row i = y ∧ cntL (X ++ [y, restD]) = row.take (i + 1) := by
  obtain ⟨j, Z, ws, hj, e, x, hw, hz⟩ := q
  have hws : ws = [] := Classical.byContradiction fun hws => by
    obtain ⟨us, a, rfl⟩ : ∃ us a, ws = us ++ [a] := ⟨ws.dropLast, ws.getLast hws, (List.dropLast_concat_getLast hws).symm⟩
    have h1 : (X ++ [y]) ++ [restD] = (Z ++ us) ++ [a] := by simpa using e
    have := (List.append_inj' h1 rfl).2
    have : restD = a := by simpa using this
    have h2 := hw a (by simp)
    rw [← this, rest_sign] at h2
    cases h2
  subst hws
  rw [List.append_nil] at e
  subst e
  have hj0 : j ≠ 0 := fun z => by
    subst z
    generalize hq : X ++ [y, restD] = q at x
    rw [List.take_zero] at x
    cases x
    simp at hq
  obtain ⟨j, rfl⟩ : ∃ i, j = i + 1 := ⟨j - 1, by omega⟩
  have x' := x
  rw [take_last row (by omega)] at x
  obtain ⟨M1, us, em, ex, hu, hu2⟩ := Ext.last x
  have h1 : (X ++ [y]) ++ [restD] = (M1 ++ us) ++ [if j % 2 = 0 then atD row (j / 2) else restD] := by simpa using em
  obtain ⟨h2, h3⟩ := List.append_inj' h1 rfl
  have h3 : restD = if j % 2 = 0 then atD row (j / 2) else restD := by simpa using h3
  have hodd : j % 2 = 1 := by
    rcases Nat.mod_two_eq_zero_or_one j with c | c
    · rw [if_pos c] at h3
      have := (hr (atD row (j / 2)) (List.mem_of_getElem? (atD_get (by omega)))).1
      rw [← h3, rest_sign] at this
      cases this
    · exact c
  have hus := hu2 h3.symm
  subst hus
  rw [List.append_nil] at h2
  subst h2
  obtain ⟨i, rfl⟩ : ∃ i, j = 2 * i + 1 := ⟨j / 2, by omega⟩
  rw [take_last row (by omega), if_pos (by omega), show 2 * i / 2 = i by omega] at ex
  obtain ⟨N1, vs, en, _, _, _⟩ := Ext.last ex
  rw [← List.append_assoc] at en
  have hy := (List.append_inj' en rfl).2
  have hy : y = atD row i := by simpa using hy
  refine ⟨i, by omega, hy.symm, ?_⟩
  rw [show 2 * i + 1 + 1 = 2 * (i + 1) by omega, rests_take row (i + 1) (by omega)] at x'
  exact ((Gd.rests _).ext x').cnt fun d hd => (hr d (List.mem_of_mem_take hd)).1
end
end Hz

namespace Hz
open PySem PySem.Spec PyProof.Rows L2
/-! ### posts as plain data -/
inductive Wd
  | w | u | d | x
  deriving DecidableEq
def wdS : Wd → Str
  | .w => "waits"
  | .u => "under way"
  | .d => "done"
  | .x => "withdrawn"
structure Tg where
  rk : Nat
  ws : List Str
  wd : Wd
def tg0 : Tg := ⟨0, [], .x⟩
def atT (tl : List Tg) (n : Nat) : Tg := tl.getD n tg0
def tgD (g : Tg) : D := .dict [(.str "rank", nD g.rk), (.str "words", .list (g.ws.map PyData.str)), (.str "word", .str (wdS g.wd))]
def tlD (tl : List Tg) : List D := tl.map tgD
@[simp] theorem tlD_len (tl : List Tg) : (tlD tl).length = tl.length := List.length_map ..
@[simp] theorem tg_rank (g : Tg) : dgetD (tgD g) (.str "rank") = some (nD g.rk) := nr (by rfl)
@[simp] theorem tg_words (g : Tg) : dgetD (tgD g) (.str "words") = some (.list (g.ws.map PyData.str)) := nr (by rfl)
@[simp] theorem tg_word (g : Tg) : dgetD (tgD g) (.str "word") = some (.str (wdS g.wd)) := nr (by rfl)
inductive Nt
  | b (m n : Nat)
  | k (m n : Nat)
  | h (m n l : Nat)
  | d (m n : Nat)
/-! those that wait -/
def wsT (tl : List Tg) (n : Nat) : List Str := (atT tl n).ws
def wdT (tl : List Tg) (n : Nat) : Wd := (atT tl n).wd
section
variable {xt xb xs xi xa xh xr xf xw xk xg xo : D} {tl : List Tg} {td : List Nt}
end
end Hz

namespace Hz
open PySem PySem.Spec PyProof.Rows L2
section
variable {xt xb xs xi xa xl xh xr xf xw xk xg xo : D} {tl : List Tg} {td : List D}
end
end Hz

namespace Hz
open PySem PySem.Spec PyProof.Rows L2
section
variable (xt xb xs xi xa xl xh xr xf xw xk xg xo : D) (e : Env) (i : Nat)
end
end Hz

namespace Hz
open PySem PySem.Spec PyProof.Rows L2
/-! ### begin, break_off, finish -/
def tgP (g : Tg) : List (D × D) := [(.str "rank", nD g.rk), (.str "words", .list (g.ws.map PyData.str)), (.str "word", .str (wdS g.wd))]
@[simp] theorem odK_tg {α : Type} (g : Tg) (k : List (D × D) → R α) : odK (some (tgD g)) k = k (tgP g) := nr (by rfl)
@[simp] theorem tgP_rank (g : Tg) : valD (tgP g) (.str "rank") = some (nD g.rk) := nr (by rfl)
@[simp] theorem tgP_words (g : Tg) : valD (tgP g) (.str "words") = some (.list (g.ws.map PyData.str)) := nr (by rfl)
@[simp] theorem tgP_len (g : Tg) : (tgP g).length < 1000 := by
  show 3 < 1000
  decide
@[simp] theorem tgP_put (g : Tg) (w : Wd) : PyData.dict (putD (tgP g) (.str "word") (.str (wdS w))) = tgD { g with wd := w } := nr (by rfl)
@[simp] theorem isD_n (n : Nat) : isD (nD n) .none = some (.bool false) := nr (by rfl)
@[simp] theorem isD_0 : isD .none .none = some (.bool true) := nr (by rfl)
@[simp] theorem isNotD_n (n : Nat) : isNotD (nD n) .none = some (.bool true) := nr (by rfl)
@[simp] theorem isNotD_0 : isNotD .none .none = some (.bool false) := nr (by rfl)
def rowN (many : Nat) (bw : List Str) (ws : List Str) : List D := .str "begin" :: rowsW many bw ws ++ [.str "end"]
section
variable {xt xb xs xi xa xh xr xf xw xk xg xo : D} {tl : List Tg} {td : List D} {t : List Nat} {many : Nat} {bw : List Str} {m : Nat}
end
end Hz

namespace Hz
open PySem PySem.Spec PyProof.Rows L2
section
variable {xt xb xs xi xa xh xr xf xw xk xg xo : D} {tl : List Tg} {td : List D} {t : List Nat} {many : Nat} {bw : List Str} {m : Nat} {it sh : List D} {br : Bool}
end
end Hz

namespace Hz
open PySem PySem.Spec PyProof.Rows L2
/-! ### hear -/
section
variable {xt xb xs xi xa xl xh xr xf xw xk xg xo : D} {td : List D} {many : Nat} {bw : List Str} {m n l : Nat} {bk : List (Nat × List D)} {gt : List (Nat × List (Nat × List Str))}
end
end Hz

namespace Hz
open PySem PySem.Spec PyProof.Rows L2
end Hz

namespace Hz
open PySem PySem.Spec PyProof.Rows L2
/-! ### pass_on: books and what was heard, by leaf -/
/-! the signs that are popped -/
section
variable {t : List Nat} {sh it : List D} {un : List Nat} {wr : List (Nat × D)}
/-! the list that is made, half way -/
end
end Hz

namespace Hz
open PySem PySem.Spec PyProof.Rows L2
section
variable {t : List Nat} {row sh it : List D} {B : Nat → List D} {un : List Nat} {wr : List (Nat × D)} {G : Nat → List (Nat × List Str)} {td : List D} {many m n : Nat} {bw ws : List Str} {xi xl xr xf : D}
end
end Hz

namespace Hz
open PySem PySem.Spec PyProof.Rows L2
def hrdB (sh sh' : List D) (l : Nat) : Bool := isR (atD sh' l) && PyData.eqv (atD sh l) (.str "end")
theorem end_show : showB (.str "end" : D) = true := by decide +kernel
section
variable {t : List Nat} {row sh sh' it : List D} {B B1 : Nat → List D} {un : List Nat} {wr : List (Nat × D)} {G G1 : Nat → List (Nat × List Str)} {td : List D} {many m n : Nat} {bw ws : List Str} {xi xl xr xf xw : D}
end
end Hz

namespace Hz
open PySem PySem.Spec PyProof.Rows L2
/-! ### pass_on -/
def toI {α : Type} (f g : Nat → α) (i h : Nat) : α := if h ≤ i then g h else f h
section
variable {t : List Nat} {row sh it : List D} {B : Nat → List D} {wr : List (Nat × D)} {G : Nat → List (Nat × List Str)} {td : List D} {many m n : Nat} {bw ws : List Str} {xl xr : D} {fg : List (Nat × Nat)}
end
end Hz

namespace Hz
open PySem PySem.Spec PyProof.Rows L2
/-! ### what counts, and when a leaf has heard all -/
theorem cnt_cons (a b : D) (r : List D) : cntL (a :: b :: r) = (if cntP (a, b) = true then [a] else []) ++ cntL (b :: r) := by
  unfold cntL
  show List.map _ (List.filter cntP ((a, b) :: (b :: r).zip ((b :: r).drop 1))) = _
  rw [List.filter_cons]
  split <;> rfl
theorem cnt_snoc2 (x y : D) : ∀ X : List D, cntL (X ++ [x, y]) = cntL (X ++ [x]) ++ if cntP (x, y) = true then [x] else []
  | [] => by
    rw [List.nil_append, List.nil_append, cnt_cons]
    simp [cntL]
  | [a] => by
    show cntL (a :: x :: [y]) = cntL (a :: x :: []) ++ _
    rw [cnt_cons a x [y], cnt_cons a x [], List.append_assoc]
    congr 1
    have := cnt_snoc2 x y []
    exact this
  | a :: b :: X => by
    have := cnt_snoc2 x y (b :: X)
    show cntL (a :: b :: (X ++ [x, y])) = cntL (a :: b :: (X ++ [x])) ++ _
    rw [cnt_cons, cnt_cons, List.append_assoc]
    congr 1
theorem cnt_no {y : D} (hy : isR y = false) (X : List D) : cntL (X ++ [y]) = cntL X := by
  rcases List.eq_nil_or_concat X with rfl | ⟨Z, x, rfl⟩
  · rfl
  · rw [List.concat_eq_append, List.append_assoc]
    show cntL (Z ++ [x, y]) = _
    rw [cnt_snoc2]
    have : cntP (x, y) = false := by
      unfold cntP
      simp [hy]
    rw [this]
    simp
theorem sign_isR {w : D} (h : signB w = true) : isR w = false := by
  cases c : isR w with
  | false => rfl
  | true =>
    have := (isR_eq (sign_show h)).mp c
    rw [this, rest_sign] at h
    cases h
theorem cnt_signs (X : List D) : ∀ ws : List D, (∀ w ∈ ws, signB w = true) → cntL (X ++ ws) = cntL X := by
  intro ws
  induction ws generalizing X with
  | nil => intro _; rw [List.append_nil]
  | cons a ws ih =>
    intro h
    have e : X ++ a :: ws = (X ++ [a]) ++ ws := by simp
    rw [e, ih (X ++ [a]) fun w hw => h w (List.mem_cons_of_mem _ hw), cnt_no (sign_isR (h a List.mem_cons_self))]
section
variable {t : List Nat} {row sh it : List D} {B : Nat → List D} {un : List Nat} {wr : List (Nat × D)}
theorem Qg.cnt (hr : ∀ d ∈ row, signB d = true ∧ dep 0 d = true) {L : List D} (q : Qg row L) : ∃ i, cntL L = row.take i := by
  obtain ⟨j, X, ws, hj, rfl, e, hw, hz⟩ := q
  rw [cnt_signs X ws hw]
  rcases Nat.mod_two_eq_zero_or_one j with c | c
  · obtain ⟨i, rfl⟩ : ∃ i, j = 2 * i := ⟨j / 2, by omega⟩
    rw [rests_take row i (by omega)] at e
    exact ⟨i, ((Gd.rests _).ext e).cnt fun d hd => (hr d (List.mem_of_mem_take hd)).1⟩
  · obtain ⟨i, rfl⟩ : ∃ i, j = 2 * i + 1 := ⟨j / 2, by omega⟩
    rw [take_last row (by omega), if_pos (by omega), show 2 * i / 2 = i by omega] at e
    obtain ⟨M1, us, rfl, e1, h1, _⟩ := Ext.last e
    rw [rests_take row i (by omega)] at e1
    refine ⟨i, ?_⟩
    have hs := (hr (atD row i) (List.mem_of_getElem? (atD_get (by omega)))).1
    rw [cnt_signs M1 _ (fun w hw => by
      rcases List.mem_append.mp hw with z | z
      · exact h1 w z
      · rw [List.mem_singleton.mp z]
        exact hs)]
    exact ((Gd.rests _).ext e1).cnt fun d hd => (hr d (List.mem_of_mem_take hd)).1
section
variable (R : RunI t row sh it B) (T : IsTree t) (hr : ∀ d ∈ row, signB d = true ∧ dep 0 d = true) (hs : ∀ p ∈ wr, signB p.2 = true ∧ dep 0 p.2 = true) {sh' : List D} (he : stepL t sh it un wr = sh')
include R T hr hs he
theorem RunI.hrd {l : Nat} (hl : l ≤ t.length) (h : hrdB sh sh' l = true) : ∃ X i, B l = X ++ [.str "end"] ∧ atD sh' l = restD ∧ nxtB sh sh' B l = X ++ [.str "end", restD] ∧ i < row.length ∧ atD row i = .str "end" ∧ cntL (X ++ [.str "end", restD]) = row.take (i + 1) := by
  subst he
  unfold hrdB at h
  rw [Bool.and_eq_true] at h
  have h1 := (isR_eq (R.nx_at T.le hr hs hl)).mp h.1
  have h2 := (eqv_show (R.at_show hl) end_show).mp h.2
  have hne : atD (stepL t sh it un wr) l ≠ atD sh l := by
    rw [h1, h2]
    intro z
    cases z
  have hn := R.b_new T.le hr hs hl hne
  rcases R.last l hl with ⟨_, z⟩ | ⟨X, hX⟩
  · rw [h2] at z
    cases z
  · rw [h2] at hX
    rw [h1, hX, List.append_assoc] at hn
    have q := (R.step T.le hr hs (un := un) (wr := wr)).qg T hr l hl
    rw [hn] at q
    obtain ⟨i, i1, i2, i3⟩ := Qg.heard hr q
    exact ⟨X, i, hX, h1, hn, i1, i2, i3⟩
end
end
end Hz

namespace Hz
open PySem PySem.Spec PyProof.Rows L2
/-! ### posts, moment by moment, in plain words -/
structure PS where
  sh : List D
  it : List D
  mo : Nat
  tl : List Tg
  here : Option Nat
  br : Bool
  fg : List (Nat × Nat)
  wr : List (Nat × D)
  bk : Option (Nat → List D)
  G : Nat → List (Nat × List Str)
  td : List Nt
structure PCx (t : List Nat) (many : Nat) (bw : List Str) : Prop where
  T : IsTree t
  tl : t.length < 8
  A : BkA many bw
  nd : bw.Nodup
  wl : bw.length ≤ 36
def doneL (td : List Nt) : List Nat := td.filterMap fun
  | .d _ n => some n
  | _ => none
structure RunQ (t : List Nat) (many : Nat) (bw : List Str) (p : PS) (n : Nat) (B : Nat → List D) (row : List D) : Prop where
  bk : p.bk = some B
  R : RunI t row p.sh p.it B
  bl : ∀ h, (B h).length ≤ p.mo
  row : (p.br = false ∧ row = rowN many bw (wsT p.tl n)) ∨ (p.br = true ∧ (∀ d ∈ row, signB d = true ∧ dep 0 d = true) ∧ PyData.str "end" ∉ row)
  hrd : ∀ l ∈ leavesN t, (cntL (B l) = rowN many bw (wsT p.tl n) ∧ p.G l = (doneL p.td).map (fun k => (k, wsT p.tl k)) ++ [(n, wsT p.tl n)]) ∨ (cntL (B l) ≠ rowN many bw (wsT p.tl n) ∧ p.G l = (doneL p.td).map (fun k => (k, wsT p.tl k)))
structure PI (t : List Nat) (many : Nat) (bw : List Str) (b : Nat) (p : PS) : Prop where
  rk : ∀ g ∈ p.tl, g.rk ≤ 2
  wds : ∀ g ∈ p.tl, (∀ v ∈ g.ws, IsW v) ∧ g.ws.length ≤ 8
  tll : p.tl.length ≤ 1000
  fn : (p.fg.map (·.1)).Nodup
  fk : ∀ q ∈ p.fg, q.1 ≤ t.length
  wn : (p.wr.map (·.1)).Nodup
  ws : ∀ q ∈ p.wr, signB q.2 = true ∧ dep 0 q.2 = true
  w1 : ∀ q ∈ p.wr, 1 ≤ q.1 ∧ q.1 ≤ t.length
  tdl : p.td.length ≤ b
  mob : p.mo ≤ b
  gl : ∀ l, (p.G l).length ≤ p.mo
  dnd : (doneL p.td).Nodup
  dn : ∀ n, n ∈ doneL p.td ↔ n < p.tl.length ∧ wdT p.tl n = .d
  un : ∀ n, p.here = some n ↔ n < p.tl.length ∧ wdT p.tl n = .u
  rest : p.here = none → p.it = [] ∧ p.sh = List.replicate (t.length + 1) restD ∧ ∀ l ∈ leavesN t, p.G l = (doneL p.td).map fun k => (k, wsT p.tl k)
  run : ∀ n, p.here = some n → ∃ B row, RunQ t many bw p n B row
section
variable {tl : List Tg}
theorem atT_get {n : Nat} (h : n < tl.length) : tl[n]? = some (atT tl n) := by
  unfold atT
  rw [List.getD, List.getElem?_eq_getElem h]
  rfl
theorem atT_mem {n : Nat} (h : n < tl.length) : atT tl n ∈ tl := List.mem_of_getElem? (atT_get h)
end
section
variable {t : List Nat} {many : Nat} {bw : List Str}
theorem PCx.need (C : PCx t many bw) : d_need_book [bkD many bw] = .ok .none := need_bk C.A.ge C.A.le C.nd C.wl C.A.wd
theorem PI.fl {b : Nat} {p : PS} (I : PI t many bw b p) (C : PCx t many bw) : p.fg.length ≤ 1000 := by
  have := nodup_le (t.length + 1) (p.fg.map (·.1)) I.fn fun x hx => by
    obtain ⟨q, hq, rfl⟩ := List.mem_map.mp hx
    have := I.fk q hq
    omega
  have := C.tl
  simp at *
  omega
theorem PI.mono {b c : Nat} {p : PS} (I : PI t many bw b p) (h : b ≤ c) : PI t many bw c p := { I with tdl := Nat.le_trans I.tdl h, mob := Nat.le_trans I.mob h }
theorem PI.word {b : Nat} {p : PS} (I : PI t many bw b p) {n : Nat} (h : n < p.tl.length) : (∀ v ∈ wsT p.tl n, IsW v) ∧ (wsT p.tl n).length ≤ 8 := I.wds _ (atT_mem h)
/-! begin -/
end
end Hz

namespace Hz
open PySem PySem.Spec PyProof.Rows L2
/-! ### the best words -/
def sD (p : Str × Nat) : D × D := (.str p.1, nD p.2)
def wsE (ws : List Str) : D := .list (ws.map PyData.str)
theorem keq_s (a b : Str) : keqD (.str a) (.str b) = decide (a = b) := by
  have := keqD_k (.inr a) (.inr b)
  rw [show kD (.inr a) = PyData.str a from rfl, show kD (.inr b) = PyData.str b from rfl] at this
  rw [this]
  exact decide_eq_decide.mpr ⟨fun h => by injection h, fun h => by rw [h]⟩
def valS (l : List (Str × Nat)) (k : Str) : Option Nat := (l.find? fun p => decide (p.1 = k)).map (·.2)
theorem valD_s (k : Str) : ∀ l : List (Str × Nat), valD (l.map sD) (.str k) = (valS l k).map nD
  | [] => rfl
  | p :: l => by
    show (if keqD (.str p.1) (.str k) = true then some (nD p.2) else valD (l.map sD) (.str k)) = _
    rw [keq_s, valD_s k l]
    unfold valS
    rw [List.find?_cons]
    by_cases z : p.1 = k
    · simp [z]
    · simp [z]
theorem valS_none {l : List (Str × Nat)} {k : Str} (h : valS l k = none) : k ∉ l.map (·.1) := fun z => by
  obtain ⟨p, hp, e⟩ := List.mem_map.mp z
  unfold valS at h
  rw [Option.map_eq_none_iff, List.find?_eq_none] at h
  exact h p hp (by simpa using e)
theorem valS_some {l : List (Str × Nat)} {k : Str} {v : Nat} (h : valS l k = some v) : (k, v) ∈ l := by
  unfold valS at h
  obtain ⟨p, hp, rfl⟩ := Option.map_eq_some_iff.mp h
  have h1 := List.mem_of_find?_eq_some hp
  have h2 : p.1 = k := by simpa using List.find?_some hp
  subst h2
  exact h1
theorem valS_of {l : List (Str × Nat)} (nd : (l.map (·.1)).Nodup) {p : Str × Nat} (h : p ∈ l) : valS l p.1 = some p.2 := by
  cases e : valS l p.1 with
  | none => exact absurd (List.mem_map.mpr ⟨p, h, rfl⟩) (valS_none e)
  | some v =>
    have h1 := valS_some e
    have : (p.1, v) = p := by
      clear e
      induction l with
      | nil => cases h
      | cons q l ih =>
        obtain ⟨n1, n2⟩ := List.nodup_cons.mp nd
        rcases List.mem_cons.mp h with rfl | h
        · rcases List.mem_cons.mp h1 with z | z
          · exact z
          · exact absurd (List.mem_map.mpr ⟨_, z, rfl⟩) n1
        · rcases List.mem_cons.mp h1 with z | z
          · exact absurd (List.mem_map.mpr ⟨p, h, by rw [← z]⟩) n1
          · exact ih n2 h z
    rw [← this]
def updS (l : List (Str × Nat)) (k : Str) (v : Nat) : List (Str × Nat) := l.map fun p => if p.1 = k then (p.1, v) else p
theorem updD_s (k : Str) (v : Nat) : ∀ l : List (Str × Nat), updD (l.map sD) (.str k) (nD v) = (updS l k v).map sD
  | [] => rfl
  | p :: l => by
    show (if keqD (.str p.1) (.str k) = true then (PyData.str p.1, nD v) else (PyData.str p.1, nD p.2)) :: updD (l.map sD) (.str k) (nD v) = _
    rw [keq_s, updD_s k v l]
    by_cases z : p.1 = k
    · simp [updS, z, sD]
    · simp [updS, z, sD]
def putS' (l : List (Str × Nat)) (k : Str) (v : Nat) : List (Str × Nat) := if (valS l k).isSome = true then updS l k v else l ++ [(k, v)]
theorem putD_s (k : Str) (v : Nat) (l : List (Str × Nat)) : putD (l.map sD) (.str k) (nD v) = (putS' l k v).map sD := by
  unfold putD hasD putS'
  rw [valD_s]
  cases valS l k with
  | none => simp [sD]
  | some x =>
    simp
    exact updD_s k v l
structure Bst (S : List Str) (l : List (Str × Nat)) : Prop where
  nd : (l.map (·.1)).Nodup
  mem : ∀ w, w ∈ l.map (·.1) ↔ w ∈ S
  pos : ∀ p ∈ l, (0 < p.2 ↔ 2 ≤ p.1.cps.size)
  len : l.length ≤ S.length
theorem Bst.put {S : List Str} {l : List (Str × Nat)} (B : Bst S l) {w : Str} (hw : 1 ≤ w.cps.size) : Bst (S ++ [w]) (putS' l w ((valS l w).getD 0 + 2 * w.cps.size - 2)) := by
  unfold putS'
  cases e : valS l w with
  | none =>
    have hn := valS_none e
    simp only [Option.isSome_none, Bool.false_eq_true, if_false, Option.getD_none]
    refine ⟨?_, fun x => ?_, fun p hp => ?_, ?_⟩
    · rw [List.map_append, List.nodup_append]
      exact ⟨B.nd, by simp, fun a ha b hb z => by
        have : b = w := by simpa using hb
        rw [z, this] at ha
        exact hn ha⟩
    · rw [List.map_append, List.mem_append, List.mem_append, B.mem x]
      simp
    · rcases List.mem_append.mp hp with z | z
      · exact B.pos p z
      · rw [List.mem_singleton.mp z]
        show 0 < 0 + 2 * w.cps.size - 2 ↔ 2 ≤ w.cps.size
        omega
    · rw [List.length_append, List.length_append]
      have := B.len
      simp
      exact this
  | some v =>
    have hv := B.pos _ (valS_some e)
    have hm : w ∈ l.map (·.1) := List.mem_map.mpr ⟨_, valS_some e, rfl⟩
    simp only [Option.isSome_some, if_true, Option.getD_some]
    have hk : (updS l w (v + 2 * w.cps.size - 2)).map (·.1) = l.map (·.1) := by
      unfold updS
      rw [List.map_map]
      refine List.map_congr_left fun p _ => ?_
      show (if p.1 = w then (p.1, _) else p).1 = p.1
      split <;> rfl
    refine ⟨by rw [hk]; exact B.nd, fun x => ?_, fun p hp => ?_, ?_⟩
    · rw [hk, B.mem x, List.mem_append, List.mem_singleton]
      constructor
      · exact .inl
      · rintro (z | z)
        · exact z
        · rw [z]
          exact (B.mem w).mp hm
    · obtain ⟨q, hq, rfl⟩ := List.mem_map.mp hp
      split
      · rename_i z
        show 0 < v + 2 * w.cps.size - 2 ↔ 2 ≤ q.1.cps.size
        rw [z]
        have hv : 0 < v ↔ 2 ≤ w.cps.size := hv
        omega
      · exact B.pos q hq
    · unfold updS
      rw [List.length_map, List.length_append]
      have := B.len
      omega
theorem num_s (l : List (Str × Nat)) : numKeys (l.map sD) = true := by
  cases l <;> rfl
end Hz

namespace Hz
open PySem PySem.Spec PyProof.Rows L2
/-! ### greedy is best -/
theorem sum_erase {α : Type} [BEq α] [LawfulBEq α] (f : α → Nat) {x : α} : ∀ {S : List α}, x ∈ S → (S.map f).sum = f x + ((S.erase x).map f).sum
  | [], h => by cases h
  | y :: S, h => by
    by_cases z : y = x
    · subst z
      rw [List.erase_cons_head, List.map_cons, List.sum_cons]
    · have hx : x ∈ S := by
        rcases List.mem_cons.mp h with e | e
        · exact absurd e.symm z
        · exact e
      rw [List.erase_cons_tail (by simpa using z), List.map_cons, List.map_cons, List.sum_cons, List.sum_cons, sum_erase f hx]
      omega
theorem greedy {α : Type} [DecidableEq α] (f : α → Nat) : ∀ (R : List α) (m : Nat) (S : List α), R.Pairwise (fun a b => f b ≤ f a) → R.Nodup → S.Nodup → (∀ x ∈ S, x ∉ R → f x = 0) → S.length ≤ m → (S.map f).sum ≤ ((R.take m).map f).sum
  | [], m, S, _, _, _, h, _ => by
    have : ∀ S : List α, (∀ x ∈ S, f x = 0) → (S.map f).sum = 0 := by
      intro S
      induction S with
      | nil => intro _; rfl
      | cons x S ih =>
        intro h
        rw [List.map_cons, List.sum_cons, h x (List.mem_cons_self ..), ih fun y hy => h y (List.mem_cons_of_mem _ hy)]
    rw [this S fun x hx => h x hx (by simp)]
    exact Nat.zero_le _
  | r :: R, 0, S, _, _, _, _, hm => by
    have : S = [] := List.eq_nil_of_length_eq_zero (by omega)
    subst this
    exact Nat.zero_le _
  | r :: R, m + 1, S, hs, nr, nS, h, hm => by
    obtain ⟨h1, h2⟩ := List.pairwise_cons.mp hs
    obtain ⟨n1, n2⟩ := List.nodup_cons.mp nr
    rw [List.take_succ_cons, List.map_cons, List.sum_cons]
    by_cases z : r ∈ S
    · have ih := greedy f R m (S.erase r) h2 n2 (nS.erase r) (fun x hx hR => by
        obtain ⟨e1, e2⟩ := (nS.mem_erase_iff).mp hx
        exact h x e2 fun y => by
          rcases List.mem_cons.mp y with y | y
          · exact e1 y
          · exact hR y) (by rw [List.length_erase_of_mem z]; omega)
      rw [sum_erase f z]
      omega
    · cases S with
      | nil => exact Nat.zero_le _
      | cons x S =>
        obtain ⟨m1, m2⟩ := List.nodup_cons.mp nS
        have hx : f x ≤ f r := by
          by_cases y : x ∈ r :: R
          · rcases List.mem_cons.mp y with y | y
            · rw [y]
              exact Nat.le_refl _
            · exact h1 x y
          · rw [h x (List.mem_cons_self ..) y]
            exact Nat.zero_le _
        have ih := greedy f R m S h2 n2 m2 (fun x' hx' hR => h x' (List.mem_cons_of_mem _ hx') fun y => by
          rcases List.mem_cons.mp y with y | y
          · exact z (List.mem_cons_of_mem _ (y ▸ hx'))
          · exact hR y) (by rw [List.length_cons] at hm; omega)
        rw [List.map_cons, List.sum_cons]
        omega
structure Bsv (S : List Str) (l : List (Str × Nat)) : Prop where
  nd : (l.map (·.1)).Nodup
  mem : ∀ w, w ∈ l.map (·.1) ↔ w ∈ S
  val : ∀ p ∈ l, p.2 = S.count p.1 * (2 * p.1.cps.size - 2)
  len : l.length ≤ S.length
theorem Bsv.put {S : List Str} {l : List (Str × Nat)} (B : Bsv S l) {w : Str} (hw : 1 ≤ w.cps.size) : Bsv (S ++ [w]) (putS' l w ((valS l w).getD 0 + 2 * w.cps.size - 2)) := by
  have hcw : (S ++ [w]).count w = S.count w + 1 := by rw [List.count_append]; simp
  have hco : ∀ x, x ≠ w → (S ++ [w]).count x = S.count x := fun x hx => by
    rw [List.count_append, List.count_singleton]
    have : (w == x) = false := by simpa using fun e : w = x => hx e.symm
    rw [this]
    rfl
  unfold putS'
  cases e : valS l w with
  | none =>
    have hn := valS_none e
    have hz : S.count w = 0 := List.count_eq_zero.mpr fun z => hn ((B.mem w).mpr z)
    simp only [Option.isSome_none, Bool.false_eq_true, if_false, Option.getD_none]
    refine ⟨?_, fun x => ?_, fun p hp => ?_, ?_⟩
    · rw [List.map_append, List.nodup_append]
      exact ⟨B.nd, by simp, fun a ha b hb z => by
        have : b = w := by simpa using hb
        rw [z, this] at ha
        exact hn ha⟩
    · rw [List.map_append, List.mem_append, List.mem_append, B.mem x]
      simp
    · rcases List.mem_append.mp hp with z | z
      · have hne : p.1 ≠ w := fun y => hn (y ▸ List.mem_map.mpr ⟨p, z, rfl⟩)
        rw [hco p.1 hne]
        exact B.val p z
      · rw [List.mem_singleton.mp z]
        show 0 + 2 * w.cps.size - 2 = (S ++ [w]).count w * (2 * w.cps.size - 2)
        rw [hcw, hz]
        omega
    · rw [List.length_append, List.length_append]
      have := B.len
      simp
      exact this
  | some v =>
    have hv : v = S.count w * (2 * w.cps.size - 2) := B.val _ (valS_some e)
    have hm : w ∈ l.map (·.1) := List.mem_map.mpr ⟨_, valS_some e, rfl⟩
    simp only [Option.isSome_some, if_true, Option.getD_some]
    have hk : (updS l w (v + 2 * w.cps.size - 2)).map (·.1) = l.map (·.1) := by
      unfold updS
      rw [List.map_map]
      refine List.map_congr_left fun p _ => ?_
      show (if p.1 = w then (p.1, _) else p).1 = p.1
      split <;> rfl
    refine ⟨by rw [hk]; exact B.nd, fun x => ?_, fun p hp => ?_, ?_⟩
    · rw [hk, B.mem x, List.mem_append, List.mem_singleton]
      constructor
      · exact .inl
      · rintro (z | z)
        · exact z
        · rw [z]
          exact (B.mem w).mp hm
    · obtain ⟨q, hq, rfl⟩ := List.mem_map.mp hp
      split
      · rename_i z
        show v + 2 * w.cps.size - 2 = (S ++ [w]).count q.1 * (2 * q.1.cps.size - 2)
        rw [z, hcw, hv, Nat.add_mul]
        omega
      · rename_i z
        rw [hco q.1 z]
        exact B.val q hq
    · unfold updS
      rw [List.length_map, List.length_append]
      have := B.len
      omega
def svR (l : List (Str × Nat)) : List (Int × Str) := (l.filter fun p => decide (0 < p.2)).map fun p => (-(p.2 : Int), p.1)
theorem best_words_m (tls : List (List Str)) (most : Nat) (hmo : most ≤ 60) (hw : ∀ ws ∈ tls, ∀ w ∈ ws, IsW w) (hl : tls.flatten.length ≤ 60) :
    ∃ l : List (Str × Nat), Bsv tls.flatten l ∧ d_best_words [.list (tls.map wsE), nD most] = .ok (.tuple ((sortT (((sortPS (svR l)).take most).map (·.2))).map PyData.str)) := by
  have key : Ok (d_best_words [.list (tls.map wsE), nD most]) fun d => ∃ l : List (Str × Nat), Bsv tls.flatten l ∧ d = .tuple ((sortT (((sortPS (svR l)).take most).map (·.2))).map PyData.str) := by
    unfold d_best_words b_best_words env0
    generalize hTL : PyData.list (tls.map wsE) = TL
    have hit : itemsOf TL = some (tls.map wsE) := by rw [← hTL]; rfl
    have hflat : ∀ i ws, tls[i]? = some ws → (tls.take (i + 1)).flatten = (tls.take i).flatten ++ ws := fun i ws h => by
      rw [List.take_succ, h]
      simp
    have hsub : ∀ i, (tls.take i).flatten.length ≤ tls.flatten.length := fun i => by
      have : tls.flatten = (tls.take i).flatten ++ (tls.drop i).flatten := by
        rw [← List.flatten_append, List.take_append_drop]
      rw [this, List.length_append]
      omega
    refine Ok_fin (Ok_seq ?_)
    simp
    refine Ok_seq ?_
    simp [hit]
    refine Ok_forL wsE tls (fun i e => ∃ (l : List (Str × Nat)) (u3 u5 : Option D), e = [some TL, some (nD most), some (.dict (l.map sD)), u3, none, u5, none] ∧ Bsv (tls.take i).flatten l) ⟨[], none, none, rfl, ⟨List.nodup_nil, fun w => by simp, fun p hp => (by cases hp), Nat.zero_le _⟩⟩ (fun i ws e hx hI => ?_) (fun e hI => ?_)
    · obtain ⟨l, u3, u5, rfl, B⟩ := hI
      refine ⟨_, rfl, ?_⟩
      have hit2 : itemsOf (wsE ws) = some (ws.map PyData.str) := rfl
      have hwm := List.mem_of_getElem? hx
      have hle := hsub (i + 1)
      rw [hflat i ws hx, List.length_append] at hle
      simp [hit2]
      refine Ok_forL PyData.str ws (fun j e => ∃ (l : List (Str × Nat)) (u5 : Option D), e = [some TL, some (nD most), some (.dict (l.map sD)), some (wsE ws), none, u5, none] ∧ Bsv ((tls.take i).flatten ++ ws.take j) l) ⟨l, u5, rfl, by simpa using B⟩ (fun j w e hy hI => ?_) (fun e hI => ?_)
      · obtain ⟨l, u5, rfl, B⟩ := hI
        refine ⟨_, rfl, ?_⟩
        have hwm2 := hw ws hwm w (List.mem_of_getElem? hy)
        have ht : ws.take (j + 1) = ws.take j ++ [w] := by rw [List.take_succ, hy]; rfl
        have B2 := B.put (w := w) hwm2.pos
        rw [List.append_assoc, ← ht] at B2
        have hn := num_s l
        have hv := valD_s w l
        have hlw := lenD_w w (Nat.le_trans hwm2.le (by omega))
        have m2 : mulD (.int 2) (nD w.cps.size) = some (.int (2 * (w.cps.size : Int))) := mulD_l _ _ (by decide)
        have hp := putD_s w ((valS l w).getD 0 + 2 * w.cps.size - 2) l
        have hll : l.length < 1000 := by
          have h1 := B.len
          rw [List.length_append, List.length_take] at h1
          omega
        have hpos := hwm2.pos
        have hsub : ∀ g : Nat, ((g : Int) + 2 * (w.cps.size : Int) - 2) = ((g + 2 * w.cps.size - 2 : Nat) : Int) := fun g => by omega
        have hg : ((valD (l.map sD) (.str w)).getD (.int 0)) = nD ((valS l w).getD 0) := by
          rw [hv]
          cases valS l w <;> rfl
        have ho : ownD [some TL, some (nD most), some (.dict (l.map sD)), some (wsE ws), none, some (.str w), none] 2 = some (l.map sD) := by
          show (if numKeys (l.map sD) = true then some (l.map sD) else none) = _
          rw [if_pos hn]
        unfold dputS dget2O
        have hadd : addD (nD ((valS l w).getD 0)) (.int (2 * (w.cps.size : Int))) = some (.int (((valS l w).getD 0 : Nat) + 2 * (w.cps.size : Int))) := rfl
        have hfin : subD (.int ((((valS l w).getD 0 : Nat) : Int) + 2 * (w.cps.size : Int))) (.int 2) = some (nD ((valS l w).getD 0 + 2 * w.cps.size - 2)) := by
          rw [subD_i, hsub]
          rfl
        simp [ho, keyOf, show kD (.inr w) = PyData.str w from rfl, hg, hlw, m2, hadd, hfin, hll, hp]
        exact ⟨_, rfl, B2⟩
      · obtain ⟨l, u5, rfl, B⟩ := hI
        rw [List.take_of_length_le (Nat.le_refl _), ← hflat i ws hx] at B
        first | exact ⟨rfl, l, _, _, rfl, B⟩ | exact ⟨rfl, l, rfl, B⟩ | exact ⟨l, rfl, B⟩ | exact ⟨rfl, l, ⟨_, _, rfl⟩, B⟩ | exact ⟨l, ⟨_, _, rfl⟩, B⟩
    · obtain ⟨l, u3, u5, rfl, B⟩ := hI
      rw [List.take_of_length_le (Nat.le_refl _)] at B
      refine Ok_seq ?_
      have hlen := B.len
      have hk : listK [.dict (l.map sD)] = some (.list (l.map fun p => PyData.str p.1)) := by
        show (if numKeys (l.map sD) = true then some (PyData.list ((l.map sD).map (·.1))) else none) = _
        rw [if_pos (num_s l), List.map_map]
        rfl
      have hit3 : itemsOf (.list (l.map fun p => PyData.str p.1)) = some (l.map fun p => PyData.str p.1) := rfl
      have hdg : ∀ p ∈ l, dgetD (.dict (l.map sD)) (.str p.1) = some (nD p.2) := fun p hp => by
        show valD (l.map sD) (.str p.1) = _
        rw [valD_s, valS_of B.nd hp]
        rfl
      have hc : compD (seqI (opN listK (consA (varD 2) (nilA)))) [5] (bName 5) (tstD (op2 gtD (op2 dgetD (varD 2) (varD 5)) (cD (.int 0)))) (tupD (consA (op2 subD (cD (.int 0)) (op2 dgetD (varD 2) (varD 5))) (consA (varD 5) (nilA)))) [some TL, some (nD most), some (.dict (l.map sD)), u3, none, u5, none] = .ok (.list ((l.filter fun p => decide (0 < p.2)).map fun p => isD2 (-(p.2 : Int), p.1)), [some TL, some (nD most), some (.dict (l.map sD)), u3, none, u5, none]) := by
        refine ofOk (Ok_compP (fun p : Str × Nat => PyData.str p.1) (fun p => decide (0 < p.2)) (fun p => isD2 (-(p.2 : Int), p.1)) l (by simp [hk, hit3]) (by omega) (fun p hp => ⟨_, rfl, ?_, fun _ => ?_, rfl⟩) rfl rfl)
        · simp [hdg p hp]
        · have hs : subD (.int 0) (nD p.2) = some (.int (0 - (p.2 : Int))) := rfl
          simp [hdg p hp, hs, isD2]
      have hRD : ((l.filter fun p => decide (0 < p.2)).map fun p => isD2 (-(p.2 : Int), p.1)) = (svR l).map isD2 := by
        unfold svR
        rw [List.map_map]
        rfl
      have hRl : (svR l).length ≤ 60 := by
        unfold svR
        rw [List.length_map]
        have := List.length_filter_le (fun p : Str × Nat => decide (0 < p.2)) l
        omega
      rw [hRD] at hc
      generalize hR : svR l = R at *
      have hsort : sortedPSD (.list (R.map isD2)) = some (.list ((sortPS R).map isD2)) := by
        show (psOfL (R.map isD2)).map _ = _
        rw [psOfL_map]
        rfl
      have hSl : (sortPS R).length = R.length := (sortPS_perm R).length_eq
      simp [hc, hsort]
      have hcut : cutL ((sortPS R).map isD2) none (some (most : Int)) = ((sortPS R).take most).map isD2 := by
        rw [cut_to, List.map_take]
      have hit4 : itemsOf (.list (((sortPS R).take most).map isD2)) = some (((sortPS R).take most).map isD2) := rfl
      have hnd : ∀ e : Env, e[1]? = some (some (nD most)) → (someO (varD 1)) e = .ok (some (most : Int), e) := fun e he => by
        simp [he]
      have htk : ((sortPS R).take most).length ≤ 60 := by rw [List.length_take]; omega
      have hc2 : compD (seqI (sliceD (varD 4) (noO) (someO (varD 1)))) [6, 5] (bTup 2 (bCons (bName 6) (bCons (bName 5) (bNil)))) (yesT) (varD 5) [some TL, some (nD most), some (.dict (l.map sD)), u3, some (.list ((sortPS R).map isD2)), u5, none] = .ok (.list ((((sortPS R).take most).map (·.2)).map PyData.str), [some TL, some (nD most), some (.dict (l.map sD)), u3, some (.list ((sortPS R).map isD2)), u5, none]) := by
        refine ofOk (Ok_compY isD2 (fun p => PyData.str p.2) ((sortPS R).take most) (by simp [hcut, hit4, -List.map_take]) (by omega) (fun p hp => ⟨[some TL, some (nD most), some (.dict (l.map sD)), u3, some (.list ((sortPS R).map isD2)), some (.str p.2), some (.int p.1)], rfl, rfl, rfl⟩) rfl ?_)
        rw [List.map_map]
        rfl
      generalize hK : (sortPS R).take most = K at *
      have hs2 : sortedTxD (.list ((K.map (·.2)).map PyData.str)) = some (.list ((sortT (K.map (·.2))).map PyData.str)) := by
        show (strsOf ((K.map (·.2)).map PyData.str)).bind _ = _
        rw [strsOf_map]
        show (if (K.map (·.2)).length < 64 then _ else none) = _
        rw [if_pos (by rw [List.length_map]; omega)]
      have htup : ∀ x : List D, tupleD [.list x] = some (.tuple x) := fun _ => rfl
      simp [hc2, hs2, htup, -List.map_map]
      refine ⟨l, B, ?_⟩
      rw [← hK, ← hR, List.map_take]
  obtain ⟨d, e, l, B, rfl⟩ := key
  exact ⟨l, B, e⟩
end Hz

namespace Hz
open PySem PySem.Spec PyProof.Rows L2
/-! ### what is saved -/
theorem rw_in6 {many : Nat} {bw : List Str} {w : Str} (h : w ∈ bw) : (rowW many bw w).length = 3 := by
  unfold rowW
  rw [if_pos h]
  rfl
theorem rw_out6 {many : Nat} {bw : List Str} {w : Str} (h : w ∉ bw) : (rowW many bw w).length = 1 + 2 * w.cps.size := by
  unfold rowW
  rw [if_neg h, List.length_cons, List.length_flatMap]
  have : (w.cps.toList.map fun a => (sgC many a).length) = w.cps.toList.map fun _ => 2 := List.map_congr_left fun c _ => rfl
  rw [this, List.map_const', List.sum_replicate_nat, Array.length_toList]
  omega
theorem inD_l6 {w : Str} {ws : List Str} (W : IsW w) (hw : ∀ w ∈ ws, IsW w) : inD (.str w) (wsE ws) = some (.bool (decide (w ∈ ws))) := by
  have h1 := dep_w 9 W
  have h2 := dep_strl 8 hw
  unfold wsE
  simp only [inD, h1, h2, and_self, if_true, inSeq_s]
theorem min_606 {many : Nat} (h1 : 6 ≤ many) (h2 : many ≤ 12) : ∃ m : Nat, minD [.int 60, nD (many * many)] = some (nD m) ∧ 20 ≤ m := by
  have : many = 6 ∨ many = 7 ∨ many = 8 ∨ many = 9 ∨ many = 10 ∨ many = 11 ∨ many = 12 := by omega
  rcases this with rfl | rfl | rfl | rfl | rfl | rfl | rfl
  · exact ⟨36, rfl, by omega⟩
  · exact ⟨49, rfl, by omega⟩
  · exact ⟨60, rfl, by omega⟩
  · exact ⟨60, rfl, by omega⟩
  · exact ⟨60, rfl, by omega⟩
  · exact ⟨60, rfl, by omega⟩
  · exact ⟨60, rfl, by omega⟩
def svF (S : List Str) (w : Str) : Nat := S.count w * (2 * w.cps.size - 2)
structure Bf (f : Str → Nat) (S : List Str) (l : List (Str × Nat)) : Prop where
  nd : (l.map (·.1)).Nodup
  mem : ∀ w, w ∈ l.map (·.1) ↔ w ∈ S
  val : ∀ p ∈ l, p.2 = f p.1
  len : l.length ≤ S.length
theorem Bsv.bf {S : List Str} {l : List (Str × Nat)} (B : Bsv S l) : Bf (svF S) S l := ⟨B.nd, B.mem, B.val, B.len⟩
theorem Bf.put {f : Str → Nat} {S : List Str} {l : List (Str × Nat)} (B : Bf f S l) (w : Str) : Bf f (S ++ [w]) (putS' l w (f w)) := by
  unfold putS'
  cases e : valS l w with
  | none =>
    have hn := valS_none e
    simp only [Option.isSome_none, Bool.false_eq_true, if_false]
    refine ⟨?_, fun x => ?_, fun p hp => ?_, ?_⟩
    · rw [List.map_append, List.nodup_append]
      exact ⟨B.nd, by simp, fun a ha b hb z => by
        have : b = w := by simpa using hb
        rw [z, this] at ha
        exact hn ha⟩
    · rw [List.map_append, List.mem_append, List.mem_append, B.mem x]
      simp
    · rcases List.mem_append.mp hp with z | z
      · exact B.val p z
      · rw [List.mem_singleton.mp z]
    · rw [List.length_append, List.length_append]
      have := B.len
      simp
      exact this
  | some v =>
    have hm : w ∈ l.map (·.1) := List.mem_map.mpr ⟨_, valS_some e, rfl⟩
    simp only [Option.isSome_some, if_true]
    have hk : (updS l w (f w)).map (·.1) = l.map (·.1) := by
      unfold updS
      rw [List.map_map]
      refine List.map_congr_left fun p _ => ?_
      show (if p.1 = w then (p.1, _) else p).1 = p.1
      split <;> rfl
    refine ⟨by rw [hk]; exact B.nd, fun x => ?_, fun p hp => ?_, ?_⟩
    · rw [hk, B.mem x, List.mem_append, List.mem_singleton]
      constructor
      · exact .inl
      · rintro (z | z)
        · exact z
        · rw [z]
          exact (B.mem w).mp hm
    · obtain ⟨q, hq, rfl⟩ := List.mem_map.mp hp
      split
      · rename_i z
        show f w = f q.1
        rw [z]
      · exact B.val q hq
    · unfold updS
      rw [List.length_map, List.length_append]
      have := B.len
      omega
theorem merge_f (f : Str → Nat) : ∀ (T S : List Str) (l : List (Str × Nat)), Bf f S l → ∃ l2, Bf f (S ++ T) l2 ∧ mergeD (l.map sD) (T.map fun w => sD (w, f w)) = l2.map sD
  | [], S, l, B => ⟨l, by rw [List.append_nil]; exact B, rfl⟩
  | w :: T, S, l, B => by
    obtain ⟨l2, h1, h2⟩ := merge_f f T (S ++ [w]) _ (B.put w)
    refine ⟨l2, by rw [List.append_assoc] at h1; exact h1, ?_⟩
    show mergeD (putD (l.map sD) (.str w) (nD (f w))) (T.map fun w => sD (w, f w)) = _
    rw [putD_s]
    exact h2
theorem dict_f (f : Str → Nat) (S : List Str) : ∃ l, Bf f S l ∧ dictD [.list (S.map fun w => .tuple [.str w, nD (f w)])] = some (.dict (l.map sD)) := by
  obtain ⟨l, h1, h2⟩ := merge_f f S [] [] ⟨List.nodup_nil, fun w => by simp, fun p hp => (by cases hp), Nat.zero_le _⟩
  refine ⟨l, h1, ?_⟩
  have hp : ∀ T : List Str, pairsOf (T.map fun w => .tuple [.str w, nD (f w)]) = some (T.map fun w => sD (w, f w)) := fun T => by
    induction T with
    | nil => rfl
    | cons w T ih =>
      rw [List.map_cons, pairsOf, ih]
      rfl
  show (pairsOf (S.map fun w => .tuple [.str w, nD (f w)])).map _ = _
  rw [hp]
  exact congrArg (fun x => some (PyData.dict x)) h2
theorem Bf.perm {f : Str → Nat} {S : List Str} {l m : List (Str × Nat)} (A : Bf f S l) (B : Bf f S m) : l.Perm m := by
  have nl : ∀ {x : List (Str × Nat)}, (x.map (·.1)).Nodup → x.Nodup := fun h => (List.pairwise_map.mp h).imp fun hne e => hne (by rw [e])
  have key : ∀ {l m : List (Str × Nat)}, Bf f S l → Bf f S m → ∀ p ∈ l, p ∈ m := fun A B p hp => by
    obtain ⟨q, hq, e⟩ := List.mem_map.mp ((B.mem p.1).mpr ((A.mem p.1).mp (List.mem_map.mpr ⟨p, hp, rfl⟩)))
    have : q = p := Prod.ext e (by rw [B.val q hq, A.val p hp, e])
    rw [← this]
    exact hq
  exact (List.perm_ext_iff_of_nodup (nl A.nd) (nl B.nd)).mpr fun p => ⟨key A B p, key B A p⟩
theorem Bf.sort {f : Str → Nat} {S : List Str} {l m : List (Str × Nat)} (A : Bf f S l) (B : Bf f S m) : sortPS (svR l) = sortPS (svR m) :=
  sortedPS_uniq ((sortPS_perm _).trans ((((A.perm B).filter _).map _).trans (sortPS_perm _).symm)) (sortPS_sorted _) (sortPS_sorted _)
theorem le_fst {x y : Int × Str} (h : leS x y = true) : x.1 ≤ y.1 := by
  unfold leS ltK kOf at h
  have h : PyProof.Rows.lexLt PyProof.Rows.itemOrd [.inl y.1, .inr y.2.cps.toList] [.inl x.1, .inr x.2.cps.toList] = false := by simpa using h
  have h := (PyProof.Rows.lex_false.mp h).1
  have h : decide (y.1 < x.1) = false := h
  have := of_decide_eq_false h
  omega
structure Rw (S : List Str) (R : List (Int × Str)) : Prop where
  nd : (R.map (·.2)).Nodup
  srt : (R.map (·.2)).Pairwise (fun a b => svF S b ≤ svF S a)
  mem : ∀ w, w ∈ R.map (·.2) ↔ w ∈ S ∧ 0 < svF S w
  len : R.length ≤ S.length
theorem Bf.rw {S : List Str} {l : List (Str × Nat)} (B : Bf (svF S) S l) : Rw S (sortPS (svR l)) := by
  have hp : ((sortPS (svR l)).map (·.2)).Perm ((l.filter fun p => decide (0 < p.2)).map (·.1)) := by
    refine ((sortPS_perm (svR l)).map (·.2)).trans (List.Perm.of_eq ?_)
    unfold svR
    rw [List.map_map]
    rfl
  have hsl : ((l.filter fun p => decide (0 < p.2)).map (·.1)).Sublist (l.map (·.1)) := List.filter_sublist.map _
  have hv : ∀ x ∈ sortPS (svR l), x.1 = -(svF S x.2 : Int) := fun x hx => by
    have hx := (sortPS_perm (svR l)).mem_iff.mp hx
    obtain ⟨p, hp, rfl⟩ := List.mem_map.mp hx
    show -(p.2 : Int) = _
    rw [B.val p (List.mem_filter.mp hp).1]
  refine ⟨hp.nodup_iff.mpr (B.nd.sublist hsl), ?_, fun w => ?_, ?_⟩
  · rw [List.pairwise_map]
    refine List.Pairwise.imp_of_mem (fun {a b} ha hb h => ?_) (sortPS_sorted (svR l))
    have h1 := le_fst h
    rw [hv a ha, hv b hb] at h1
    omega
  · rw [hp.mem_iff, List.mem_map]
    constructor
    · rintro ⟨p, hp, rfl⟩
      obtain ⟨h1, h2⟩ := List.mem_filter.mp hp
      exact ⟨(B.mem p.1).mp (List.mem_map.mpr ⟨p, h1, rfl⟩), by rw [← B.val p h1]; simpa using h2⟩
    · rintro ⟨h1, h2⟩
      obtain ⟨p, hp, rfl⟩ := List.mem_map.mp ((B.mem w).mpr h1)
      exact ⟨p, List.mem_filter.mpr ⟨hp, by rw [B.val p hp]; simpa using h2⟩, rfl⟩
  · rw [(sortPS_perm (svR l)).length_eq]
    unfold svR
    rw [List.length_map]
    have := List.length_filter_le (fun p : Str × Nat => decide (0 < p.2)) l
    have := B.len
    omega
theorem Rw.best {S : List Str} {R : List (Int × Str)} (W : Rw S R) (m : Nat) {os : List Str} (nd : os.Nodup) (hl : os.length ≤ m) : (os.map (svF S)).sum ≤ ((sortT ((R.take m).map (·.2))).map (svF S)).sum := by
  have h := greedy (svF S) (R.map (·.2)) m os W.srt W.nd nd (fun x _ hR => by
    by_cases z : x ∈ S
    · rcases Nat.eq_zero_or_pos (svF S x) with y | y
      · exact y
      · exact absurd ((W.mem x).mpr ⟨z, y⟩) hR
    · unfold svF
      rw [List.count_eq_zero.mpr z, Nat.zero_mul]) hl
  rw [← List.map_take] at h
  exact Nat.le_trans h (Nat.le_of_eq (((sortT_perm ((R.take m).map (·.2))).map (svF S)).sum_nat.symm))
/-! ### lengths -/
def totL (many : Nat) (b : List Str) (tls : List (List Str)) : Nat := (tls.map fun ws => (rowsW many b ws).length + 2).sum
def gW (w : Str) : Nat := 2 * w.cps.size - 2
theorem rowsW_g {many : Nat} {b : List Str} : ∀ {ws : List Str}, (∀ w ∈ ws, 1 ≤ w.cps.size) → (rowsW many b ws).length + (ws.map fun w => if w ∈ b then gW w else 0).sum = (rowsW many [] ws).length
  | [], _ => rfl
  | w :: ws, h => by
    have ih := rowsW_g (many := many) (b := b) (ws := ws) fun x hx => h x (List.mem_cons_of_mem _ hx)
    have hw := h w (List.mem_cons_self ..)
    have e0 : (rowW many [] w).length = 1 + 2 * w.cps.size := rw_out6 (by simp)
    unfold rowsW at ih ⊢
    rw [List.flatMap_cons, List.flatMap_cons, List.length_append, List.length_append, List.map_cons, List.sum_cons, e0]
    by_cases z : w ∈ b
    · rw [rw_in6 z, if_pos z]
      have hg : gW w = 2 * w.cps.size - 2 := rfl
      omega
    · rw [rw_out6 z, if_neg z]
      omega
theorem tot_g {many : Nat} {b : List Str} : ∀ {tls : List (List Str)}, (∀ ws ∈ tls, ∀ w ∈ ws, 1 ≤ w.cps.size) → totL many b tls + (tls.flatten.map fun w => if w ∈ b then gW w else 0).sum = totL many [] tls
  | [], _ => rfl
  | ws :: tls, h => by
    have ih := tot_g (many := many) (b := b) (tls := tls) fun x hx => h x (List.mem_cons_of_mem _ hx)
    have h1 := rowsW_g (many := many) (b := b) (h ws (List.mem_cons_self ..))
    unfold totL at ih ⊢
    rw [List.map_cons, List.map_cons, List.sum_cons, List.sum_cons, List.flatten_cons, List.map_append, List.sum_append_nat]
    omega
theorem one_g (x : Str) : ∀ {b : List Str}, b.Nodup → (b.map fun w => (if x = w then 1 else 0) * gW w).sum = if x ∈ b then gW x else 0
  | [], _ => rfl
  | w :: b, nd => by
    obtain ⟨n1, n2⟩ := List.nodup_cons.mp nd
    rw [List.map_cons, List.sum_cons, one_g x n2]
    by_cases z : x = w
    · subst z
      rw [if_pos rfl, if_neg n1, if_pos (List.mem_cons_self ..)]
      omega
    · have : x ∈ w :: b ↔ x ∈ b := by simp [z]
      rw [if_neg z, Nat.zero_mul, Nat.zero_add]
      by_cases y : x ∈ b
      · rw [if_pos y, if_pos (this.mpr y)]
      · rw [if_neg y, if_neg (fun q => y (this.mp q))]
theorem cnt_g {b : List Str} (nd : b.Nodup) : ∀ S : List Str, (S.map fun w => if w ∈ b then gW w else 0).sum = (b.map (svF S)).sum
  | [] => by
    have : ∀ b : List Str, (b.map (svF [])).sum = 0 := fun b => by
      induction b with
      | nil => rfl
      | cons w b ih => rw [List.map_cons, List.sum_cons, ih]; simp [svF]
    rw [this]
    rfl
  | x :: S => by
    rw [List.map_cons, List.sum_cons, cnt_g nd S, ← one_g x nd]
    have : ∀ b : List Str, (b.map (svF (x :: S))).sum = (b.map fun w => (if x = w then 1 else 0) * gW w).sum + (b.map (svF S)).sum := fun b => by
      induction b with
      | nil => rfl
      | cons w b ih =>
        rw [List.map_cons, List.map_cons, List.map_cons, List.sum_cons, List.sum_cons, List.sum_cons, ih]
        have e : svF (x :: S) w = (if x = w then 1 else 0) * gW w + svF S w := by
          unfold svF gW
          rw [List.count_cons]
          by_cases z : x = w
          · subst z
            rw [if_pos (by simp), if_pos rfl, Nat.add_mul]
            omega
          · rw [if_neg (by simpa using z), if_neg z, Nat.add_zero, Nat.zero_mul, Nat.zero_add]
        rw [e]
        omega
    rw [this]
theorem tot_sv {many : Nat} {b : List Str} {tls : List (List Str)} (h : ∀ ws ∈ tls, ∀ w ∈ ws, 1 ≤ w.cps.size) (nd : b.Nodup) : totL many b tls + (b.map (svF tls.flatten)).sum = totL many [] tls := by
  rw [← cnt_g nd]
  exact tot_g h
theorem sortT_idem (l : List Str) : sortT (sortT l) = sortT l := by
  have h1 : sortPS ((sortT l).map fun x => ((0 : Int), x)) = sortPS (l.map fun x => ((0 : Int), x)) :=
    sortedPS_uniq ((sortPS_perm _).trans (((sortT_perm l).map _).trans (sortPS_perm _).symm)) (sortPS_sorted _) (sortPS_sorted _)
  rw [sortT, h1]
  rfl
theorem best_book_m {many most : Nat} (h6 : 6 ≤ many) (h12 : many ≤ 12) (hm : most ≤ 20) (tls : List (List Str)) (hw : ∀ ws ∈ tls, ∀ w ∈ ws, IsW w) (hw8 : ∀ ws ∈ tls, ws.length ≤ 8) {BW : List Str} (hb : d_best_words [.list (tls.map wsE), nD most] = .ok (.tuple (BW.map PyData.str))) :
    d_best_book [nD many, .list (tls.map wsE), nD most] = .ok (bkD many BW) := by
  refine ofOk ?_
  unfold d_best_book b_best_book env0
  have w1 : d_is_whole [nD many, .int 6, .int 12] = .ok (.bool true) := by
    rw [show nD many = .int (many : Int) from rfl, whole_int]
    simp
    omega
  obtain ⟨m, m1, m2⟩ := min_606 h6 h12
  have w2 : d_is_whole [nD most, .int 0, nD m] = .ok (.bool true) := by
    rw [show nD m = .int (m : Int) from rfl, show nD most = .int (most : Int) from rfl, whole_int]
    simp
    omega
  have mm : mulD (nD many) (nD many) = some (nD (many * many)) := by
    show mulD (.int (many : Int)) (.int (many : Int)) = _
    rw [mulD_l _ _ ⟨by omega, by omega⟩]
    rfl
  have il : isiD "list" (.list (tls.map wsE)) = some (.bool true) := rfl
  have hit : itemsOf (.list (tls.map wsE)) = some (tls.map wsE) := rfl
  generalize PyData.list (tls.map wsE) = TL at *
  refine Ok_fin (Ok_seq ?_)
  simp [w1]
  refine Ok_seq ?_
  simp [mm, m1, w2]
  refine Ok_seq ?_
  simp [il]
  refine Ok_seq ?_
  simp [hit]
  refine Ok_forL wsE tls (fun i e => ∃ u3 : Option D, e = [some (nD many), some TL, some (nD most), u3]) ⟨none, rfl⟩ (fun i ws e hx hI => ?_) (fun e hI => ?_)
  · obtain ⟨u3, rfl⟩ := hI
    refine ⟨_, rfl, ?_⟩
    have hm := List.mem_of_getElem? hx
    have n1 : d_need_words [wsE ws, .int 8] = .ok .none := need_words_n (hw ws hm) (n := 8) (hw8 ws hm) (by omega) (.int 8) rfl
    simp [n1]
  · obtain ⟨u3, rfl⟩ := hI
    simp [hb]
    rfl
end Hz

namespace Hz
open PySem PySem.Spec PyProof.Rows L2
theorem ints_n6 : ∀ l : List Nat, intsOf (l.map nD) = some (l.map fun n : Nat => (n : Int))
  | [] => rfl
  | a :: l => by
    show (intsOf (l.map nD)).map ((a : Int) :: ·) = _
    rw [ints_n6 l]
    rfl
theorem sum_n6 : ∀ l : List Nat, (l.map fun n : Nat => (n : Int)).sum = ((l.sum : Nat) : Int)
  | [] => rfl
  | a :: l => by
    rw [List.map_cons, List.sum_cons, List.sum_cons, sum_n6 l]
    omega
theorem sum_nl6 (l : List Nat) : sumD [nlD l] = some (nD l.sum) := by
  show (intsOf (l.map nD)).map _ = _
  rw [ints_n6]
  exact congrArg some (congrArg PyData.int (sum_n6 l))
theorem len_put6 {many : Nat} {b ws : List Str} (B : BkA many b) (nd : b.Nodup) (hl : b.length ≤ 36) (hw : ∀ w ∈ ws, IsW w) (h8 : ws.length ≤ 8) : ∃ ROW, d_put [bkD many b, wsE ws] = .ok ROW ∧ lenD [ROW] = some (nD ((rowsW many b ws).length + 2)) := by
  refine ⟨_, put_n B (need_bk B.ge B.le nd hl B.wd) hw h8, ?_⟩
  rw [lenD_l]
  simp
theorem ext_k6 (i : Nat) (a : Env → R (D × Env)) (e : Env) : extS i a e = (lift (ownL e i)).bind fun _ => (a e).bind fun x => (lift (ownL x.2 i)).bind fun ds => match x.1 with
  | .list es => if ds.length + es.length ≤ 1000000 then .ok (.nx, x.2.set i (some (.list (ds ++ es)))) else .bad
  | _ => .bad := rfl
def lsK6 : Option (Option D) → Option (List D)
  | some (some (.list ds)) => some ds
  | _ => none
theorem ownL_k6 (e : Env) (i : Nat) : ownL e i = lsK6 e[i]? := by
  unfold ownL lsK6
  split <;> simp_all
@[simp] theorem lsK6_l (ds : List D) : lsK6 (some (some (.list ds))) = some ds := rfl
def tpE (os : List Str) : D := .tuple (os.map PyData.str)
theorem law_true (ns : List Int) (h : ns.length ≤ 63) : d_law [scrV ns] = .ok (.bool true) := by
  have key : Ok (d_law [scrV ns]) fun d => d = .bool true := by
    unfold d_law b_law env0
    refine Ok_fin (Ok_seq ?_)
    have et : PyData.list [] = twn 0 := rfl
    simp
    rw [et]
    refine Ok_seq ?_
    obtain ⟨c, hc, e4⟩ := draw_lit ns 0 4 (.int 4) rfl (by omega) (by omega)
    have hcomp : Ok (compD (argI rng1 (consA (callT d_law_draw 1 (varD 0) (consA (cD (.int 4)) (nilA))) (nilA))) [15] (bName 15) (yesT) (callT d_law_words 1 (varD 0) (consA (cD (.int 4)) (nilA))) [some (scrV ns), some (twn 0), none, none, none, none, none, none, none, none, none, none, none, none, none, none, none, none]) fun r => ∃ (tls : List (List Str)) (k4 : Nat), r = (.list (tls.map wsE), [some (scrV ns), some (twn k4), none, none, none, none, none, none, none, none, none, none, none, none, none, none, none, none]) ∧ tls.length = c ∧ k4 ≤ 3000 ∧ ∀ ws ∈ tls, (∀ w ∈ ws, IsP w) ∧ ws.length ≤ 4 := by
      refine Ok_compA nD wsE (List.range c) (fun acc e => (∃ k4 : Nat, e = [some (scrV ns), some (twn k4), none, none, none, none, none, none, none, none, none, none, none, none, none, none, none, none] ∧ k4 ≤ 1 + 300 * acc.length) ∧ ∀ ws ∈ acc, (∀ w ∈ ws, IsP w) ∧ ws.length ≤ 4) (env1 := [some (scrV ns), some (twn 1), none, none, none, none, none, none, none, none, none, none, none, none, none, none, none, none]) ?_ (by simp; omega) ⟨⟨1, rfl, by simp⟩, fun ws hw => by cases hw⟩ (fun x acc e hx hI => ?_) (fun ys e' hI hl => ?_)
      · simp only [ev_argI, ev_consA, ev_op2, ev_cD, ev_callT, ev_varD, ev_nilA]
        simp [e4, rng1_n c (by omega)]
      · obtain ⟨⟨k4, rfl, hk4⟩, hacc⟩ := hI
        simp at hx
        refine ⟨_, rfl, ?_⟩
        obtain ⟨_, g1, vs, k5, rfl, hv, hvl, hk5⟩ := words_ok ns k4 4 (.int 4) rfl (by omega) (by omega)
        simp [g1]
        exact ⟨vs, rfl, ⟨k5, rfl, by omega⟩, fun ws hw => by
          rcases hw with hw | rfl
          · exact hacc ws hw
          · exact ⟨hv, hvl⟩⟩
      · obtain ⟨⟨k4, rfl, hk4⟩, hacc⟩ := hI
        simp at hl
        exact ⟨ys, k4, rfl, hl, by omega, hacc⟩
    obtain ⟨_, ec, tls, k4, rfl, hlen, hk4, hP⟩ := hcomp
    simp [ec]
    clear ec e4
    refine Ok_seq ?_
    obtain ⟨mo, hmo, e5⟩ := draw_lit ns k4 5 (.int 5) rfl (by omega) (by omega)
    simp [e5]
    refine Ok_seq ?_
    obtain ⟨c7, hc7, e6⟩ := draw_lit ns (k4 + 1) 7 (.int 7) rfl (by omega) (by omega)
    obtain ⟨many, hmany⟩ : ∃ many, many = c7 + 6 := ⟨_, rfl⟩
    have hadd : addD (.int 6) (nD c7) = some (nD many) := by
      rw [addD_in]
      refine congrArg some ?_
      unfold nD
      rw [show (6 : Int) + (c7 : Int) = (many : Int) by omega]
    simp [e6, hadd]
    refine Ok_seq ?_
    have hw : ∀ ws ∈ tls, ∀ w ∈ ws, IsW w := fun ws h1 w h2 => ((hP ws h1).1 w h2).isw
    have hw4 : ∀ ws ∈ tls, ws.length ≤ 4 := fun ws h1 => (hP ws h1).2
    have hw8 : ∀ ws ∈ tls, ws.length ≤ 8 := fun ws h1 => Nat.le_trans (hw4 ws h1) (by omega)
    have hfl : tls.flatten.length ≤ 4 * tls.length := by
      clear hlen hP hw hw8
      induction tls with
      | nil => simp
      | cons a l ih =>
        have h1 := hw4 a (List.mem_cons_self ..)
        have h2 := ih fun x hx => hw4 x (List.mem_cons_of_mem _ hx)
        rw [List.flatten_cons, List.length_append, List.length_cons]
        omega
    obtain ⟨l, Bl, bb⟩ := best_words_m tls mo (by omega) hw (by omega)
    have bb2 := best_book_m (many := many) (by omega) (by omega) (by omega) tls hw hw8 bb
    have RW := Bl.bf.rw
    have hSW : ∀ w ∈ tls.flatten, IsP w := fun w hm => by
      obtain ⟨ws, h1, h2⟩ := List.mem_flatten.mp hm
      exact (hP ws h1).1 w h2
    have hpos : ∀ ws ∈ tls, ∀ w ∈ ws, 1 ≤ w.cps.size := fun ws h1 w h2 => (hw ws h1 w h2).pos
    have hK : ∀ w ∈ ((sortPS (svR l)).take mo).map (·.2), w ∈ tls.flatten ∧ 0 < svF tls.flatten w := fun w hm => by
      rw [List.map_take] at hm
      exact (RW.mem w).mp (List.mem_of_mem_take hm)
    have hKn : (((sortPS (svR l)).take mo).map (·.2)).Nodup := by
      rw [List.map_take]
      exact RW.nd.sublist (List.take_sublist _ _)
    have hKl : ((sortPS (svR l)).take mo).length ≤ mo := by rw [List.length_take]; omega
    obtain ⟨l2, Bl2, hdict⟩ := dict_f (svF tls.flatten) tls.flatten
    have hsame := Bl.bf.sort Bl2
    have hbest := fun (os : List Str) (n : os.Nodup) (hl : os.length ≤ mo) => RW.best mo n hl
    generalize hKK : (sortPS (svR l)).take mo = K at *
    have hBp := sortT_perm (K.map (·.2))
    generalize hBW : sortT (K.map (·.2)) = BW at *
    have hBid : sortT BW = BW := by rw [← hBW]; exact sortT_idem _
    have hBm : ∀ w ∈ BW, w ∈ tls.flatten ∧ 0 < svF tls.flatten w := fun w hm => hK w (hBp.mem_iff.mp hm)
    have hBn : BW.Nodup := hBp.nodup_iff.mpr hKn
    have hBl : BW.length ≤ mo := by rw [hBp.length_eq, List.length_map]; exact hKl
    have bk : ∀ os : List Str, os.Nodup → os.length ≤ mo → (∀ w ∈ os, w ∈ tls.flatten) → BkA many os := fun os n hl hm => ⟨by omega, by omega, fun w hw => (hSW w (hm w hw)).isw, fun hne => by
      cases os with
      | nil => exact absurd rfl hne
      | cons w r => exact need_w (hSW w (hm w (List.mem_cons_self ..))).nr⟩
    have BB := bk BW hBn hBl fun w hm => (hBm w hm).1
    have hisb : d_is_book [bkD many BW] = .ok (.bool true) := is_book_n (by omega) (by omega) hBn (by omega) fun w hm => is_word_n (BB.wd w hm)
    generalize hTL : PyData.list (tls.map wsE) = TL at *
    have hit : itemsOf TL = some (tls.map wsE) := by rw [← hTL]; rfl
    simp [bb2]
    refine Ok_seq ?_
    simp
    refine Ok_seq ?_
    simp [hit]
    generalize hk4' : k4 + 1 + 1 = k4' at *
    have hflat : ∀ i ws, tls[i]? = some ws → (tls.take (i + 1)).flatten = (tls.take i).flatten ++ ws := fun i ws h => by
      rw [List.take_succ, h]
      simp
    have hsub : ∀ i, (tls.take i).flatten.length ≤ tls.flatten.length := fun i => by
      have : tls.flatten = (tls.take i).flatten ++ (tls.drop i).flatten := by
        rw [← List.flatten_append, List.take_append_drop]
      rw [this, List.length_append]
      omega
    refine Ok_forL wsE tls (fun i e => ∃ u7 : Option D, e = [some (scrV ns), some (twn k4'), some TL, some (nD mo), some (nD many), some (bkD many BW), some (wsE (tls.take i).flatten), u7, none, none, none, none, none, none, none, none, none, none]) ⟨none, rfl⟩ (fun i ws e hx hI => ?_) (fun e hI => ?_)
    · obtain ⟨u7, rfl⟩ := hI
      refine ⟨_, rfl, ?_⟩
      have h1 := hsub i
      have h2 := hw4 ws (List.mem_of_getElem? hx)
      rw [hflat i ws hx, ext_k6]
      generalize (tls.take i).flatten = A at *
      have hb : A.length + ws.length ≤ 1000000 := by omega
      unfold wsE
      simp [hb, ownL_k6]
    · obtain ⟨u7, rfl⟩ := hI
      rw [List.take_of_length_le (Nat.le_refl _)]
      have htot := fun (b : List Str) (nd : b.Nodup) => tot_sv (many := many) (b := b) hpos nd
      clear hsub hflat
      generalize hS : tls.flatten = S at *
      -- the book
      have i0 : idxD (bkD many BW) (.int 0) = some (nD many) := rfl
      have i1 : idxD (bkD many BW) (.int 1) = some (.tuple (BW.map PyData.str)) := rfl
      have n0 : neD (nD many) (nD many) = some (.bool false) := by rw [neD_n]; simp
      have l0 : lenD [.tuple (BW.map PyData.str)] = some (nD BW.length) := by
        show some (nD (BW.map PyData.str).length) = _
        rw [List.length_map]
      have g0 : gtD (nD BW.length) (nD mo) = some (.bool false) := by rw [gtD_n, decide_eq_false (by omega)]
      have li : ∀ x : List D, listD [.tuple x] = some (.list x) := fun _ => rfl
      have st : sortedTTx (.tuple (BW.map PyData.str)) = some (.list (BW.map PyData.str)) := by
        show (strsOf (BW.map PyData.str)).bind _ = _
        rw [strsOf_map]
        show (if BW.length < 64 then some (PyData.list ((sortT BW).map PyData.str)) else none) = _
        rw [if_pos (by omega), hBid]
      have nb : neD (.list (BW.map PyData.str)) (.list (BW.map PyData.str)) = some (.bool false) := neD_self (dep_strl 8 BB.wd)
      refine Ok_seq ?_
      rw [ev_ifS]
      simp only [ev_orT, ev_notT, ev_tstD, ev_op2]
      simp [hisb, i0, i1, n0, l0, g0, li, st, nb]
      refine Ok_seq ?_
      have hbi : itemsOf (.tuple (BW.map PyData.str)) = some (BW.map PyData.str) := rfl
      have hF : compD (seqI (op2 idxD (varD 5) (cD (.int 1)))) [13] (bName 13) (orT (tstD (op2OR notInD (varD 13) 6)) (tstD (op2 eqD (opN lenD (consA (varD 13) (nilA))) (cD (.int 1))))) (varD 13) [some (scrV ns), some (twn k4'), some TL, some (nD mo), some (nD many), some (bkD many BW), some (wsE S), u7, none, none, none, none, none, none, none, none, none, none] = .ok (.list [], [some (scrV ns), some (twn k4'), some TL, some (nD mo), some (nD many), some (bkD many BW), some (wsE S), u7, none, none, none, none, none, none, none, none, none, none]) := by
        refine ofOk (Ok_compP PyData.str (fun _ => false) PyData.str BW (by simp [i1, hbi]) (by omega) (fun w hwm => ⟨_, rfl, ?_, fun z => (by cases z), rfl⟩) rfl (by simp))
        obtain ⟨h1, h2⟩ := hBm w hwm
        have W := BB.wd w hwm
        have e1 : notInD (.str w) (.list (S.map PyData.str)) = some (.bool false) := by
          have e := inD_l6 W (ws := S) fun x hx => (hSW x hx).isw
          rw [decide_eq_true h1] at e
          have e : inD (.str w) (.list (S.map PyData.str)) = some (.bool true) := e
          unfold notInD
          rw [e]
          rfl
        have e2 := lenD_w w (Nat.le_trans W.le (by omega))
        have h3 : w.cps.size ≠ 1 := fun z => by
          unfold svF at h2
          rw [z] at h2
          simp at h2
        have e3 : eqD (nD w.cps.size) (.int 1) = some (.bool false) := by
          rw [show (PyData.int 1 : D) = nD 1 from rfl, eqD_n, decide_eq_false h3]
        have a1 : atomD (.bool false) = true := rfl
        unfold wsE
        simp [e1, e2, e3, a1, ownL_k6]
      have n00 : neD (.list []) (.list []) = some (.bool false) := rfl
      rw [ev_ifS]
      simp only [ev_tstD, ev_op2]
      rw [hF]
      simp [n00]
      clear hF
      refine Ok_seq ?_
      have hit6 : itemsOf (wsE S) = some (S.map PyData.str) := rfl
      have hC : compD (seqI (varD 6)) [13] (bName 13) (yesT) (tupD (consA (varD 13) (consA (op2 mulD (lcntM (varD 6) (varD 13)) (op2 subD (op2 mulD (cD (.int 2)) (opN lenD (consA (varD 13) (nilA)))) (cD (.int 2)))) (nilA)))) [some (scrV ns), some (twn k4'), some TL, some (nD mo), some (nD many), some (bkD many BW), some (wsE S), u7, none, none, none, none, none, none, none, none, none, none] = .ok (.list (S.map fun w => .tuple [.str w, nD (svF S w)]), [some (scrV ns), some (twn k4'), some TL, some (nD mo), some (nD many), some (bkD many BW), some (wsE S), u7, none, none, none, none, none, none, none, none, none, none]) := by
        refine ofOk (Ok_compY PyData.str (fun w => .tuple [.str w, nD (svF S w)]) S (by simp [hit6]) (by omega) (fun w hwm => ⟨_, rfl, ?_, rfl⟩) rfl rfl)
        have W := (hSW w hwm).isw
        have e2 := lenD_w w (Nat.le_trans W.le (by omega))
        have m2 : mulD (.int 2) (nD w.cps.size) = some (.int (2 * (w.cps.size : Int))) := mulD_l _ _ (by decide)
        have hp := W.pos
        have h8 := W.le
        have hcnt : lcntD (wsE S) (.str w) = some (nD (S.count w)) := by
          show (strsOf (S.map PyData.str)).map _ = _
          rw [strsOf_map]
          rfl
        have m3 : mulD (nD (S.count w)) (.int (2 * (w.cps.size : Int) - 2)) = some (nD (svF S w)) := by
          show mulD (.int (S.count w : Int)) (.int (2 * (w.cps.size : Int) - 2)) = _
          rw [mulD_r _ _ ⟨by omega, by omega⟩]
          unfold svF nD
          refine congrArg some (congrArg PyData.int ?_)
          have : (2 * (w.cps.size : Int) - 2) = ((2 * w.cps.size - 2 : Nat) : Int) := by omega
          rw [this, Int.natCast_mul]
        unfold lcntM
        unfold wsE at hcnt ⊢
        simp [hcnt, e2, m2, m3]
      simp [hC, hdict]
      clear hC
      refine Ok_seq ?_
      -- the rows
      have hnum := num_s l2
      have hdg : ∀ p ∈ l2, dgetD (.dict (l2.map sD)) (.str p.1) = some (nD p.2) := fun p hp => by
        show valD (l2.map sD) (.str p.1) = _
        rw [valD_s, valS_of Bl2.nd hp]
        rfl
      have hl2 := Bl2.len
      have hkeys : keysI 8 [some (scrV ns), some (twn k4'), some TL, some (nD mo), some (nD many), some (bkD many BW), some (wsE S), u7, some (.dict (l2.map sD)), none, none, none, none, none, none, none, none, none] = .ok (l2.map fun p => PyData.str p.1, [some (scrV ns), some (twn k4'), some TL, some (nD mo), some (nD many), some (bkD many BW), some (wsE S), u7, some (.dict (l2.map sD)), none, none, none, none, none, none, none, none, none]) := by
        show (if numKeys (l2.map sD) = true then R.ok ((l2.map sD).map (·.1), _) else .bad) = _
        rw [if_pos hnum, List.map_map]
        rfl
      have hC : compD (keysI 8) [13] (bName 13) (tstD (op2 gtD (op2 dgetD (varD 8) (varD 13)) (cD (.int 0)))) (tupD (consA (op2 subD (cD (.int 0)) (op2 dgetD (varD 8) (varD 13))) (consA (varD 13) (nilA)))) [some (scrV ns), some (twn k4'), some TL, some (nD mo), some (nD many), some (bkD many BW), some (wsE S), u7, some (.dict (l2.map sD)), none, none, none, none, none, none, none, none, none] = .ok (.list ((l2.filter fun p => decide (0 < p.2)).map fun p => isD2 (-(p.2 : Int), p.1)), [some (scrV ns), some (twn k4'), some TL, some (nD mo), some (nD many), some (bkD many BW), some (wsE S), u7, some (.dict (l2.map sD)), none, none, none, none, none, none, none, none, none]) := by
        refine ofOk (Ok_compP (fun p : Str × Nat => PyData.str p.1) (fun p => decide (0 < p.2)) (fun p => isD2 (-(p.2 : Int), p.1)) l2 hkeys (by omega) (fun p hp => ⟨_, rfl, ?_, fun _ => ?_, rfl⟩) rfl rfl)
        · simp [hdg p hp]
        · have hs : subD (.int 0) (nD p.2) = some (.int (0 - (p.2 : Int))) := rfl
          simp [hdg p hp, hs, isD2]
      have hRD : ((l2.filter fun p => decide (0 < p.2)).map fun p => isD2 (-(p.2 : Int), p.1)) = (svR l2).map isD2 := by
        unfold svR
        rw [List.map_map]
        rfl
      rw [hRD] at hC
      have hsort : sortedPSD (.list ((svR l2).map isD2)) = some (.list ((sortPS (svR l2)).map isD2)) := by
        show (psOfL ((svR l2).map isD2)).map _ = _
        rw [psOfL_map]
        rfl
      have hcut : cutL ((sortPS (svR l2)).map isD2) none (some (mo : Int)) = K.map isD2 := by
        rw [cut_to, ← List.map_take, ← hsame, hKK]
      simp [hC, hsort, hcut]
      clear hC
      refine Ok_seq ?_
      have hitK : itemsOf (.list (K.map isD2)) = some (K.map isD2) := rfl
      have hC : compD (seqI (varD 9)) [17, 13] (bTup 2 (bCons (bName 17) (bCons (bName 13) (bNil)))) (yesT) (varD 13) [some (scrV ns), some (twn k4'), some TL, some (nD mo), some (nD many), some (bkD many BW), some (wsE S), u7, some (.dict (l2.map sD)), some (.list (K.map isD2)), none, none, none, none, none, none, none, none] = .ok (.list ((K.map (·.2)).map PyData.str), [some (scrV ns), some (twn k4'), some TL, some (nD mo), some (nD many), some (bkD many BW), some (wsE S), u7, some (.dict (l2.map sD)), some (.list (K.map isD2)), none, none, none, none, none, none, none, none]) := by
        refine ofOk (Ok_compY isD2 (fun p => PyData.str p.2) K (by simp [hitK]) (by omega) (fun p hp => ⟨[some (scrV ns), some (twn k4'), some TL, some (nD mo), some (nD many), some (bkD many BW), some (wsE S), u7, some (.dict (l2.map sD)), some (.list (K.map isD2)), none, none, none, some (.str p.2), none, none, none, some (.int p.1)], rfl, rfl, rfl⟩) rfl ?_)
        rw [List.map_map]
        rfl
      have hs2 : sortedTxD (.list ((K.map (·.2)).map PyData.str)) = some (.list (BW.map PyData.str)) := by
        show (strsOf ((K.map (·.2)).map PyData.str)).bind _ = _
        rw [strsOf_map]
        show (if (K.map (·.2)).length < 64 then some (PyData.list ((sortT (K.map (·.2))).map PyData.str)) else none) = _
        rw [if_pos (by rw [List.length_map]; omega), hBW]
      rw [ev_ifS]
      simp only [ev_tstD, ev_op2, ev_op1, ev_opN, ev_consA, ev_nilA, ev_varD, ev_cD]
      rw [hC]
      simp [hs2, i1, li, nb, -List.map_map]
      clear hC
      refine Ok_seq ?_
      have hC : compD (seqI (varD 2)) [7] (bName 7) (yesT) (opN lenD (consA (callP d_put (consA (varD 5) (consA (varD 7) (nilA)))) (nilA))) [some (scrV ns), some (twn k4'), some TL, some (nD mo), some (nD many), some (bkD many BW), some (wsE S), u7, some (.dict (l2.map sD)), some (.list (K.map isD2)), none, none, none, none, none, none, none, none] = .ok (nlD (tls.map fun ws => (rowsW many BW ws).length + 2), [some (scrV ns), some (twn k4'), some TL, some (nD mo), some (nD many), some (bkD many BW), some (wsE S), u7, some (.dict (l2.map sD)), some (.list (K.map isD2)), none, none, none, none, none, none, none, none]) := by
        refine ofOk (Ok_compY wsE (fun ws => nD ((rowsW many BW ws).length + 2)) tls (by simp [hit]) (by omega) (fun ws hm => ⟨_, rfl, ?_, rfl⟩) rfl (by unfold nlD; rw [List.map_map]; rfl))
        obtain ⟨ROW, p1, p2⟩ := len_put6 BB hBn (by omega) (hw ws hm) (hw8 ws hm)
        simp [p1, p2]
      have hsum : sumD [nlD (tls.map fun ws => (rowsW many BW ws).length + 2)] = some (nD (totL many BW tls)) := sum_nl6 _
      simp [hC, hsum]
      clear hC hsum
      refine Ok_seq ?_
      have B0 : BkA many [] := bk [] List.nodup_nil (by simp) (fun w hm => (by cases hm))
      have hC : compD (seqI (varD 2)) [7] (bName 7) (yesT) (opN lenD (consA (callP d_put (consA (tupD (consA (varD 4) (consA (tupD (nilA)) (nilA)))) (consA (varD 7) (nilA)))) (nilA))) [some (scrV ns), some (twn k4'), some TL, some (nD mo), some (nD many), some (bkD many BW), some (wsE S), u7, some (.dict (l2.map sD)), some (.list (K.map isD2)), some (nD (totL many BW tls)), none, none, none, none, none, none, none] = .ok (nlD (tls.map fun ws => (rowsW many [] ws).length + 2), [some (scrV ns), some (twn k4'), some TL, some (nD mo), some (nD many), some (bkD many BW), some (wsE S), u7, some (.dict (l2.map sD)), some (.list (K.map isD2)), some (nD (totL many BW tls)), none, none, none, none, none, none, none]) := by
        refine ofOk (Ok_compY wsE (fun ws => nD ((rowsW many [] ws).length + 2)) tls (by simp [hit]) (by omega) (fun ws hm => ⟨_, rfl, ?_, rfl⟩) rfl (by unfold nlD; rw [List.map_map]; rfl))
        obtain ⟨ROW, p1, p2⟩ := len_put6 B0 List.nodup_nil (by simp) (hw ws hm) (hw8 ws hm)
        have r0 : PyData.tuple [nD many, .tuple []] = bkD many [] := rfl
        simp [r0, p1, p2]
      have hsum : sumD [nlD (tls.map fun ws => (rowsW many [] ws).length + 2)] = some (nD (totL many [] tls)) := sum_nl6 _
      simp [hC, hsum]
      clear hC hsum
      refine Ok_seq ?_
      have hC : compD (seqI (op2 idxD (varD 5) (cD (.int 1)))) [13] (bName 13) (yesT) (op2 dgetD (varD 8) (varD 13)) [some (scrV ns), some (twn k4'), some TL, some (nD mo), some (nD many), some (bkD many BW), some (wsE S), u7, some (.dict (l2.map sD)), some (.list (K.map isD2)), some (nD (totL many BW tls)), some (nD (totL many [] tls)), none, none, none, none, none, none] = .ok (nlD (BW.map (svF S)), [some (scrV ns), some (twn k4'), some TL, some (nD mo), some (nD many), some (bkD many BW), some (wsE S), u7, some (.dict (l2.map sD)), some (.list (K.map isD2)), some (nD (totL many BW tls)), some (nD (totL many [] tls)), none, none, none, none, none, none]) := by
        refine ofOk (Ok_compY PyData.str (fun w => nD (svF S w)) BW (by simp [i1, hbi]) (by omega) (fun w hm => ⟨_, rfl, ?_, rfl⟩) rfl (by unfold nlD; rw [List.map_map]; rfl))
        obtain ⟨p, hp, e⟩ := List.mem_map.mp ((Bl2.mem w).mpr (hBm w hm).1)
        have h1 := hdg p hp
        rw [Bl2.val p hp, e] at h1
        simp [h1]
      have hsum : sumD [nlD (BW.map (svF S))] = some (nD (BW.map (svF S)).sum) := sum_nl6 _
      have ht := htot BW hBn
      have hsb : subD (nD (totL many [] tls)) (nD (totL many BW tls)) = some (nD (BW.map (svF S)).sum) := by
        show some (PyData.int ((totL many [] tls : Int) - (totL many BW tls : Int))) = some (PyData.int ((BW.map (svF S)).sum : Nat))
        rw [show ((totL many [] tls : Int) - (totL many BW tls : Int)) = (((BW.map (svF S)).sum : Nat) : Int) by omega]
      have n5 : neD (nD (BW.map (svF S)).sum) (nD (BW.map (svF S)).sum) = some (.bool false) := by rw [neD_n]; simp
      rw [ev_ifS]
      simp only [ev_tstD, ev_op2, ev_opN, ev_consA, ev_nilA]
      simp [hC, hsum, hsb, n5]
      clear hC hsum n5 hsb
      refine Ok_seq ?_
      simp
      refine Ok_seq ?_
      -- the sets
      have hdl := ddL_len S []
      rw [List.length_nil] at hdl
      have hset : sortedSetX (wsE S) = some (.list ((sortT (ddL S)).map PyData.str)) := by
        show (strsOf (S.map PyData.str)).bind _ = _
        rw [strsOf_map]
        show (if S.length < 64 then _ else none) = _
        rw [if_pos (by omega)]
      have hcut8 : cutL ((sortT (ddL S)).map PyData.str) none (some 8) = ((sortT (ddL S)).take 8).map PyData.str := by
        rw [List.map_take]
        exact cut_to _ 8
      have hUn : ((sortT (ddL S)).take 8).Nodup := ((sortT_perm (ddL S)).nodup_iff.mpr (ddL_ndX S)).sublist (List.take_sublist _ _)
      have hUm : ∀ w ∈ (sortT (ddL S)).take 8, w ∈ S := fun w hm => (ddL_memX S w).mp ((sortT_perm (ddL S)).mem_iff.mp (List.mem_of_mem_take hm))
      have hUl : ((sortT (ddL S)).take 8).length ≤ 8 := by rw [List.length_take]; omega
      generalize (sortT (ddL S)).take 8 = U at *
      have hitU : itemsOf (.list (U.map PyData.str)) = some (U.map PyData.str) := rfl
      have r1 : PyData.list [.tuple []] = .list (([[]] : List (List Str)).map tpE) := rfl
      simp [hset, hcut8, hitU]
      rw [r1]
      refine Ok_forL PyData.str U (fun i e => ∃ (L : List (List Str)) (u13 : Option D), e = [some (scrV ns), some (twn k4'), some TL, some (nD mo), some (nD many), some (bkD many BW), some (wsE S), u7, some (.dict (l2.map sD)), some (.list (K.map isD2)), some (nD (totL many BW tls)), some (nD (totL many [] tls)), some (.list (L.map tpE)), u13, none, none, none, none] ∧ L.length ≤ 2 ^ i ∧ ∀ os ∈ L, os.Nodup ∧ os.length ≤ mo ∧ ∀ w ∈ os, w ∈ U.take i) ⟨[[]], none, rfl, by simp, fun os hm => by rw [List.mem_singleton.mp hm]; exact ⟨List.nodup_nil, by simp, fun w hw => (by cases hw)⟩⟩ (fun i w e hx hI => ?_) (fun e hI => ?_)
      · obtain ⟨L, u13, rfl, hLl, hL⟩ := hI
        refine ⟨_, rfl, ?_⟩
        have hi : i < 8 := Nat.lt_of_lt_of_le (lt_of_get hx) hUl
        have hp2 : 2 ^ i ≤ 256 := Nat.le_trans (Nat.pow_le_pow_right (by omega) (show i ≤ 8 by omega)) (by decide)
        have ht : U.take (i + 1) = U.take i ++ [w] := by rw [List.take_succ, hx]; rfl
        have hnw : w ∉ U.take i := fun hm => by
          have h1 : (U.take (i + 1)).Nodup := hUn.sublist (List.take_sublist _ _)
          rw [ht] at h1
          exact (List.nodup_append.mp h1).2.2 w hm w (by simp) rfl
        have hitL : itemsOf (.list (L.map tpE)) = some (L.map tpE) := rfl
        have hC : compD (seqI (varD 12)) [16] (bName 16) (tstD (op2 ltD (opN lenD (consA (varD 16) (nilA))) (varD 3))) (op2 addD (varD 16) (tupD (consA (varD 13) (nilA)))) [some (scrV ns), some (twn k4'), some TL, some (nD mo), some (nD many), some (bkD many BW), some (wsE S), u7, some (.dict (l2.map sD)), some (.list (K.map isD2)), some (nD (totL many BW tls)), some (nD (totL many [] tls)), some (.list (L.map tpE)), some (.str w), none, none, none, none] = .ok (.list ((L.filter fun os => decide (os.length < mo)).map fun os => tpE (os ++ [w])), [some (scrV ns), some (twn k4'), some TL, some (nD mo), some (nD many), some (bkD many BW), some (wsE S), u7, some (.dict (l2.map sD)), some (.list (K.map isD2)), some (nD (totL many BW tls)), some (nD (totL many [] tls)), some (.list (L.map tpE)), some (.str w), none, none, none, none]) := by
          refine ofOk (Ok_compP tpE (fun os => decide (os.length < mo)) (fun os => tpE (os ++ [w])) L (by simp [hitL]) (by omega) (fun os hm => ⟨_, rfl, ?_, fun _ => ?_, rfl⟩) rfl rfl)
          · have e1 : lenD [tpE os] = some (nD os.length) := by
              show some (nD (os.map PyData.str).length) = _
              rw [List.length_map]
            simp [e1]
          · have e1 : addD (tpE os) (.tuple [.str w]) = some (tpE (os ++ [w])) := by
              have hle := (hL os hm).2.1
              show (if (os.map PyData.str).length + 1 ≤ 1000000 then some (PyData.tuple (os.map PyData.str ++ [.str w])) else none) = _
              rw [if_pos (by rw [List.length_map]; omega)]
              unfold tpE
              rw [List.map_append]
              rfl
            simp [e1]
        have hfl := List.length_filter_le (fun os : List Str => decide (os.length < mo)) L
        have hmm : ((L.filter fun os => decide (os.length < mo)).map fun os => tpE (os ++ [w])) = ((L.filter fun os => decide (os.length < mo)).map (· ++ [w])).map tpE := by rw [List.map_map]; rfl
        rw [hmm] at hC
        have had : addD (.list (L.map tpE)) (.list (((L.filter fun os => decide (os.length < mo)).map (· ++ [w])).map tpE)) = some (.list ((L ++ (L.filter fun os => decide (os.length < mo)).map (· ++ [w])).map tpE)) := by
          rw [addD_l _ _ (by simp only [List.length_map]; omega), List.map_append]
        simp only [ev_setS, ev_op2, ev_varD]
        simp [hC, had, -List.map_map, -List.map_append]
        refine ⟨L ++ (L.filter fun os => decide (os.length < mo)).map (· ++ [w]), rfl, ?_, fun os hm => ?_⟩
        · rw [List.length_append, List.length_map, Nat.pow_succ]
          omega
        · rw [ht]
          rcases List.mem_append.mp hm with z | z
          · exact ⟨(hL os z).1, (hL os z).2.1, fun x hx => List.mem_append_left _ ((hL os z).2.2 x hx)⟩
          · obtain ⟨o2, h2, rfl⟩ := List.mem_map.mp z
            obtain ⟨h3, h4⟩ := List.mem_filter.mp h2
            have h4 : o2.length < mo := by simpa using h4
            refine ⟨?_, by rw [List.length_append]; simp; omega, fun x hx => ?_⟩
            · rw [List.nodup_append]
              exact ⟨(hL o2 h3).1, by simp, fun a ha b hb z => by
                have : b = w := by simpa using hb
                rw [z, this] at ha
                exact hnw ((hL o2 h3).2.2 w ha)⟩
            · rcases List.mem_append.mp hx with y | y
              · exact List.mem_append_left _ ((hL o2 h3).2.2 x y)
              · exact List.mem_append_right _ y
      · obtain ⟨L, u13, rfl, hLl, hL⟩ := hI
        refine Ok_seq ?_
        have hcut60 : cutL (L.map tpE) none (some 60) = (L.take 60).map tpE := by
          rw [List.map_take]
          exact cut_to _ 60
        have hit60 : itemsOf (.list ((L.take 60).map tpE)) = some ((L.take 60).map tpE) := rfl
        simp [hcut60, hit60, -List.map_take]
        refine Ok_forL tpE (L.take 60) (fun i e => ∃ u14 : Option D, e = [some (scrV ns), some (twn k4'), some TL, some (nD mo), some (nD many), some (bkD many BW), some (wsE S), u7, some (.dict (l2.map sD)), some (.list (K.map isD2)), some (nD (totL many BW tls)), some (nD (totL many [] tls)), some (.list (L.map tpE)), u13, u14, none, none, none]) ⟨none, rfl⟩ (fun i os e hx hI => ?_) (fun e hI => ?_)
        · obtain ⟨u14, rfl⟩ := hI
          refine ⟨_, rfl, ?_⟩
          obtain ⟨h1, h2, h3⟩ := hL os (List.mem_of_mem_take (List.mem_of_getElem? hx))
          have Bo := bk os h1 h2 fun w hw => hUm w (List.mem_of_mem_take (h3 w hw))
          have hC : compD (seqI (varD 2)) [7] (bName 7) (yesT) (opN lenD (consA (callP d_put (consA (tupD (consA (varD 4) (consA (varD 14) (nilA)))) (consA (varD 7) (nilA)))) (nilA))) [some (scrV ns), some (twn k4'), some TL, some (nD mo), some (nD many), some (bkD many BW), some (wsE S), u7, some (.dict (l2.map sD)), some (.list (K.map isD2)), some (nD (totL many BW tls)), some (nD (totL many [] tls)), some (.list (L.map tpE)), u13, some (tpE os), none, none, none] = .ok (nlD (tls.map fun ws => (rowsW many os ws).length + 2), [some (scrV ns), some (twn k4'), some TL, some (nD mo), some (nD many), some (bkD many BW), some (wsE S), u7, some (.dict (l2.map sD)), some (.list (K.map isD2)), some (nD (totL many BW tls)), some (nD (totL many [] tls)), some (.list (L.map tpE)), u13, some (tpE os), none, none, none]) := by
            refine ofOk (Ok_compY wsE (fun ws => nD ((rowsW many os ws).length + 2)) tls (by simp [hit]) (by omega) (fun ws hm => ⟨_, rfl, ?_, rfl⟩) rfl (by unfold nlD; rw [List.map_map]; rfl))
            obtain ⟨ROW, p1, p2⟩ := len_put6 Bo h1 (by omega) (hw ws hm) (hw8 ws hm)
            have r0 : PyData.tuple [nD many, tpE os] = bkD many os := rfl
            simp [r0, p1, p2]
          have hsum : sumD [nlD (tls.map fun ws => (rowsW many os ws).length + 2)] = some (nD (totL many os tls)) := sum_nl6 _
          have t1 := htot os h1
          have t2 := hbest os h1 h2
          have hlt : ltD (nD (totL many os tls)) (nD (totL many BW tls)) = some (.bool false) := by rw [ltD_n, decide_eq_false (by omega)]
          rw [ev_ifS]
          simp only [ev_tstD, ev_op2, ev_opN, ev_consA, ev_nilA]
          simp [hC, hsum, hlt]
        · obtain ⟨u14, rfl⟩ := hI
          simp
  obtain ⟨d, e, rfl⟩ := key
  exact e
end Hz

namespace Hz
open PySem PySem.Spec PyProof.Rows L2
def topS (i : Nat) : Stmt := PySem.Challenge.pw_hillarms_k06_whole_best_books.main.body.getD i (.Pass ⟨0, 0, 0, 0⟩)
abbrev s_is_whole : Stmt := topS 7
theorem sc_is_whole : FnScope ["thing", "low", "most"] ["thing", "low", "most"] (defScope s_is_whole) := ⟨rfl, rfl, rfl, by decide +kernel, rfl, by decide +kernel, by decide +kernel⟩
abbrev s_is_word : Stmt := topS 8
theorem sc_is_word : FnScope ["thing", "letter"] ["thing"] (defScope s_is_word) := ⟨rfl, rfl, rfl, by decide +kernel, rfl, by decide +kernel, by decide +kernel⟩
abbrev s_two_signs : Stmt := topS 17
theorem sc_two_signs : FnScope ["many", "number"] ["many", "number"] (defScope s_two_signs) := ⟨rfl, rfl, rfl, by decide +kernel, rfl, by decide +kernel, by decide +kernel⟩
abbrev s_best_words : Stmt := topS 21
theorem sc_best_words : FnScope ["tellings", "most", "book", "words", "rows", "word", "saved"] ["tellings", "most"] (defScope s_best_words) := ⟨rfl, rfl, rfl, by decide +kernel, rfl, by decide +kernel, by decide +kernel⟩
abbrev s_law_cell_at : Stmt := topS 24
theorem sc_law_cell_at : FnScope ["script", "k"] ["script", "k"] (defScope s_law_cell_at) := ⟨rfl, rfl, rfl, by decide +kernel, rfl, by decide +kernel, by decide +kernel⟩
abbrev s_need_words : Stmt := topS 9
theorem sc_need_words : FnScope ["thing", "most", "word"] ["thing", "most"] (defScope s_need_words) := ⟨rfl, rfl, rfl, by decide +kernel, rfl, by decide +kernel, by decide +kernel⟩
abbrev s_is_book : Stmt := topS 15
theorem sc_is_book : FnScope ["thing", "words", "word"] ["thing"] (defScope s_is_book) := ⟨rfl, rfl, rfl, by decide +kernel, rfl, by decide +kernel, by decide +kernel⟩
abbrev s_word_row : Stmt := topS 18
theorem sc_word_row : FnScope ["book", "word", "made", "letter"] ["book", "word"] (defScope s_word_row) := ⟨rfl, rfl, rfl, by decide +kernel, rfl, by decide +kernel, by decide +kernel⟩
abbrev s_law_mixed : Stmt := topS 25
theorem sc_law_mixed : FnScope ["script", "k", "many", "drawn"] ["script", "k", "many"] (defScope s_law_mixed) := ⟨rfl, rfl, rfl, by decide +kernel, rfl, by decide +kernel, by decide +kernel⟩
abbrev s_need_book : Stmt := topS 16
theorem sc_need_book : FnScope ["thing"] ["thing"] (defScope s_need_book) := ⟨rfl, rfl, rfl, by decide +kernel, rfl, by decide +kernel, by decide +kernel⟩
abbrev s_row_of : Stmt := topS 19
theorem sc_row_of : FnScope ["book", "words", "made", "word"] ["book", "words"] (defScope s_row_of) := ⟨rfl, rfl, rfl, by decide +kernel, rfl, by decide +kernel, by decide +kernel⟩
abbrev s_best_book : Stmt := topS 22
theorem sc_best_book : FnScope ["many", "tellings", "most", "words"] ["many", "tellings", "most"] (defScope s_best_book) := ⟨rfl, rfl, rfl, by decide +kernel, rfl, by decide +kernel, by decide +kernel⟩
abbrev s_law_draw : Stmt := topS 26
theorem sc_law_draw : FnScope ["script", "town", "many"] ["script", "town", "many"] (defScope s_law_draw) := ⟨rfl, rfl, rfl, by decide +kernel, rfl, by decide +kernel, by decide +kernel⟩
abbrev s_put : Stmt := topS 20
theorem sc_put : FnScope ["book", "words"] ["book", "words"] (defScope s_put) := ⟨rfl, rfl, rfl, by decide +kernel, rfl, by decide +kernel, by decide +kernel⟩
abbrev s_law_pick : Stmt := topS 27
theorem sc_law_pick : FnScope ["script", "town", "some"] ["script", "town", "some"] (defScope s_law_pick) := ⟨rfl, rfl, rfl, by decide +kernel, rfl, by decide +kernel, by decide +kernel⟩
abbrev s_law_word : Stmt := topS 28
theorem sc_law_word : FnScope ["script", "town", "k"] ["script", "town"] (defScope s_law_word) := ⟨rfl, rfl, rfl, by decide +kernel, rfl, by decide +kernel, by decide +kernel⟩
abbrev s_law_words : Stmt := topS 29
theorem sc_law_words : FnScope ["script", "town", "most", "k"] ["script", "town", "most"] (defScope s_law_words) := ⟨rfl, rfl, rfl, by decide +kernel, rfl, by decide +kernel, by decide +kernel⟩
abbrev s_law : Stmt := topS 32
theorem sc_law : FnScope ["script", "town", "tellings", "most", "many", "book", "words", "some", "saved", "rows", "whole", "plain", "sets", "word", "one_set", "k", "row", "less_signs"] ["script"] (defScope s_law) := ⟨rfl, rfl, rfl, by decide +kernel, rfl, by decide +kernel, by decide +kernel⟩
structure Ad where
  f_is_whole : Addr
  d_is_whole : FuncData
  f_is_word : Addr
  d_is_word : FuncData
  f_two_signs : Addr
  d_two_signs : FuncData
  f_best_words : Addr
  d_best_words : FuncData
  f_law_cell_at : Addr
  d_law_cell_at : FuncData
  f_need_words : Addr
  d_need_words : FuncData
  f_is_book : Addr
  d_is_book : FuncData
  f_word_row : Addr
  d_word_row : FuncData
  f_law_mixed : Addr
  d_law_mixed : FuncData
  f_need_book : Addr
  d_need_book : FuncData
  f_row_of : Addr
  d_row_of : FuncData
  f_best_book : Addr
  d_best_book : FuncData
  f_law_draw : Addr
  d_law_draw : FuncData
  f_put : Addr
  d_put : FuncData
  f_law_pick : Addr
  d_law_pick : FuncData
  f_law_word : Addr
  d_law_word : FuncData
  f_law_words : Addr
  d_law_words : FuncData
  f_law : Addr
  d_law : FuncData
structure Tx (K : PySem.W.Frag) (mg : Str → Option Value) (cl : Nat → Addr) (a : Ad) : Prop where
  f_is_whole : FnF K mg "is_whole" s_is_whole ["thing", "low", "most"] a.f_is_whole a.d_is_whole
  f_is_word : FnF K mg "is_word" s_is_word ["thing"] a.f_is_word a.d_is_word
  f_two_signs : FnF K mg "two_signs" s_two_signs ["many", "number"] a.f_two_signs a.d_two_signs
  f_best_words : FnF K mg "best_words" s_best_words ["tellings", "most"] a.f_best_words a.d_best_words
  f_law_cell_at : FnF K mg "_law_cell_at" s_law_cell_at ["script", "k"] a.f_law_cell_at a.d_law_cell_at
  f_need_words : FnF K mg "need_words" s_need_words ["thing", "most"] a.f_need_words a.d_need_words
  f_is_book : FnF K mg "is_book" s_is_book ["thing"] a.f_is_book a.d_is_book
  f_word_row : FnF K mg "word_row" s_word_row ["book", "word"] a.f_word_row a.d_word_row
  f_law_mixed : FnF K mg "_law_mixed" s_law_mixed ["script", "k", "many"] a.f_law_mixed a.d_law_mixed
  f_need_book : FnF K mg "need_book" s_need_book ["thing"] a.f_need_book a.d_need_book
  f_row_of : FnF K mg "row_of" s_row_of ["book", "words"] a.f_row_of a.d_row_of
  f_best_book : FnF K mg "best_book" s_best_book ["many", "tellings", "most"] a.f_best_book a.d_best_book
  f_law_draw : FnF K mg "_law_draw" s_law_draw ["script", "town", "many"] a.f_law_draw a.d_law_draw
  f_put : FnF K mg "put" s_put ["book", "words"] a.f_put a.d_put
  f_law_pick : FnF K mg "_law_pick" s_law_pick ["script", "town", "some"] a.f_law_pick a.d_law_pick
  f_law_word : FnF K mg "_law_word" s_law_word ["script", "town"] a.f_law_word a.d_law_word
  f_law_words : FnF K mg "_law_words" s_law_words ["script", "town", "most"] a.f_law_words a.d_law_words
  f_law : FnF K mg "law" s_law ["script"] a.f_law a.d_law
  z_all : mg "all" = none
  z_bool : mg "bool" = none
  z_dict : mg "dict" = none
  z_int : mg "int" = none
  z_isinstance : mg "isinstance" = none
  z_len : mg "len" = none
  z_list : mg "list" = none
  z_min : mg "min" = none
  z_range : mg "range" = none
  z_set : mg "set" = none
  z_sorted : mg "sorted" = none
  z_str : mg "str" = none
  z_sum : mg "sum" = none
  z_tuple : mg "tuple" = none
  c_LEAST : ∃ t, mg "LEAST" = some (.int 6 t)
  c_LETTERS : ∃ t, mg "LETTERS" = some (.str "abcdefghijklmnopqrstuvwxyz" t)
  c_MOST : ∃ t, mg "MOST" = some (.int 12 t)
  c_TELLING : ∃ t, mg "TELLING" = some (.int 8 t)
  c_WORD : ∃ t, mg "WORD" = some (.int 8 t)
  c_WORDS : ∃ t, mg "WORDS" = some (.int 60 t)
  e_NoBook : ExF K mg "NoBook" (cl 0) []
  e_NoWords : ExF K mg "NoWords" (cl 1) []
section
variable {P : Program} {w : World} {K : PySem.W.Frag} {mg : Str → Option Value} {base : Heap} {cl : Nat → Addr} {a : Ad}
theorem ok_is_whole (T : Tx K mg cl a) : FnOk P w K mg base (L2N.CX P w) 2 a.f_is_whole a.d_is_whole ["thing", "low", "most"] (spP K cl 3 d_is_whole) :=
  fnP (oN := []) T.f_is_whole.fu sc_is_whole rfl (fun _ _ => rfl) fun cdv A outer s H E hr => ⟨_, (dss_one (ds_retO (de_and (de_isi T.z_isinstance T.z_int boot_int (de_v 0)) (de_and (de_not (de_isi T.z_isinstance T.z_bool boot_bool (de_v 0))) (de_one (de_chain op_le v_le op_le v_le (de_v 1) (de_v 0) (de_v 2)))))))⟩
theorem ok_is_word (T : Tx K mg cl a) : FnOk P w K mg base (L2N.CX P w) 2 a.f_is_word a.d_is_word ["thing"] (spP K cl 1 d_is_word) :=
  fnP (oN := []) T.f_is_word.fu sc_is_word rfl (fun _ _ => rfl) fun cdv A outer s H E hr => ⟨_, (dss_cons (ds_if (dt_w (dw_or (dt_not (dt_val (de_isi T.z_isinstance T.z_str boot_str (de_v 0)))) (dw_or1 (dt_not (dt_chain op_le v_le op_le v_le de_int (de_blt call_len2 v_len T.z_len boot_len (da_cons (de_v 0) da_nil)) (de_gint T.c_WORD)))))) (dss_one (ds_retO de_bl)) dss_nil) (dss_one (ds_retO (de_blt (cr_all rfl) v_all T.z_all boot_all (da_cons (de_new (dn_comp sc_is_word.nd (di_seq (de_v 0)) (blkOk_by (own := [("letter", 1)]) (N := ["thing", "letter"]) (sc := defScope s_is_word) (by decide +kernel)) (fun _ _ _ _ _ => (dg_name 1 sc_is_word.nd)) (fun _ _ _ _ _ => dts_nil) (fun _ _ _ _ _ => (de_cmp (op_inA (u65 hr)) v_in (de_v 1) (de_gstr T.c_LETTERS))))) da_nil)))))⟩
theorem ok_two_signs (T : Tx K mg cl a) : FnOk P w K mg base (L2N.CX P w) 2 a.f_two_signs a.d_two_signs ["many", "number"] (spP K cl 2 d_two_signs) :=
  fnP (oN := []) T.f_two_signs.fu sc_two_signs rfl (fun _ _ => rfl) fun cdv A outer s H E hr => ⟨_, (dss_one (ds_retO (de_lst (da_cons (de_bin op_fdiv v_fdiv (de_v 1) (de_v 0)) (da_cons (de_bin op_mod v_mod (de_v 1) (de_v 0)) da_nil)) (ln_le (ln_cons (ln_cons ln_nil)) (by decide)))))⟩
theorem ok_best_words (T : Tx K mg cl a) : FnOk P w K mg base (L2N.CX P w) 2 a.f_best_words a.d_best_words ["tellings", "most"] (spP K cl 2 d_best_words) :=
  fnP (oN := []) T.f_best_words.fu sc_best_words rfl (fun _ _ => rfl) fun cdv A outer s H E hr => ⟨_, (dss_cons (ds_setO 2 sc_best_words.nd dn_dK) (dss_cons (ds_for pwD (di_seq (de_v 0)) (dg_name 3 sc_best_words.nd) (dss_one (ds_for pwD (di_seq (de_v 3)) (dg_name 5 sc_best_words.nd) (dss_one (ds_dput 2 (hu_of hr) (by decide) (pv_own 2) (de_v 5) (de_bin op_sub v_sub (de_bin op_add2 v_add2 (de_dget2O 2 (hu_of hr) (by decide) (pv_own 2) (de_v 5) de_int) (de_bin op_mul2 v_mul2 de_int (de_blt call_len2 v_len T.z_len boot_len (da_cons (de_v 5) da_nil)))) de_int)))))) (dss_frz 2 (dss_cons (ds_set 4 sc_best_words.nd (de_new (dn_sortedPS T.z_sorted (de_new (dn_comp sc_best_words.nd (di_seq (de_new (dn_listK T.z_list (da_cons (de_v 2) da_nil)))) (blkOk_by (own := [("word", 5)]) (N := ["tellings", "most", "book", "words", "rows", "word", "saved"]) (sc := defScope s_best_words) (by decide +kernel)) (fun _ _ _ _ _ => (dg_name 5 sc_best_words.nd)) (fun _ _ _ _ _ => (dts_one (dt_cmp op_gt v_gt (de_dget (hu_of hr) (de_v 2) (de_v 5)) de_int))) (fun _ _ _ _ _ => (de_tup (da_cons (de_bin op_sub v_sub de_int (de_dget (hu_of hr) (de_v 2) (de_v 5))) (da_cons (de_v 5) da_nil)) (ln_le (ln_cons (ln_cons ln_nil)) (by decide))))))))) (dss_one (ds_retO (de_bty call_tuple_ofP v_tuple T.z_tuple boot_tuple (da_cons (de_new (dn_sortedTx T.z_sorted (de_new (dn_comp sc_best_words.nd (di_seq (de_cut (de_v 4) do_no (do_some (de_v 1)))) (blkOk_by (own := [("saved", 6), ("word", 5)]) (N := ["tellings", "most", "book", "words", "rows", "word", "saved"]) (sc := defScope s_best_words) (by decide +kernel)) (fun _ _ _ _ _ => (dg_tup (dgs_cons (dg_name 6 sc_best_words.nd) (dgs_cons (dg_name 5 sc_best_words.nd) dgs_nil)))) (fun _ _ _ _ _ => dts_nil) (fun _ _ _ _ _ => (de_v 5)))))) da_nil))))))))⟩
theorem ok_law_cell_at (T : Tx K mg cl a) : FnOk P w K mg base (L2N.CX P w) 2 a.f_law_cell_at a.d_law_cell_at ["script", "k"] (spP K cl 2 d_law_cell_at) :=
  fnP (oN := []) T.f_law_cell_at.fu sc_law_cell_at rfl (fun _ _ => rfl) fun cdv A outer s H E hr => ⟨_, (dss_cons (ds_if (dt_cmp (op_lt2 hr.units0) v_lt2 (de_v 1) (de_blt call_len2 v_len T.z_len boot_len (da_cons (de_v 0) da_nil))) (dss_one (ds_retO (de_idx (de_v 0) (de_v 1)))) dss_nil) (dss_cons (ds_if (dt_cmp (op_eqD hr.units) v_eq (de_v 0) (de_lst da_nil (ln_le ln_nil (by decide)))) (dss_one (ds_retO de_int)) dss_nil) (dss_one (ds_retO (de_bin op_add2 v_add2 (de_bin op_mul2 v_mul2 (de_idx (de_v 0) (de_bin op_mod v_mod (de_v 1) (de_blt call_len2 v_len T.z_len boot_len (da_cons (de_v 0) da_nil)))) de_int) (de_v 1))))))⟩
theorem ok_need_words (T : Tx K mg cl a) : FnOk P w K mg base (L2N.CX P w) 3 a.f_need_words a.d_need_words ["thing", "most"] (spP K cl 2 d_need_words) :=
  fnP (oN := []) T.f_need_words.fu sc_need_words rfl (fun _ _ => rfl) fun cdv A outer s H E hr => ⟨_, (dss_one (ds_if (dt_w (dw_or (dt_not (dt_val (de_isi T.z_isinstance T.z_list boot_list (de_v 0)))) (dw_or (dt_cmp op_gt v_gt (de_blt call_len2 v_len T.z_len boot_len (da_cons (de_v 0) da_nil)) (de_v 1)) (dw_or1 (dt_not (dt_val (de_blt (cr_all rfl) v_all T.z_all boot_all (da_cons (de_new (dn_comp sc_need_words.nd (di_seq (de_v 0)) (blkOk_by (own := [("word", 2)]) (N := ["thing", "most", "word"]) (sc := defScope s_need_words) (by decide +kernel)) (fun _ _ _ _ _ => (dg_name 2 sc_need_words.nd)) (fun _ _ _ _ _ => dts_nil) (fun _ _ _ _ _ => (de_callP ((ok_is_word T).mono (by decide)) hr T.f_is_word.gl T.f_is_word.fu.kp T.f_is_word.bi tkF (da_cons (de_v 2) da_nil) (ln_cons ln_nil))))) da_nil)))))))) (dss_one (ds_raiseE (k := 1) T.e_NoWords tkD)) dss_nil))⟩
theorem ok_is_book (T : Tx K mg cl a) : FnOk P w K mg base (L2N.CX P w) 3 a.f_is_book a.d_is_book ["thing"] (spP K cl 1 d_is_book) :=
  fnP (oN := []) T.f_is_book.fu sc_is_book rfl (fun _ _ => rfl) fun cdv A outer s H E hr => ⟨_, (dss_cons (ds_if (dt_w (dw_or (dt_not (dt_val (de_isi T.z_isinstance T.z_tuple boot_tuple (de_v 0)))) (dw_or (dt_cmp (op_neD hr.units) v_ne (de_blt call_len2 v_len T.z_len boot_len (da_cons (de_v 0) da_nil)) de_int) (dw_or1 (dt_not (dt_val (de_callP ((ok_is_whole T).mono (by decide)) hr T.f_is_whole.gl T.f_is_whole.fu.kp T.f_is_whole.bi tkD (da_cons (de_idx (de_v 0) de_int) (da_cons (de_gint T.c_LEAST) (da_cons (de_gint T.c_MOST) da_nil))) (ln_cons (ln_cons (ln_cons ln_nil)))))))))) (dss_one (ds_retO de_bl)) dss_nil) (dss_cons (ds_set 1 sc_is_book.nd (de_idx (de_v 0) de_int)) (dss_cons (ds_if (dt_w (dw_or (dt_not (dt_val (de_isi T.z_isinstance T.z_tuple boot_tuple (de_v 1)))) (dw_or1 (dt_cmp op_gt v_gt (de_blt call_len2 v_len T.z_len boot_len (da_cons (de_v 1) da_nil)) (de_blt (call_minA rfl) v_min T.z_min boot_min (da_cons (de_gint T.c_WORDS) (da_cons (de_bin op_mul2 v_mul2 (de_idx (de_v 0) de_int) (de_idx (de_v 0) de_int)) da_nil))))))) (dss_one (ds_retO de_bl)) dss_nil) (dss_one (ds_retO (de_and (de_blt (cr_all rfl) v_all T.z_all boot_all (da_cons (de_new (dn_comp sc_is_book.nd (di_seq (de_v 1)) (blkOk_by (own := [("word", 2)]) (N := ["thing", "words", "word"]) (sc := defScope s_is_book) (by decide +kernel)) (fun _ _ _ _ _ => (dg_name 2 sc_is_book.nd)) (fun _ _ _ _ _ => dts_nil) (fun _ _ _ _ _ => (de_callP ((ok_is_word T).mono (by decide)) hr T.f_is_word.gl T.f_is_word.fu.kp T.f_is_word.bi tkF (da_cons (de_v 2) da_nil) (ln_cons ln_nil))))) da_nil)) (de_one (de_cmp (op_eqD hr.units) v_eq (de_lenSet T.z_len T.z_set (de_v 1)) (de_blt call_len2 v_len T.z_len boot_len (da_cons (de_v 1) da_nil))))))))))⟩
theorem ok_word_row (T : Tx K mg cl a) : FnOk P w K mg base (L2N.CX P w) 3 a.f_word_row a.d_word_row ["book", "word"] (spP K cl 2 d_word_row) :=
  fnP (oN := []) T.f_word_row.fu sc_word_row rfl (fun _ _ => rfl) fun cdv A outer s H E hr => ⟨_, (dss_cons (ds_if (dt_cmp (op_inA (u65 hr)) v_in (de_v 1) (de_idx (de_v 0) de_int)) (dss_one (ds_retO (de_bin op_add2 v_add2 (de_lst (da_cons de_str da_nil) (ln_le (ln_cons ln_nil) (by decide))) (de_callP ((ok_two_signs T).mono (by decide)) hr T.f_two_signs.gl T.f_two_signs.fu.kp T.f_two_signs.bi tkD (da_cons (de_idx (de_v 0) de_int) (da_cons (de_m_tix hr (de_idx (de_v 0) de_int) (de_v 1)) da_nil)) (ln_cons (ln_cons ln_nil)))))) dss_nil) (dss_cons (ds_setO 2 sc_word_row.nd (dn_lst (da_cons de_str da_nil) (ln_le (ln_cons ln_nil) (by decide)))) (dss_cons (ds_for pwD (di_seq (de_v 1)) (dg_name 3 sc_word_row.nd) (dss_one (ds_ext 2 (by decide) (pv_own 2) (de_callP ((ok_two_signs T).mono (by decide)) hr T.f_two_signs.gl T.f_two_signs.fu.kp T.f_two_signs.bi tkD (da_cons (de_idx (de_v 0) de_int) (da_cons (de_m_six hr (de_gstr T.c_LETTERS) (de_v 3)) da_nil)) (ln_cons (ln_cons ln_nil)))))) (dss_frz 2 (dss_one (ds_retO (de_v 2)))))))⟩
theorem ok_law_mixed (T : Tx K mg cl a) : FnOk P w K mg base (L2N.CX P w) 3 a.f_law_mixed a.d_law_mixed ["script", "k", "many"] (spP K cl 3 d_law_mixed) :=
  fnP (oN := []) T.f_law_mixed.fu sc_law_mixed rfl (fun _ _ => rfl) fun cdv A outer s H E hr => ⟨_, (dss_cons (ds_set 3 sc_law_mixed.nd (de_bin op_mod v_mod (de_bin op_add2 v_add2 (de_bin op_add2 v_add2 (de_bin op_mul2 v_mul2 (de_callP ((ok_law_cell_at T).mono (by decide)) hr T.f_law_cell_at.gl T.f_law_cell_at.fu.kp T.f_law_cell_at.bi tkD (da_cons (de_v 0) (da_cons (de_v 1) da_nil)) (ln_cons (ln_cons ln_nil))) de_int) (de_bin op_mul2 v_mul2 de_int (de_v 1))) de_int) de_int)) (dss_one (ds_retO (de_bin op_mod v_mod (de_bin op_mod v_mod (de_bin op_mod v_mod (de_bin op_pow v_pow (de_v 3) de_int) de_int) de_int) (de_v 2)))))⟩
theorem ok_need_book (T : Tx K mg cl a) : FnOk P w K mg base (L2N.CX P w) 4 a.f_need_book a.d_need_book ["thing"] (spP K cl 1 d_need_book) :=
  fnP (oN := []) T.f_need_book.fu sc_need_book rfl (fun _ _ => rfl) fun cdv A outer s H E hr => ⟨_, (dss_one (ds_if (dt_not (dt_val (de_callP ((ok_is_book T).mono (by decide)) hr T.f_is_book.gl T.f_is_book.fu.kp T.f_is_book.bi tkD (da_cons (de_v 0) da_nil) (ln_cons ln_nil)))) (dss_one (ds_raiseE (k := 0) T.e_NoBook tkD)) dss_nil))⟩
theorem ok_row_of (T : Tx K mg cl a) : FnOk P w K mg base (L2N.CX P w) 4 a.f_row_of a.d_row_of ["book", "words"] (spP K cl 2 d_row_of) :=
  fnP (oN := []) T.f_row_of.fu sc_row_of rfl (fun _ _ => rfl) fun cdv A outer s H E hr => ⟨_, (dss_cons (ds_setO 2 sc_row_of.nd (dn_lst (da_cons de_str da_nil) (ln_le (ln_cons ln_nil) (by decide)))) (dss_cons (ds_for pwD (di_seq (de_v 1)) (dg_name 3 sc_row_of.nd) (dss_one (ds_ext 2 (by decide) (pv_own 2) (de_callP ((ok_word_row T).mono (by decide)) hr T.f_word_row.gl T.f_word_row.fu.kp T.f_word_row.bi tkD (da_cons (de_v 0) (da_cons (de_v 3) da_nil)) (ln_cons (ln_cons ln_nil)))))) (dss_frz 2 (dss_one (ds_retO (de_bin op_add2 v_add2 (de_v 2) (de_lst (da_cons de_str da_nil) (ln_le (ln_cons ln_nil) (by decide)))))))))⟩
theorem ok_best_book (T : Tx K mg cl a) : FnOk P w K mg base (L2N.CX P w) 4 a.f_best_book a.d_best_book ["many", "tellings", "most"] (spP K cl 3 d_best_book) :=
  fnP (oN := []) T.f_best_book.fu sc_best_book rfl (fun _ _ => rfl) fun cdv A outer s H E hr => ⟨_, (dss_cons (ds_if (dt_not (dt_val (de_callP ((ok_is_whole T).mono (by decide)) hr T.f_is_whole.gl T.f_is_whole.fu.kp T.f_is_whole.bi tkD (da_cons (de_v 0) (da_cons (de_gint T.c_LEAST) (da_cons (de_gint T.c_MOST) da_nil))) (ln_cons (ln_cons (ln_cons ln_nil)))))) (dss_one (ds_raiseE (k := 0) T.e_NoBook tkD)) dss_nil) (dss_cons (ds_if (dt_not (dt_val (de_callP ((ok_is_whole T).mono (by decide)) hr T.f_is_whole.gl T.f_is_whole.fu.kp T.f_is_whole.bi tkD (da_cons (de_v 2) (da_cons de_int (da_cons (de_blt (call_minA rfl) v_min T.z_min boot_min (da_cons (de_gint T.c_WORDS) (da_cons (de_bin op_mul2 v_mul2 (de_v 0) (de_v 0)) da_nil))) da_nil))) (ln_cons (ln_cons (ln_cons ln_nil)))))) (dss_one (ds_raiseE (k := 0) T.e_NoBook tkD)) dss_nil) (dss_cons (ds_if (dt_not (dt_val (de_isi T.z_isinstance T.z_list boot_list (de_v 1)))) (dss_one (ds_expr (de_callP ((ok_need_words T).mono (by decide)) hr T.f_need_words.gl T.f_need_words.fu.kp T.f_need_words.bi tkD (da_cons de_non (da_cons de_int da_nil)) (ln_cons (ln_cons ln_nil))))) dss_nil) (dss_cons (ds_for pwD (di_seq (de_v 1)) (dg_name 3 sc_best_book.nd) (dss_one (ds_expr (de_callP ((ok_need_words T).mono (by decide)) hr T.f_need_words.gl T.f_need_words.fu.kp T.f_need_words.bi tkD (da_cons (de_v 3) (da_cons (de_gint T.c_TELLING) da_nil)) (ln_cons (ln_cons ln_nil)))))) (dss_one (ds_retO (de_tup (da_cons (de_v 0) (da_cons (de_callP ((ok_best_words T).mono (by decide)) hr T.f_best_words.gl T.f_best_words.fu.kp T.f_best_words.bi tkD (da_cons (de_v 1) (da_cons (de_v 2) da_nil)) (ln_cons (ln_cons ln_nil))) da_nil)) (ln_le (ln_cons (ln_cons ln_nil)) (by decide)))))))))⟩
theorem ok_law_draw (T : Tx K mg cl a) : FnOk P w K mg base (L2N.CX P w) 4 a.f_law_draw a.d_law_draw ["script", "town", "many"] (spT K cl 1 3 d_law_draw) :=
  fnT (oN := [1]) T.f_law_draw.fu sc_law_draw rfl (fun _ _ => rfl) (by decide) fun cdv A outer s H E hr => ⟨_, (dss_cons (ds_app 1 (by decide) (pv_own 1) de_int) (dss_one (ds_retO (de_callP ((ok_law_mixed T).mono (by decide)) hr T.f_law_mixed.gl T.f_law_mixed.fu.kp T.f_law_mixed.bi tkD (da_cons (de_v 0) (da_cons (de_bltO 1 call_len2 v_len T.z_len boot_len (by decide) (pv_own 1)) (da_cons (de_v 2) da_nil))) (ln_cons (ln_cons (ln_cons ln_nil)))))))⟩
theorem ok_put (T : Tx K mg cl a) : FnOk P w K mg base (L2N.CX P w) 5 a.f_put a.d_put ["book", "words"] (spP K cl 2 d_put) :=
  fnP (oN := []) T.f_put.fu sc_put rfl (fun _ _ => rfl) fun cdv A outer s H E hr => ⟨_, (dss_cons (ds_expr (de_callP ((ok_need_book T).mono (by decide)) hr T.f_need_book.gl T.f_need_book.fu.kp T.f_need_book.bi tkD (da_cons (de_v 0) da_nil) (ln_cons ln_nil))) (dss_cons (ds_expr (de_callP ((ok_need_words T).mono (by decide)) hr T.f_need_words.gl T.f_need_words.fu.kp T.f_need_words.bi tkD (da_cons (de_v 1) (da_cons (de_gint T.c_TELLING) da_nil)) (ln_cons (ln_cons ln_nil)))) (dss_one (ds_retO (de_callP ((ok_row_of T).mono (by decide)) hr T.f_row_of.gl T.f_row_of.fu.kp T.f_row_of.bi tkD (da_cons (de_v 0) (da_cons (de_v 1) da_nil)) (ln_cons (ln_cons ln_nil)))))))⟩
theorem ok_law_pick (T : Tx K mg cl a) : FnOk P w K mg base (L2N.CX P w) 5 a.f_law_pick a.d_law_pick ["script", "town", "some"] (spT K cl 1 3 d_law_pick) :=
  fnT (oN := [1]) T.f_law_pick.fu sc_law_pick rfl (fun _ _ => rfl) (by decide) fun cdv A outer s H E hr => ⟨_, (dss_one (ds_retO (de_idx (de_v 2) (de_callT (i := 1) ((ok_law_draw T).mono (by decide)) hr T.f_law_draw.gl T.f_law_draw.fu.kp T.f_law_draw.bi tkD (by decide) (de_v 0) (da_cons (de_blt call_len2 v_len T.z_len boot_len (da_cons (de_v 2) da_nil)) da_nil) (ln_2 (ln_cons ln_nil))))))⟩
theorem ok_law_word (T : Tx K mg cl a) : FnOk P w K mg base (L2N.CX P w) 6 a.f_law_word a.d_law_word ["script", "town"] (spT K cl 1 2 d_law_word) :=
  fnT (oN := [1]) T.f_law_word.fu sc_law_word rfl (fun _ _ => rfl) (by decide) fun cdv A outer s H E hr => ⟨_, (dss_cons (ds_if (dt_cmp op_gt v_gt (de_callT (i := 1) ((ok_law_draw T).mono (by decide)) hr T.f_law_draw.gl T.f_law_draw.fu.kp T.f_law_draw.bi tkD (by decide) (de_v 0) (da_cons de_int da_nil) (ln_2 (ln_cons ln_nil))) de_int) (dss_one (ds_retO (de_callT (i := 1) ((ok_law_pick T).mono (by decide)) hr T.f_law_pick.gl T.f_law_pick.fu.kp T.f_law_pick.bi tkD (by decide) (de_v 0) (da_cons (de_lst (da_cons de_str (da_cons de_str (da_cons de_str (da_cons de_str (da_cons de_str (da_cons de_str (da_cons de_str da_nil))))))) (ln_le (ln_cons (ln_cons (ln_cons (ln_cons (ln_cons (ln_cons (ln_cons ln_nil))))))) (by decide))) da_nil) (ln_2 (ln_cons ln_nil))))) dss_nil) (dss_one (ds_retO (de_m_join hr de_str (de_new (dn_comp sc_law_word.nd (di_rng1 T.z_range (da_cons (de_bin op_add2 v_add2 de_int (de_callT (i := 1) ((ok_law_draw T).mono (by decide)) hr T.f_law_draw.gl T.f_law_draw.fu.kp T.f_law_draw.bi tkD (by decide) (de_v 0) (da_cons de_int da_nil) (ln_2 (ln_cons ln_nil)))) da_nil)) (blkOk_by (own := [("k", 2)]) (N := ["script", "town", "k"]) (sc := defScope s_law_word) (by decide +kernel)) (fun _ _ _ _ _ => (dg_name 2 sc_law_word.nd)) (fun _ _ _ _ _ => dts_nil) (fun _ _ _ _ _ => (de_callT (i := 1) ((ok_law_pick T).mono (by decide)) hr T.f_law_pick.gl T.f_law_pick.fu.kp T.f_law_pick.bi tkF (by decide) (de_v 0) (da_cons (de_new (dn_listS T.z_list (da_cons de_str da_nil))) da_nil) (ln_2 (ln_cons ln_nil))))))))))⟩
theorem ok_law_words (T : Tx K mg cl a) : FnOk P w K mg base (L2N.CX P w) 7 a.f_law_words a.d_law_words ["script", "town", "most"] (spT K cl 1 3 d_law_words) :=
  fnT (oN := [1]) T.f_law_words.fu sc_law_words rfl (fun _ _ => rfl) (by decide) fun cdv A outer s H E hr => ⟨_, (dss_one (ds_retO (de_new (dn_comp sc_law_words.nd (di_rng1 T.z_range (da_cons (de_callT (i := 1) ((ok_law_draw T).mono (by decide)) hr T.f_law_draw.gl T.f_law_draw.fu.kp T.f_law_draw.bi tkD (by decide) (de_v 0) (da_cons (de_bin op_add2 v_add2 (de_v 2) de_int) da_nil) (ln_2 (ln_cons ln_nil))) da_nil)) (blkOk_by (own := [("k", 3)]) (N := ["script", "town", "most", "k"]) (sc := defScope s_law_words) (by decide +kernel)) (fun _ _ _ _ _ => (dg_name 3 sc_law_words.nd)) (fun _ _ _ _ _ => dts_nil) (fun _ _ _ _ _ => (de_callT (i := 1) ((ok_law_word T).mono (by decide)) hr T.f_law_word.gl T.f_law_word.fu.kp T.f_law_word.bi tkF (by decide) (de_v 0) da_nil (ln_2 ln_nil)))))))⟩
theorem ok_law (T : Tx K mg cl a) : FnOk P w K mg base (L2N.CX P w) 8 a.f_law a.d_law ["script"] (spP K cl 1 d_law) :=
  fnP (oN := []) T.f_law.fu sc_law rfl (fun _ _ => rfl) fun cdv A outer s H E hr => ⟨_, (dss_cons (ds_setO 1 sc_law.nd (dn_lst da_nil (ln_le ln_nil (by decide)))) (dss_cons (ds_setLc 2 sc_law.nd (di_rng1 T.z_range (da_cons (de_callT (i := 1) ((ok_law_draw T).mono (by decide)) hr T.f_law_draw.gl T.f_law_draw.fu.kp T.f_law_draw.bi tkD (by decide) (de_v 0) (da_cons de_int da_nil) (ln_2 (ln_cons ln_nil))) da_nil)) (blkOk_by (own := [("k", 15)]) (N := ["script", "town", "tellings", "most", "many", "book", "words", "some", "saved", "rows", "whole", "plain", "sets", "word", "one_set", "k", "row", "less_signs"]) (sc := defScope s_law) (by decide +kernel)) (fun _ _ _ _ _ => (dg_name 15 sc_law.nd)) (fun _ _ _ _ _ => dts_nil) (fun _ _ _ _ _ => (de_callT (i := 1) ((ok_law_words T).mono (by decide)) hr T.f_law_words.gl T.f_law_words.fu.kp T.f_law_words.bi tkF (by decide) (de_v 0) (da_cons de_int da_nil) (ln_2 (ln_cons ln_nil))))) (dss_cons (ds_set 3 sc_law.nd (de_callT (i := 1) ((ok_law_draw T).mono (by decide)) hr T.f_law_draw.gl T.f_law_draw.fu.kp T.f_law_draw.bi tkD (by decide) (de_v 0) (da_cons de_int da_nil) (ln_2 (ln_cons ln_nil)))) (dss_cons (ds_set 4 sc_law.nd (de_bin op_add2 v_add2 de_int (de_callT (i := 1) ((ok_law_draw T).mono (by decide)) hr T.f_law_draw.gl T.f_law_draw.fu.kp T.f_law_draw.bi tkD (by decide) (de_v 0) (da_cons de_int da_nil) (ln_2 (ln_cons ln_nil))))) (dss_cons (ds_set 5 sc_law.nd (de_callP ((ok_best_book T).mono (by decide)) hr T.f_best_book.gl T.f_best_book.fu.kp T.f_best_book.bi tkD (da_cons (de_v 4) (da_cons (de_v 2) (da_cons (de_v 3) da_nil))) (ln_cons (ln_cons (ln_cons ln_nil))))) (dss_cons (ds_setO 6 sc_law.nd (dn_lst da_nil (ln_le ln_nil (by decide)))) (dss_cons (ds_for pwD (di_seq (de_v 2)) (dg_name 7 sc_law.nd) (dss_one (ds_ext 6 (by decide) (pv_own 6) (de_v 7)))) (dss_cons (ds_if (dt_w (dw_or (dt_not (dt_val (de_callP ((ok_is_book T).mono (by decide)) hr T.f_is_book.gl T.f_is_book.fu.kp T.f_is_book.bi tkD (da_cons (de_v 5) da_nil) (ln_cons ln_nil)))) (dw_or (dt_cmp (op_neD hr.units) v_ne (de_idx (de_v 5) de_int) (de_v 4)) (dw_or (dt_cmp op_gt v_gt (de_blt call_len2 v_len T.z_len boot_len (da_cons (de_idx (de_v 5) de_int) da_nil)) (de_v 3)) (dw_or1 (dt_cmp (op_neD hr.units) v_ne (de_new (dn_list T.z_list (da_cons (de_idx (de_v 5) de_int) da_nil))) (de_new (dn_sortedTTx T.z_sorted (de_idx (de_v 5) de_int))))))))) (dss_one (ds_retO de_bl)) dss_nil) (dss_cons (ds_if (dt_cmp (op_neD hr.units) v_ne (de_new (dn_comp sc_law.nd (di_seq (de_idx (de_v 5) de_int)) (blkOk_by (own := [("word", 13)]) (N := ["script", "town", "tellings", "most", "many", "book", "words", "some", "saved", "rows", "whole", "plain", "sets", "word", "one_set", "k", "row", "less_signs"]) (sc := defScope s_law) (by decide +kernel)) (fun _ _ _ _ _ => (dg_name 13 sc_law.nd)) (fun _ _ _ _ _ => (dts_one (dt_w (dw_or (dt_cmpOR 6 (op_notInA (u65 hr)) v_notIn (by decide) (de_v 13) (pv_own 6)) (dw_or1 (dt_cmp (op_eqD hr.units) v_eq (de_blt call_len2 v_len T.z_len boot_len (da_cons (de_v 13) da_nil)) de_int)))))) (fun _ _ _ _ _ => (de_v 13)))) (de_lst da_nil (ln_le ln_nil (by decide)))) (dss_one (ds_retO de_bl)) dss_nil) (dss_frz 6 (dss_cons (ds_set 8 sc_law.nd (de_new (dn_dict T.z_dict (da_cons (de_new (dn_comp sc_law.nd (di_seq (de_v 6)) (blkOk_by (own := [("word", 13)]) (N := ["script", "town", "tellings", "most", "many", "book", "words", "some", "saved", "rows", "whole", "plain", "sets", "word", "one_set", "k", "row", "less_signs"]) (sc := defScope s_law) (by decide +kernel)) (fun _ _ _ _ _ => (dg_name 13 sc_law.nd)) (fun _ _ _ _ _ => dts_nil) (fun _ _ _ _ _ => (de_tup (da_cons (de_v 13) (da_cons (de_bin op_mul2 v_mul2 (de_m_lcnt (de_v 6) (de_v 13)) (de_bin op_sub v_sub (de_bin op_mul2 v_mul2 de_int (de_blt call_len2 v_len T.z_len boot_len (da_cons (de_v 13) da_nil))) de_int)) da_nil)) (ln_le (ln_cons (ln_cons ln_nil)) (by decide)))))) da_nil)))) (dss_cons (ds_set 9 sc_law.nd (de_cut (de_new (dn_sortedPS T.z_sorted (de_new (dn_compK 8 sc_law.nd (pv_own 8) (blkOk_by (own := [("word", 13)]) (N := ["script", "town", "tellings", "most", "many", "book", "words", "some", "saved", "rows", "whole", "plain", "sets", "word", "one_set", "k", "row", "less_signs"]) (sc := defScope s_law) (by decide +kernel)) (fun _ _ _ _ _ => (dg_name 13 sc_law.nd)) (fun _ _ _ _ _ => (dts_one (dt_cmp op_gt v_gt (de_dget (hu_of hr) (de_v 8) (de_v 13)) de_int))) (fun _ _ _ _ _ => (de_tup (da_cons (de_bin op_sub v_sub de_int (de_dget (hu_of hr) (de_v 8) (de_v 13))) (da_cons (de_v 13) da_nil)) (ln_le (ln_cons (ln_cons ln_nil)) (by decide)))))))) do_no (do_some (de_v 3)))) (dss_cons (ds_if (dt_cmp (op_neD hr.units) v_ne (de_new (dn_sortedTx T.z_sorted (de_new (dn_comp sc_law.nd (di_seq (de_v 9)) (blkOk_by (own := [("less_signs", 17), ("word", 13)]) (N := ["script", "town", "tellings", "most", "many", "book", "words", "some", "saved", "rows", "whole", "plain", "sets", "word", "one_set", "k", "row", "less_signs"]) (sc := defScope s_law) (by decide +kernel)) (fun _ _ _ _ _ => (dg_tup (dgs_cons (dg_name 17 sc_law.nd) (dgs_cons (dg_name 13 sc_law.nd) dgs_nil)))) (fun _ _ _ _ _ => dts_nil) (fun _ _ _ _ _ => (de_v 13)))))) (de_new (dn_list T.z_list (da_cons (de_idx (de_v 5) de_int) da_nil)))) (dss_one (ds_retO de_bl)) dss_nil) (dss_cons (ds_set 10 sc_law.nd (de_blt (cr_sum rfl) v_sum T.z_sum boot_sum (da_cons (de_new (dn_comp sc_law.nd (di_seq (de_v 2)) (blkOk_by (own := [("some", 7)]) (N := ["script", "town", "tellings", "most", "many", "book", "words", "some", "saved", "rows", "whole", "plain", "sets", "word", "one_set", "k", "row", "less_signs"]) (sc := defScope s_law) (by decide +kernel)) (fun _ _ _ _ _ => (dg_name 7 sc_law.nd)) (fun _ _ _ _ _ => dts_nil) (fun _ _ _ _ _ => (de_blt call_len2 v_len T.z_len boot_len (da_cons (de_callP ((ok_put T).mono (by decide)) hr T.f_put.gl T.f_put.fu.kp T.f_put.bi tkF (da_cons (de_v 5) (da_cons (de_v 7) da_nil)) (ln_cons (ln_cons ln_nil))) da_nil))))) da_nil))) (dss_cons (ds_set 11 sc_law.nd (de_blt (cr_sum rfl) v_sum T.z_sum boot_sum (da_cons (de_new (dn_comp sc_law.nd (di_seq (de_v 2)) (blkOk_by (own := [("some", 7)]) (N := ["script", "town", "tellings", "most", "many", "book", "words", "some", "saved", "rows", "whole", "plain", "sets", "word", "one_set", "k", "row", "less_signs"]) (sc := defScope s_law) (by decide +kernel)) (fun _ _ _ _ _ => (dg_name 7 sc_law.nd)) (fun _ _ _ _ _ => dts_nil) (fun _ _ _ _ _ => (de_blt call_len2 v_len T.z_len boot_len (da_cons (de_callP ((ok_put T).mono (by decide)) hr T.f_put.gl T.f_put.fu.kp T.f_put.bi tkF (da_cons (de_tup (da_cons (de_v 4) (da_cons (de_tup da_nil (ln_le ln_nil (by decide))) da_nil)) (ln_le (ln_cons (ln_cons ln_nil)) (by decide))) (da_cons (de_v 7) da_nil)) (ln_cons (ln_cons ln_nil))) da_nil))))) da_nil))) (dss_cons (ds_if (dt_cmp (op_neD hr.units) v_ne (de_bin op_sub v_sub (de_v 11) (de_v 10)) (de_blt (cr_sum rfl) v_sum T.z_sum boot_sum (da_cons (de_new (dn_comp sc_law.nd (di_seq (de_idx (de_v 5) de_int)) (blkOk_by (own := [("word", 13)]) (N := ["script", "town", "tellings", "most", "many", "book", "words", "some", "saved", "rows", "whole", "plain", "sets", "word", "one_set", "k", "row", "less_signs"]) (sc := defScope s_law) (by decide +kernel)) (fun _ _ _ _ _ => (dg_name 13 sc_law.nd)) (fun _ _ _ _ _ => dts_nil) (fun _ _ _ _ _ => (de_dget (hu_of hr) (de_v 8) (de_v 13))))) da_nil))) (dss_one (ds_retO de_bl)) dss_nil) (dss_cons (ds_set 12 sc_law.nd (de_lst (da_cons (de_tup da_nil (ln_le ln_nil (by decide))) da_nil) (ln_le (ln_cons ln_nil) (by decide)))) (dss_cons (ds_for pwD (di_seq (de_cut (de_new (dn_sortedSetX T.z_sorted T.z_set (de_v 6))) do_no (do_some de_int))) (dg_name 13 sc_law.nd) (dss_one (ds_set 12 sc_law.nd (de_bin op_add2 v_add2 (de_v 12) (de_new (dn_comp sc_law.nd (di_seq (de_v 12)) (blkOk_by (own := [("row", 16)]) (N := ["script", "town", "tellings", "most", "many", "book", "words", "some", "saved", "rows", "whole", "plain", "sets", "word", "one_set", "k", "row", "less_signs"]) (sc := defScope s_law) (by decide +kernel)) (fun _ _ _ _ _ => (dg_name 16 sc_law.nd)) (fun _ _ _ _ _ => (dts_one (dt_cmp (op_lt2 hr.units0) v_lt2 (de_blt call_len2 v_len T.z_len boot_len (da_cons (de_v 16) da_nil)) (de_v 3)))) (fun _ _ _ _ _ => (de_bin op_add2 v_add2 (de_v 16) (de_tup (da_cons (de_v 13) da_nil) (ln_le (ln_cons ln_nil) (by decide))))))))))) (dss_cons (ds_for pwD (di_seq (de_cut (de_v 12) do_no (do_some de_int))) (dg_name 14 sc_law.nd) (dss_one (ds_if (dt_cmp (op_lt2 hr.units0) v_lt2 (de_blt (cr_sum rfl) v_sum T.z_sum boot_sum (da_cons (de_new (dn_comp sc_law.nd (di_seq (de_v 2)) (blkOk_by (own := [("some", 7)]) (N := ["script", "town", "tellings", "most", "many", "book", "words", "some", "saved", "rows", "whole", "plain", "sets", "word", "one_set", "k", "row", "less_signs"]) (sc := defScope s_law) (by decide +kernel)) (fun _ _ _ _ _ => (dg_name 7 sc_law.nd)) (fun _ _ _ _ _ => dts_nil) (fun _ _ _ _ _ => (de_blt call_len2 v_len T.z_len boot_len (da_cons (de_callP ((ok_put T).mono (by decide)) hr T.f_put.gl T.f_put.fu.kp T.f_put.bi tkF (da_cons (de_tup (da_cons (de_v 4) (da_cons (de_v 14) da_nil)) (ln_le (ln_cons (ln_cons ln_nil)) (by decide))) (da_cons (de_v 7) da_nil)) (ln_cons (ln_cons ln_nil))) da_nil))))) da_nil)) (de_v 10)) (dss_one (ds_retO de_bl)) dss_nil))) (dss_one (ds_retO de_bl)))))))))))))))))))))⟩
end
end Hz

namespace Hz
open PySem PySem.Spec PyProof.Rows L2
def spLaw (K : PySem.W.Frag) : Sp := fun vs H Q _ => ∃ (b : Addr) (ns : List Int), vs = [.ref b] ∧ SqL K H b (ns.map V.int) ∧ d_law [scrV ns] = .ok (.bool true) ∧ ∀ H', Q (.bl true) H'
theorem all_mk {P : Program} {w : World} {K : PySem.W.Frag} {h : Heap} {mg : Str → Option Value} {fa : Addr} (X : K.In h) (G : h.Ns mainGlobals mg) (hfa : mg "law" = some (.ref fa))
    {f0 : Addr} {od0 an0 : Option Addr} {sl0 : Array (Option Value)} {oc0 kV0 dc0 pm0 cd0 ct0 : Value}
    {f1 : Addr} {od1 an1 : Option Addr} {sl1 : Array (Option Value)} {oc1 kV1 dc1 pm1 cd1 ct1 : Value}
    {f2 : Addr} {od2 an2 : Option Addr} {sl2 : Array (Option Value)} {oc2 kV2 dc2 pm2 cd2 ct2 : Value}
    {f3 : Addr} {od3 an3 : Option Addr} {sl3 : Array (Option Value)} {oc3 kV3 dc3 pm3 cd3 ct3 : Value}
    {f4 : Addr} {od4 an4 : Option Addr} {sl4 : Array (Option Value)} {oc4 kV4 dc4 pm4 cd4 ct4 : Value}
    {f5 : Addr} {od5 an5 : Option Addr} {sl5 : Array (Option Value)} {oc5 kV5 dc5 pm5 cd5 ct5 : Value}
    {f6 : Addr} {od6 an6 : Option Addr} {sl6 : Array (Option Value)} {oc6 kV6 dc6 pm6 cd6 ct6 : Value}
    {f7 : Addr} {od7 an7 : Option Addr} {sl7 : Array (Option Value)} {oc7 kV7 dc7 pm7 cd7 ct7 : Value}
    {f8 : Addr} {od8 an8 : Option Addr} {sl8 : Array (Option Value)} {oc8 kV8 dc8 pm8 cd8 ct8 : Value}
    {f9 : Addr} {od9 an9 : Option Addr} {sl9 : Array (Option Value)} {oc9 kV9 dc9 pm9 cd9 ct9 : Value}
    {f10 : Addr} {od10 an10 : Option Addr} {sl10 : Array (Option Value)} {oc10 kV10 dc10 pm10 cd10 ct10 : Value}
    {f11 : Addr} {od11 an11 : Option Addr} {sl11 : Array (Option Value)} {oc11 kV11 dc11 pm11 cd11 ct11 : Value}
    {f12 : Addr} {od12 an12 : Option Addr} {sl12 : Array (Option Value)} {oc12 kV12 dc12 pm12 cd12 ct12 : Value}
    {f13 : Addr} {od13 an13 : Option Addr} {sl13 : Array (Option Value)} {oc13 kV13 dc13 pm13 cd13 ct13 : Value}
    {f14 : Addr} {od14 an14 : Option Addr} {sl14 : Array (Option Value)} {oc14 kV14 dc14 pm14 cd14 ct14 : Value}
    {f15 : Addr} {od15 an15 : Option Addr} {sl15 : Array (Option Value)} {oc15 kV15 dc15 pm15 cd15 ct15 : Value}
    {f16 : Addr} {od16 an16 : Option Addr} {sl16 : Array (Option Value)} {oc16 kV16 dc16 pm16 cd16 ct16 : Value}
    {f17 : Addr} {od17 an17 : Option Addr} {sl17 : Array (Option Value)} {oc17 kV17 dc17 pm17 cd17 ct17 : Value}
    {t_LEAST : Tok}
    {t_LETTERS : Tok}
    {t_MOST : Tok}
    {t_TELLING : Tok}
    {t_WORD : Tok}
    {t_WORDS : Tok}
    {C_NoBook : Addr}
    {C_NoWords : Addr}
    (a0 : PySem.W.nsIn K mainGlobals "is_whole" = some (some (.ref f0)))
    (l0 : K.lookup f0 = some ⟨oc0, od0, .func (PySem.W.fnOf "is_whole" "is_whole" (defArgs s_is_whole) (defBody s_is_whole) (defScope s_is_whole) .none kV0 dc0 pm0 an0 cd0 ct0), sl0⟩)
    (c0 : PySem.W.codeIn K cd0 "is_whole" = true)
    (k0 : PySem.W.keepIn K (.ref f0) = true)
    (a1 : PySem.W.nsIn K mainGlobals "is_word" = some (some (.ref f1)))
    (l1 : K.lookup f1 = some ⟨oc1, od1, .func (PySem.W.fnOf "is_word" "is_word" (defArgs s_is_word) (defBody s_is_word) (defScope s_is_word) .none kV1 dc1 pm1 an1 cd1 ct1), sl1⟩)
    (c1 : PySem.W.codeIn K cd1 "is_word" = true)
    (k1 : PySem.W.keepIn K (.ref f1) = true)
    (a2 : PySem.W.nsIn K mainGlobals "two_signs" = some (some (.ref f2)))
    (l2 : K.lookup f2 = some ⟨oc2, od2, .func (PySem.W.fnOf "two_signs" "two_signs" (defArgs s_two_signs) (defBody s_two_signs) (defScope s_two_signs) .none kV2 dc2 pm2 an2 cd2 ct2), sl2⟩)
    (c2 : PySem.W.codeIn K cd2 "two_signs" = true)
    (k2 : PySem.W.keepIn K (.ref f2) = true)
    (a3 : PySem.W.nsIn K mainGlobals "best_words" = some (some (.ref f3)))
    (l3 : K.lookup f3 = some ⟨oc3, od3, .func (PySem.W.fnOf "best_words" "best_words" (defArgs s_best_words) (defBody s_best_words) (defScope s_best_words) .none kV3 dc3 pm3 an3 cd3 ct3), sl3⟩)
    (c3 : PySem.W.codeIn K cd3 "best_words" = true)
    (k3 : PySem.W.keepIn K (.ref f3) = true)
    (a4 : PySem.W.nsIn K mainGlobals "_law_cell_at" = some (some (.ref f4)))
    (l4 : K.lookup f4 = some ⟨oc4, od4, .func (PySem.W.fnOf "_law_cell_at" "_law_cell_at" (defArgs s_law_cell_at) (defBody s_law_cell_at) (defScope s_law_cell_at) .none kV4 dc4 pm4 an4 cd4 ct4), sl4⟩)
    (c4 : PySem.W.codeIn K cd4 "_law_cell_at" = true)
    (k4 : PySem.W.keepIn K (.ref f4) = true)
    (a5 : PySem.W.nsIn K mainGlobals "need_words" = some (some (.ref f5)))
    (l5 : K.lookup f5 = some ⟨oc5, od5, .func (PySem.W.fnOf "need_words" "need_words" (defArgs s_need_words) (defBody s_need_words) (defScope s_need_words) .none kV5 dc5 pm5 an5 cd5 ct5), sl5⟩)
    (c5 : PySem.W.codeIn K cd5 "need_words" = true)
    (k5 : PySem.W.keepIn K (.ref f5) = true)
    (a6 : PySem.W.nsIn K mainGlobals "is_book" = some (some (.ref f6)))
    (l6 : K.lookup f6 = some ⟨oc6, od6, .func (PySem.W.fnOf "is_book" "is_book" (defArgs s_is_book) (defBody s_is_book) (defScope s_is_book) .none kV6 dc6 pm6 an6 cd6 ct6), sl6⟩)
    (c6 : PySem.W.codeIn K cd6 "is_book" = true)
    (k6 : PySem.W.keepIn K (.ref f6) = true)
    (a7 : PySem.W.nsIn K mainGlobals "word_row" = some (some (.ref f7)))
    (l7 : K.lookup f7 = some ⟨oc7, od7, .func (PySem.W.fnOf "word_row" "word_row" (defArgs s_word_row) (defBody s_word_row) (defScope s_word_row) .none kV7 dc7 pm7 an7 cd7 ct7), sl7⟩)
    (c7 : PySem.W.codeIn K cd7 "word_row" = true)
    (k7 : PySem.W.keepIn K (.ref f7) = true)
    (a8 : PySem.W.nsIn K mainGlobals "_law_mixed" = some (some (.ref f8)))
    (l8 : K.lookup f8 = some ⟨oc8, od8, .func (PySem.W.fnOf "_law_mixed" "_law_mixed" (defArgs s_law_mixed) (defBody s_law_mixed) (defScope s_law_mixed) .none kV8 dc8 pm8 an8 cd8 ct8), sl8⟩)
    (c8 : PySem.W.codeIn K cd8 "_law_mixed" = true)
    (k8 : PySem.W.keepIn K (.ref f8) = true)
    (a9 : PySem.W.nsIn K mainGlobals "need_book" = some (some (.ref f9)))
    (l9 : K.lookup f9 = some ⟨oc9, od9, .func (PySem.W.fnOf "need_book" "need_book" (defArgs s_need_book) (defBody s_need_book) (defScope s_need_book) .none kV9 dc9 pm9 an9 cd9 ct9), sl9⟩)
    (c9 : PySem.W.codeIn K cd9 "need_book" = true)
    (k9 : PySem.W.keepIn K (.ref f9) = true)
    (a10 : PySem.W.nsIn K mainGlobals "row_of" = some (some (.ref f10)))
    (l10 : K.lookup f10 = some ⟨oc10, od10, .func (PySem.W.fnOf "row_of" "row_of" (defArgs s_row_of) (defBody s_row_of) (defScope s_row_of) .none kV10 dc10 pm10 an10 cd10 ct10), sl10⟩)
    (c10 : PySem.W.codeIn K cd10 "row_of" = true)
    (k10 : PySem.W.keepIn K (.ref f10) = true)
    (a11 : PySem.W.nsIn K mainGlobals "best_book" = some (some (.ref f11)))
    (l11 : K.lookup f11 = some ⟨oc11, od11, .func (PySem.W.fnOf "best_book" "best_book" (defArgs s_best_book) (defBody s_best_book) (defScope s_best_book) .none kV11 dc11 pm11 an11 cd11 ct11), sl11⟩)
    (c11 : PySem.W.codeIn K cd11 "best_book" = true)
    (k11 : PySem.W.keepIn K (.ref f11) = true)
    (a12 : PySem.W.nsIn K mainGlobals "_law_draw" = some (some (.ref f12)))
    (l12 : K.lookup f12 = some ⟨oc12, od12, .func (PySem.W.fnOf "_law_draw" "_law_draw" (defArgs s_law_draw) (defBody s_law_draw) (defScope s_law_draw) .none kV12 dc12 pm12 an12 cd12 ct12), sl12⟩)
    (c12 : PySem.W.codeIn K cd12 "_law_draw" = true)
    (k12 : PySem.W.keepIn K (.ref f12) = true)
    (a13 : PySem.W.nsIn K mainGlobals "put" = some (some (.ref f13)))
    (l13 : K.lookup f13 = some ⟨oc13, od13, .func (PySem.W.fnOf "put" "put" (defArgs s_put) (defBody s_put) (defScope s_put) .none kV13 dc13 pm13 an13 cd13 ct13), sl13⟩)
    (c13 : PySem.W.codeIn K cd13 "put" = true)
    (k13 : PySem.W.keepIn K (.ref f13) = true)
    (a14 : PySem.W.nsIn K mainGlobals "_law_pick" = some (some (.ref f14)))
    (l14 : K.lookup f14 = some ⟨oc14, od14, .func (PySem.W.fnOf "_law_pick" "_law_pick" (defArgs s_law_pick) (defBody s_law_pick) (defScope s_law_pick) .none kV14 dc14 pm14 an14 cd14 ct14), sl14⟩)
    (c14 : PySem.W.codeIn K cd14 "_law_pick" = true)
    (k14 : PySem.W.keepIn K (.ref f14) = true)
    (a15 : PySem.W.nsIn K mainGlobals "_law_word" = some (some (.ref f15)))
    (l15 : K.lookup f15 = some ⟨oc15, od15, .func (PySem.W.fnOf "_law_word" "_law_word" (defArgs s_law_word) (defBody s_law_word) (defScope s_law_word) .none kV15 dc15 pm15 an15 cd15 ct15), sl15⟩)
    (c15 : PySem.W.codeIn K cd15 "_law_word" = true)
    (k15 : PySem.W.keepIn K (.ref f15) = true)
    (a16 : PySem.W.nsIn K mainGlobals "_law_words" = some (some (.ref f16)))
    (l16 : K.lookup f16 = some ⟨oc16, od16, .func (PySem.W.fnOf "_law_words" "_law_words" (defArgs s_law_words) (defBody s_law_words) (defScope s_law_words) .none kV16 dc16 pm16 an16 cd16 ct16), sl16⟩)
    (c16 : PySem.W.codeIn K cd16 "_law_words" = true)
    (k16 : PySem.W.keepIn K (.ref f16) = true)
    (a17 : PySem.W.nsIn K mainGlobals "law" = some (some (.ref f17)))
    (l17 : K.lookup f17 = some ⟨oc17, od17, .func (PySem.W.fnOf "law" "law" (defArgs s_law) (defBody s_law) (defScope s_law) .none kV17 dc17 pm17 an17 cd17 ct17), sl17⟩)
    (c17 : PySem.W.codeIn K cd17 "law" = true)
    (k17 : PySem.W.keepIn K (.ref f17) = true)
    (z_all : PySem.W.nsIn K mainGlobals "all" = some none)
    (z_bool : PySem.W.nsIn K mainGlobals "bool" = some none)
    (z_dict : PySem.W.nsIn K mainGlobals "dict" = some none)
    (z_int : PySem.W.nsIn K mainGlobals "int" = some none)
    (z_isinstance : PySem.W.nsIn K mainGlobals "isinstance" = some none)
    (z_len : PySem.W.nsIn K mainGlobals "len" = some none)
    (z_list : PySem.W.nsIn K mainGlobals "list" = some none)
    (z_min : PySem.W.nsIn K mainGlobals "min" = some none)
    (z_range : PySem.W.nsIn K mainGlobals "range" = some none)
    (z_set : PySem.W.nsIn K mainGlobals "set" = some none)
    (z_sorted : PySem.W.nsIn K mainGlobals "sorted" = some none)
    (z_str : PySem.W.nsIn K mainGlobals "str" = some none)
    (z_sum : PySem.W.nsIn K mainGlobals "sum" = some none)
    (z_tuple : PySem.W.nsIn K mainGlobals "tuple" = some none)
    (c_LEAST : PySem.W.nsIn K mainGlobals "LEAST" = some (some (.int 6 t_LEAST)))
    (c_LETTERS : PySem.W.nsIn K mainGlobals "LETTERS" = some (some (.str "abcdefghijklmnopqrstuvwxyz" t_LETTERS)))
    (c_MOST : PySem.W.nsIn K mainGlobals "MOST" = some (some (.int 12 t_MOST)))
    (c_TELLING : PySem.W.nsIn K mainGlobals "TELLING" = some (some (.int 8 t_TELLING)))
    (c_WORD : PySem.W.nsIn K mainGlobals "WORD" = some (some (.int 8 t_WORD)))
    (c_WORDS : PySem.W.nsIn K mainGlobals "WORDS" = some (some (.int 60 t_WORDS)))
    (g_NoBook : PySem.W.nsIn K mainGlobals "NoBook" = some (some (.ref C_NoBook)))
    (g_NoWords : PySem.W.nsIn K mainGlobals "NoWords" = some (some (.ref C_NoWords)))
    (x_NoBook : PySem.W.excIn K C_NoBook [.type "ValueError", .type "Exception", .type "BaseException", .type "object"] "ValueError.__new__" = true)
    (k_NoBook : PySem.W.keepIn K (.ref C_NoBook) = true)
    (b_NoBook : PySem.W.subIn K (.ref C_NoBook) (.type "BaseException") = some true)
    (t_NoBook : PySem.W.typeIn K (.ref C_NoBook) = some (.type "type"))
    (x_NoWords : PySem.W.excIn K C_NoWords [.type "ValueError", .type "Exception", .type "BaseException", .type "object"] "ValueError.__new__" = true)
    (k_NoWords : PySem.W.keepIn K (.ref C_NoWords) = true)
    (b_NoWords : PySem.W.subIn K (.ref C_NoWords) (.type "BaseException") = some true)
    (t_NoWords : PySem.W.typeIn K (.ref C_NoWords) = some (.type "type"))
    : ∃ fd : FuncData, (∀ (s : Shared) (v : Value), BindsTo s fd ⟨[v], []⟩ [("script", v)]) ∧ ∀ base : Heap, K.In base → base.Ns mainGlobals mg → FnOk P w K mg base (L2N.CX P w) 8 fa fd ["script"] (spLaw K) := by
  have e := hfa.symm.trans (PySem.W.mg_of X G a17)
  cases e
  have F0 := fun_mk (st := s_is_whole) l0 c0 k0
  have F1 := fun_mk (st := s_is_word) l1 c1 k1
  have F2 := fun_mk (st := s_two_signs) l2 c2 k2
  have F3 := fun_mk (st := s_best_words) l3 c3 k3
  have F4 := fun_mk (st := s_law_cell_at) l4 c4 k4
  have F5 := fun_mk (st := s_need_words) l5 c5 k5
  have F6 := fun_mk (st := s_is_book) l6 c6 k6
  have F7 := fun_mk (st := s_word_row) l7 c7 k7
  have F8 := fun_mk (st := s_law_mixed) l8 c8 k8
  have F9 := fun_mk (st := s_need_book) l9 c9 k9
  have F10 := fun_mk (st := s_row_of) l10 c10 k10
  have F11 := fun_mk (st := s_best_book) l11 c11 k11
  have F12 := fun_mk (st := s_law_draw) l12 c12 k12
  have F13 := fun_mk (st := s_put) l13 c13 k13
  have F14 := fun_mk (st := s_law_pick) l14 c14 k14
  have F15 := fun_mk (st := s_law_word) l15 c15 k15
  have F16 := fun_mk (st := s_law_words) l16 c16 k16
  have F17 := fun_mk (st := s_law) l17 c17 k17
  have T : Tx K mg (fun k => if k = 0 then C_NoBook else if k = 1 then C_NoWords else 0) ⟨f0, _, f1, _, f2, _, f3, _, f4, _, f5, _, f6, _, f7, _, f8, _, f9, _, f10, _, f11, _, f12, _, f13, _, f14, _, f15, _, f16, _, fa, _⟩ := ⟨⟨F0, F0.binds fun _ _ _ _ _ _ us hl => match us, hl with | [_, _, _], _ => rfl, PySem.W.mg_of X G a0⟩,
    ⟨F1, F1.binds fun _ _ _ _ _ _ us hl => match us, hl with | [_], _ => rfl, PySem.W.mg_of X G a1⟩,
    ⟨F2, F2.binds fun _ _ _ _ _ _ us hl => match us, hl with | [_, _], _ => rfl, PySem.W.mg_of X G a2⟩,
    ⟨F3, F3.binds fun _ _ _ _ _ _ us hl => match us, hl with | [_, _], _ => rfl, PySem.W.mg_of X G a3⟩,
    ⟨F4, F4.binds fun _ _ _ _ _ _ us hl => match us, hl with | [_, _], _ => rfl, PySem.W.mg_of X G a4⟩,
    ⟨F5, F5.binds fun _ _ _ _ _ _ us hl => match us, hl with | [_, _], _ => rfl, PySem.W.mg_of X G a5⟩,
    ⟨F6, F6.binds fun _ _ _ _ _ _ us hl => match us, hl with | [_], _ => rfl, PySem.W.mg_of X G a6⟩,
    ⟨F7, F7.binds fun _ _ _ _ _ _ us hl => match us, hl with | [_, _], _ => rfl, PySem.W.mg_of X G a7⟩,
    ⟨F8, F8.binds fun _ _ _ _ _ _ us hl => match us, hl with | [_, _, _], _ => rfl, PySem.W.mg_of X G a8⟩,
    ⟨F9, F9.binds fun _ _ _ _ _ _ us hl => match us, hl with | [_], _ => rfl, PySem.W.mg_of X G a9⟩,
    ⟨F10, F10.binds fun _ _ _ _ _ _ us hl => match us, hl with | [_, _], _ => rfl, PySem.W.mg_of X G a10⟩,
    ⟨F11, F11.binds fun _ _ _ _ _ _ us hl => match us, hl with | [_, _, _], _ => rfl, PySem.W.mg_of X G a11⟩,
    ⟨F12, F12.binds fun _ _ _ _ _ _ us hl => match us, hl with | [_, _, _], _ => rfl, PySem.W.mg_of X G a12⟩,
    ⟨F13, F13.binds fun _ _ _ _ _ _ us hl => match us, hl with | [_, _], _ => rfl, PySem.W.mg_of X G a13⟩,
    ⟨F14, F14.binds fun _ _ _ _ _ _ us hl => match us, hl with | [_, _, _], _ => rfl, PySem.W.mg_of X G a14⟩,
    ⟨F15, F15.binds fun _ _ _ _ _ _ us hl => match us, hl with | [_, _], _ => rfl, PySem.W.mg_of X G a15⟩,
    ⟨F16, F16.binds fun _ _ _ _ _ _ us hl => match us, hl with | [_, _, _], _ => rfl, PySem.W.mg_of X G a16⟩,
    ⟨F17, F17.binds fun _ _ _ _ _ _ us hl => match us, hl with | [_], _ => rfl, PySem.W.mg_of X G a17⟩,
    PySem.W.mg_none_of X G z_all,
    PySem.W.mg_none_of X G z_bool,
    PySem.W.mg_none_of X G z_dict,
    PySem.W.mg_none_of X G z_int,
    PySem.W.mg_none_of X G z_isinstance,
    PySem.W.mg_none_of X G z_len,
    PySem.W.mg_none_of X G z_list,
    PySem.W.mg_none_of X G z_min,
    PySem.W.mg_none_of X G z_range,
    PySem.W.mg_none_of X G z_set,
    PySem.W.mg_none_of X G z_sorted,
    PySem.W.mg_none_of X G z_str,
    PySem.W.mg_none_of X G z_sum,
    PySem.W.mg_none_of X G z_tuple,
    ⟨_, PySem.W.mg_of X G c_LEAST⟩,
    ⟨_, PySem.W.mg_of X G c_LETTERS⟩,
    ⟨_, PySem.W.mg_of X G c_MOST⟩,
    ⟨_, PySem.W.mg_of X G c_TELLING⟩,
    ⟨_, PySem.W.mg_of X G c_WORD⟩,
    ⟨_, PySem.W.mg_of X G c_WORDS⟩,
    ⟨x_NoBook, PySem.W.mg_of X G g_NoBook, k_NoBook, b_NoBook, t_NoBook⟩,
    ⟨x_NoWords, PySem.W.mg_of X G g_NoWords, k_NoWords, b_NoWords, t_NoWords⟩⟩
  exact ⟨_, fun s v => .of_eq rfl, fun base _ _ => (ok_law T).imp fun vs H Q E ⟨b, ns, e1, hs, e2, q⟩ => by
    subst e1
    refine ⟨H, [scrV ns], Same.refl _, .cons (.scr hs) .nil, rfl, ?_⟩
    rw [e2]
    intro G2 H2 v g r
    cases r
    exact q H2⟩
end Hz
open PySem PySem.W PyProof.Rows
set_option maxHeartbeats 0 in
theorem PySem.Challenge.cw_hillarms_k06_whole_best_books_holds : PySem.Challenge.rw_hillarms_k06_whole_best_books.Holds := by
  w_on; o_law; k_head; (case hw => w_witness2)
  k_fill
  refine L2.walk_of (l := PySem.Challenge.rw_hillarms_k06_whole_best_books) (n := 63) (k := 8) (x := "script") (CX := fun w => L2N.CX PySem.Challenge.pw_hillarms_k06_whole_best_books w) (sp := fun w => Hz.spLaw _) rfl (by decide) rfl ⟨rfl, by decide, by decide⟩ (fun w h Y => PySem.W.kIn_of Y) ?F (fun _ _ b ns hl _ hS => ⟨b, ns, rfl, hS, Hz.law_true ns hl, fun _ => rfl⟩) (fun _ _ _ _ _ ⟨_, _, _, _, _, _, _, _, _, _, _, _, h⟩ => h)
  case F =>
    intro w mg fa h KX G hmg
    refine' Hz.all_mk KX G hmg ?a0 ?l0 ?c0 ?k0 ?a1 ?l1 ?c1 ?k1 ?a2 ?l2 ?c2 ?k2 ?a3 ?l3 ?c3 ?k3 ?a4 ?l4 ?c4 ?k4 ?a5 ?l5 ?c5 ?k5 ?a6 ?l6 ?c6 ?k6 ?a7 ?l7 ?c7 ?k7 ?a8 ?l8 ?c8 ?k8 ?a9 ?l9 ?c9 ?k9 ?a10 ?l10 ?c10 ?k10 ?a11 ?l11 ?c11 ?k11 ?a12 ?l12 ?c12 ?k12 ?a13 ?l13 ?c13 ?k13 ?a14 ?l14 ?c14 ?k14 ?a15 ?l15 ?c15 ?k15 ?a16 ?l16 ?c16 ?k16 ?a17 ?l17 ?c17 ?k17 ?z_all ?z_bool ?z_dict ?z_int ?z_isinstance ?z_len ?z_list ?z_min ?z_range ?z_set ?z_sorted ?z_str ?z_sum ?z_tuple ?c_LEAST ?c_LETTERS ?c_MOST ?c_TELLING ?c_WORD ?c_WORDS ?g_NoBook ?g_NoWords ?x_NoBook ?k_NoBook ?b_NoBook ?t_NoBook ?x_NoWords ?k_NoWords ?b_NoWords ?t_NoWords
    (case a0 => k_is)
    (case l0 => k_is)
    (case c0 => k_is)
    (case k0 => k_is)
    (case a1 => k_is)
    (case l1 => k_is)
    (case c1 => k_is)
    (case k1 => k_is)
    (case a2 => k_is)
    (case l2 => k_is)
    (case c2 => k_is)
    (case k2 => k_is)
    (case a3 => k_is)
    (case l3 => k_is)
    (case c3 => k_is)
    (case k3 => k_is)
    (case a4 => k_is)
    (case l4 => k_is)
    (case c4 => k_is)
    (case k4 => k_is)
    (case a5 => k_is)
    (case l5 => k_is)
    (case c5 => k_is)
    (case k5 => k_is)
    (case a6 => k_is)
    (case l6 => k_is)
    (case c6 => k_is)
    (case k6 => k_is)
    (case a7 => k_is)
    (case l7 => k_is)
    (case c7 => k_is)
    (case k7 => k_is)
    (case a8 => k_is)
    (case l8 => k_is)
    (case c8 => k_is)
    (case k8 => k_is)
    (case a9 => k_is)
    (case l9 => k_is)
    (case c9 => k_is)
    (case k9 => k_is)
    (case a10 => k_is)
    (case l10 => k_is)
    (case c10 => k_is)
    (case k10 => k_is)
    (case a11 => k_is)
    (case l11 => k_is)
    (case c11 => k_is)
    (case k11 => k_is)
    (case a12 => k_is)
    (case l12 => k_is)
    (case c12 => k_is)
    (case k12 => k_is)
    (case a13 => k_is)
    (case l13 => k_is)
    (case c13 => k_is)
    (case k13 => k_is)
    (case a14 => k_is)
    (case l14 => k_is)
    (case c14 => k_is)
    (case k14 => k_is)
    (case a15 => k_is)
    (case l15 => k_is)
    (case c15 => k_is)
    (case k15 => k_is)
    (case a16 => k_is)
    (case l16 => k_is)
    (case c16 => k_is)
    (case k16 => k_is)
    (case a17 => k_is)
    (case l17 => k_is)
    (case c17 => k_is)
    (case k17 => k_is)
    (case z_all => k_is)
    (case z_bool => k_is)
    (case z_dict => k_is)
    (case z_int => k_is)
    (case z_isinstance => k_is)
    (case z_len => k_is)
    (case z_list => k_is)
    (case z_min => k_is)
    (case z_range => k_is)
    (case z_set => k_is)
    (case z_sorted => k_is)
    (case z_str => k_is)
    (case z_sum => k_is)
    (case z_tuple => k_is)
    (case c_LEAST => k_is)
    (case c_LETTERS => k_is)
    (case c_MOST => k_is)
    (case c_TELLING => k_is)
    (case c_WORD => k_is)
    (case c_WORDS => k_is)
    (case g_NoBook => k_is)
    (case g_NoWords => k_is)
    (case x_NoBook => k_exc)
    (case k_NoBook => k_is)
    (case b_NoBook => k_is)
    (case t_NoBook => k_is)
    (case x_NoWords => k_exc)
    (case k_NoWords => k_is)
    (case b_NoWords => k_is)
    (case t_NoWords => k_is)
