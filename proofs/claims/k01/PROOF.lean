import PyProof.Rows.All
import Wide.All
import OpenK.AllK
import Wide.FinOn
import HandS.ForMost
import HandS.Conv
import HandS.Deep
import HandS.Exc
import HandS.ExcOwn
import HandS.WordsExc
import HandS.TupAny
import HandS.IsInst
import HandS.SortRule
import HandS.SortInts
import HandS.Wide
import HandS.Style
import HandS.Flow
import HandS.More
import HandS.TupSets
import HandS.NoneIn
import HandS.Zip
import HandS.Defaults
import HandS.HeadNt
import HandS.Dict
import HandS.EndBits
import HandS.HeadEnd
import HandS.HeadHook1
import HandS.HeadHook2
import HandS.Head0
import HandS.Head1
import HandS.Head2
import KE.KDictPairs
import HandS.Text
import HandS.Iter
import HandS.ExcInit
import HandS.ExcField
import HandS.FStr
import KE.KExcIs
import KE.KTryMore
import HandS.TryOnly
import KE.KIsAll
import KE.GoesMore
import HandS.SetFor
import PyProof.EqKinds
import PyProof.FactsAll.dict_1
import HandS.Strs
import PyProof.Rows.IntBool
import PyProof.ReprLen
import PyProof.NeKinds
import HandS.Codes
import KE.KDictZip
import PyProof.CollectWalk
import HandS.HotCalls
import KE.KSortTupG
import PyProof.StrOps2
import HandS.TupLe
import HandS.CallLocal
import PySem.Challenge.RW_fromwithin_k01_houses_validated
set_option Elab.async false
set_option linter.all false
set_option maxRecDepth 100000
/-! DL0: what makes tuples, with the new tuple's whole object told. -/
namespace DL
open PySem PySem.Spec PyProof.Rows L2
/-- the object of a new tuple -/
abbrev tupO (us : List Value) : Obj := { cls := .type "tuple", data := .seq us.toArray }
/-- a new tuple, its object told -/
def NewT (xs : List V) (H : Hp) (Q : VK) : Prop := ∀ (p : Addr) (o : Obj), H p = none → o.dict = none → Q (.ref p) (upd H p (.frz o (.tup xs)))
section
variable {X : Cx} {pins : List (Addr × Obj)} {σ : L2.St} {H : Hp} {s : Shared} {Q : VK}
theorem newT {xs : List V} {us : List Value} (I : Inv X pins σ H s) (r : Vals xs us) (hz : xs.length ≤ sizeLine) (q : NewT xs H Q) :
    EP X pins σ Q (.ref s.heap.objs.size) { s with heap := s.heap.push (tupO us) } :=
  ⟨.ref s.heap.objs.size, _, I.laid (t' := s.toks) (o := .frz (tupO us) (.tup xs)) (fun b ob e => Heap.get?_push_of_some _ e) (Nat.le_refl _) ⟨Heap.get?_push_size _ rfl, hz, us, r, IsTup.new _ _⟩, rfl, q _ _ (I.hok.fresh (Nat.le_refl _)) rfl⟩
def fTup (t : TA) : TE := fun σ H Q => t σ H fun xs H1 => xs.length ≤ sizeLine ∧ NewT xs H1 Q
theorem pe_tupF {es : List Expr} {t : TA} {x1} {pos : Pos} (h : PA X es t) : PE X (.Tuple es x1 pos) (fTup t) := by
  refine ⟨fun pins s σ H Q I hq => ?_⟩
  refine wpAny_Tuple_spliced (thn (h.run pos pins s σ H _ I hq) fun us s1 hh => ?_)
  obtain ⟨xs, H1, I1, r, z, q⟩ := hh
  exact ⟨by rw [← r.length]; exact z, newT I1 r z q⟩
/-- t + u -/
def fCat (K : PySem.W.Frag) : R2 := fun x y H Q => ∃ a b xs ys, x = .ref a ∧ y = .ref b ∧ SqT K H a xs ∧ SqT K H b ys ∧ xs.length + ys.length ≤ sizeLine ∧
  (xs = [] → Q (.ref b) H) ∧ (xs ≠ [] → ys = [] → Q (.ref a) H) ∧ (xs ≠ [] → ys ≠ [] → NewT (xs ++ ys) H Q)
theorem op_catF : OpR X (binaryOp .Add) (fCat X.K) := by
  intro pins s σ H x y v u Q I rx ry h
  obtain ⟨a, b, xs, ys, rfl, rfl, ha, hb, hz, q0, q1, q2⟩ := h
  cases rx; cases ry
  obtain ⟨its, r1, p1, _⟩ := I.tuple ha
  obtain ⟨its2, r2, p2, _⟩ := I.tuple hb
  by_cases hx : xs = []
  · subst hx
    cases r1
    exact cat_tup0 p1 p2 ⟨.ref b, H, I, rfl, q0 rfl⟩
  · refine HT.cat_tup p1 p2 (fun z => hx (r1.nil_iff.mp z)) (fun z => ⟨.ref a, H, I, rfl, q1 hx (r2.nil_iff.mp z)⟩) (fun z => ?_) (by rw [← r1.length, ← r2.length]; exact hz)
    exact newT I (r1.append r2) (by rw [List.length_append]; exact hz) (q2 hx fun w => z (r2.nil_iff.mpr w))
/-- t[lo:hi] -/
def fSl (K : PySem.W.Frag) : V → Option Int → Option Int → Hp → VK → Prop := fun x lo hi H Q => ∃ a xs, x = .ref a ∧ SqT K H a xs ∧
  (HT.sIx xs.length 0 lo = 0 ∧ HT.sIx xs.length xs.length hi = xs.length → Q (.ref a) H) ∧ (¬ (HT.sIx xs.length 0 lo = 0 ∧ HT.sIx xs.length xs.length hi = xs.length) → NewT (cutV xs lo hi) H Q)
theorem sl_tupF : SlR X (fSl X.K) := by
  intro pins s σ H x v vl vu lo hi sl Q I rx hs pl pu h
  obtain ⟨a, xs, rfl, hx, q1, q2⟩ := h
  cases rx
  obtain ⟨its, r, ht, hz⟩ := I.tuple hx
  have hlen : its.toArray.size = xs.length := by rw [List.size_toArray]; exact r.length.symm
  refine ⟨"tuple", _, PyProof.Rows.slot_tuple_getitem.lookup, ht.typeIs, ?_⟩
  by_cases hw : HT.sIx xs.length 0 lo = 0 ∧ HT.sIx xs.length xs.length hi = xs.length
  · exact getItem_tuple_whole ht hs pl pu (by rw [hlen]; exact hw) ⟨.ref a, H, I, rfl, q1 hw⟩
  · refine HT.getItem_tuple_cut ht hs pl pu (by rw [hlen]; exact hw) ?_ (by rw [hlen]; exact hz)
    rw [hlen]
    exact newT I ((r.drop (HT.sIx xs.length 0 lo)).take (HT.sIx xs.length xs.length hi - HT.sIx xs.length 0 lo)) (Nat.le_trans (cutV_length xs lo hi) hz) (q2 hw)
/-- tuple(x) -/
theorem call_tupleF : CallR X (.type "tuple") (fun xs H Q => ∃ p ys, xs = [.ref p] ∧ ((SqL X.K H p ys ∧ NewT ys H Q) ∨ (SqT X.K H p ys ∧ Q (.ref p) H))) := by
  intro pins s σ H xs us Q I r h
  obtain ⟨p, ys, rfl, h⟩ := h
  obtain ⟨u, rfl, rx⟩ := vals1 r
  cases rx
  rcases h with ⟨hq, q⟩ | ⟨hq, q⟩
  · obtain ⟨its, rv, pl, hz⟩ := I.list hq
    refine call_tuple_list pl.isList (fun h' kp => ?_) (by simp only [List.size_toArray]; rw [← rv.length]; exact hz)
    exact newT (I.kept (t' := s.toks) kp) rv hz q
  · obtain ⟨its, _, pl, _⟩ := I.tuple hq
    exact call_tuple_same pl ⟨.ref p, H, I, rfl, q⟩
end
end DL
namespace DL
open PySem PySem.Spec PyProof.Rows L2
end DL
/-! DL1: data, ghost state, relations. -/
namespace DL
open PySem PySem.Spec PyProof.Rows L2
/-- data -/
inductive Val where
  | non | bl (b : Bool) | int (i : Int) | str (x : Str)
  | tup (xs : List Val) | lst (xs : List Val) | dct (kvs : List (Key × Val))
  | ref (n : Nat) | opq (v : V)
  /-- the law's script: a list of ints that is only read -/
  | scr (ns : List Int)
  /-- a pair that a walk over two things hands out -/
  | rtup (xs : List Val)
  /-- an exception that is caught: where it lies, where its dict lies, its field -/
  | exn (a dd : Addr) (f : Str) (d : Val)
  /-- a dict that is never changed again, locked -/
  | ld (kvs : List (Key × Val))
/-- an object of the store: a list that several names may reach and change -/
inductive Obj1 where
  | lst (xs : List Val)
abbrev Store := List Obj1
/-- what a slot holds: a value, or a list / dict that this slot alone holds and may change -/
inductive Cell where
  | v (d : Val) | l (xs : List Val) | m (kvs : List (Key × Val))
abbrev DEnv := List (Option Cell)
def fz : Cell → Val
  | .v d => d
  | .l xs => .lst xs
  | .m kvs => .dct kvs
def Cell.owned : Cell → Bool
  | .v _ => false
  | _ => true
abbrev LP := Addr → Prop
/-- a tuple of these items, with no dict -/
def PlT (H : Hp) (a : Addr) (xs : List V) : Prop := ∃ o : Obj, H a = some (.frz o (.tup xs)) ∧ o.dict = none
theorem PlT.mo {H H' : Hp} {a : Addr} {xs : List V} (h : PlT H a xs) (m : ∀ a o u, H a = some (.frz o u) → H' a = some (.frz o u)) : PlT H' a xs := let ⟨o, e, d⟩ := h; ⟨o, m _ _ _ e, d⟩
theorem PlT.sq {K : PySem.W.Frag} {H : Hp} {a : Addr} {xs : List V} (h : PlT H a xs) : SqT K H a xs := let ⟨o, e, _⟩ := h; .inl (.inr ⟨o, e⟩)
section
variable (K : PySem.W.Frag) (H : Hp) (L : LP) (ρ : List Addr)
mutual
inductive VR : V → Val → Prop
  | non : VR .non .non
  | bl (b : Bool) : VR (.bl b) (.bl b)
  | int (i : Int) : VR (.int i) (.int i)
  | str (x : Str) : VR (.str x) (.str x)
  | tup {a : Addr} {xs : List V} {ds : List Val} : PlT H a xs → VRs xs ds → VR (.ref a) (.tup ds)
  | rtup {a : Addr} {xs : List V} {ds : List Val} : H a = some (.tup xs) → VRs xs ds → VR (.ref a) (.rtup ds)
  | lst {a : Addr} {xs : List V} {ds : List Val} : L a → H a = some (.lst xs) → VRs xs ds → VR (.ref a) (.lst ds)
  | dct {a : Addr} {xs : List (Key × V)} {ds : List (Key × Val)} : L a → H a = some (.dK xs) → VRk xs ds → VR (.ref a) (.dct ds)
  | ld {a : Addr} {o : Obj} {xs : List (Key × V)} {ds : List (Key × Val)} : H a = some (.frz o (.dK xs)) → VRk xs ds → VR (.ref a) (.ld ds)
  | ref {a : Addr} {n : Nat} : ρ[n]? = some a → VR (.ref a) (.ref n)
  | opq (v : V) : VR v (.opq v)
  | exn {a dd : Addr} {f : Str} {v : V} {d : Val} : L dd → H dd = some (.xd [(f, v)]) → VR v d → VR (.ref a) (.exn a dd f d)
  | scrL {a : Addr} {ns : List Int} : L a → Rd H a (.lst (ns.map V.int)) → VR (.ref a) (.scr ns)
  | scrK {a : Addr} {ns : List Int} : (∀ H, SqL K H a (ns.map V.int)) → VR (.ref a) (.scr ns)
inductive VRs : List V → List Val → Prop
  | nil : VRs [] []
  | cons {v : V} {d : Val} {vs : List V} {ds : List Val} : VR v d → VRs vs ds → VRs (v :: vs) (d :: ds)
inductive VRk : List (Key × V) → List (Key × Val) → Prop
  | nil : VRk [] []
  | cons {k : Key} {v : V} {d : Val} {vs : List (Key × V)} {ds : List (Key × Val)} : VR v d → VRk vs ds → VRk ((k, v) :: vs) ((k, d) :: ds)
end
end
/-- how the heap may grow and change behind an expression or a call -/
structure Stp (K : PySem.W.Frag) (H : Hp) (L : LP) (ρ : List Addr) (H' : Hp) (L' : LP) (ρ' : List Addr) : Prop where
  keep : ∀ a o, H a = some o → a ∉ ρ → H' a = some o
  sub : ∀ a, L a → L' a
  new : ∀ a, L' a → L a ∨ H a = none
  pre : ∃ r, ρ' = ρ ++ r ∧ ∀ a ∈ r, H a = none
  tup : ∀ a xs, H a = some (.tup xs) → H' a = some (.tup xs)
  frz : ∀ a o u, H a = some (.frz o u) → H' a = some (.frz o u)
  fro : ∀ a o, L a → H a = some o → H' a = some o
  thr : ∀ a o, H a = some o → ∃ o', H' a = some o'
section
variable {K : PySem.W.Frag} {H H' H1 H2 : Hp} {L L' L1 L2 : LP} {ρ ρ' ρ1 ρ2 : List Addr}
theorem Stp.refl : Stp K H L ρ H L ρ :=
  ⟨fun _ _ h _ => h, fun _ h => h, fun _ h => .inl h, ⟨[], by simp, by simp⟩, fun _ _ h => h, fun _ _ _ h => h, fun _ _ _ h => h, fun _ o h => ⟨o, h⟩⟩
theorem Stp.non (s : Stp K H L ρ H' L' ρ') {a : Addr} (h : H' a = none) : H a = none := by
  cases e : H a with
  | none => rfl
  | some o => obtain ⟨o', q⟩ := s.thr a o e; rw [h] at q; cases q
theorem Stp.trans (s : Stp K H L ρ H1 L1 ρ1) (t : Stp K H1 L1 ρ1 H2 L2 ρ2) : Stp K H L ρ H2 L2 ρ2 := by
  obtain ⟨r1, e1, n1⟩ := s.pre
  obtain ⟨r2, e2, n2⟩ := t.pre
  refine ⟨fun a o h hn => t.keep a o (s.keep a o h hn) ?_, fun a h => t.sub a (s.sub a h), fun a h => ?_, ⟨r1 ++ r2, by rw [e2, e1, List.append_assoc], fun a h => ?_⟩,
    fun a xs h => t.tup a xs (s.tup a xs h), fun a o u h => t.frz a o u (s.frz a o u h), fun a o hl h => t.fro a o (s.sub a hl) (s.fro a o hl h), fun a o h => ?_⟩
  · rw [e1]
    intro hm
    rcases List.mem_append.mp hm with hm | hm
    · exact hn hm
    · rw [n1 a hm] at h; cases h
  · rcases t.new a h with h | h
    · exact s.new a h
    · exact .inr (s.non h)
  · rcases List.mem_append.mp h with h | h
    · exact n1 a h
    · exact s.non (n2 a h)
  · obtain ⟨o1, h1⟩ := s.thr a o h
    exact t.thr a o1 h1
theorem Stp.ref (s : Stp K H L ρ H' L' ρ') {n : Nat} {a : Addr} (h : ρ[n]? = some a) : ρ'[n]? = some a := by
  obtain ⟨r, e, _⟩ := s.pre
  rw [e, List.getElem?_append_left (List.getElem?_eq_some_iff.mp h).1]
  exact h
/-- monotone under what it leans on -/
structure Mo (K : PySem.W.Frag) (H : Hp) (L : LP) (ρ : List Addr) (H' : Hp) (L' : LP) (ρ' : List Addr) : Prop where
  tup : ∀ a xs, H a = some (.tup xs) → H' a = some (.tup xs)
  frz : ∀ a o u, H a = some (.frz o u) → H' a = some (.frz o u)
  lst : ∀ a, L a → L' a ∧ ∀ o, H a = some o → H' a = some o
  ref : ∀ (n : Nat) a, ρ[n]? = some a → ρ'[n]? = some a
mutual
theorem VR.mo (m : Mo K H L ρ H' L' ρ') : ∀ {v : V} {d : Val}, VR K H L ρ v d → VR K H' L' ρ' v d
  | _, _, .non => .non
  | _, _, .bl b => .bl b
  | _, _, .int i => .int i
  | _, _, .str x => .str x
  | _, _, .tup h r => .tup (h.mo m.frz) (VRs.mo m r)
  | _, _, .rtup h r => .rtup (m.tup _ _ h) (VRs.mo m r)
  | _, _, .scrK h => .scrK h
  | _, _, .scrL hl h => .scrL (m.lst _ hl).1 (by
      rcases h with h | ⟨o, h⟩
      · exact .inl ((m.lst _ hl).2 _ h)
      · exact .inr ⟨o, (m.lst _ hl).2 _ h⟩)
  | _, _, .lst hl h r => .lst (m.lst _ hl).1 ((m.lst _ hl).2 _ h) (VRs.mo m r)
  | _, _, .dct hl h r => .dct (m.lst _ hl).1 ((m.lst _ hl).2 _ h) (VRk.mo m r)
  | _, _, .ld h r => .ld (m.frz _ _ _ h) (VRk.mo m r)
  | _, _, .ref h => .ref (m.ref _ _ h)
  | _, _, .opq v => .opq v
  | _, _, .exn hl h r => .exn (m.lst _ hl).1 ((m.lst _ hl).2 _ h) (VR.mo m r)
theorem VRs.mo (m : Mo K H L ρ H' L' ρ') : ∀ {v : List V} {d : List Val}, VRs K H L ρ v d → VRs K H' L' ρ' v d
  | _, _, .nil => .nil
  | _, _, .cons h r => .cons (VR.mo m h) (VRs.mo m r)
theorem VRk.mo (m : Mo K H L ρ H' L' ρ') : ∀ {v : List (Key × V)} {d : List (Key × Val)}, VRk K H L ρ v d → VRk K H' L' ρ' v d
  | _, _, .nil => .nil
  | _, _, .cons h r => .cons (VR.mo m h) (VRk.mo m r)
end
theorem Stp.mo (s : Stp K H L ρ H' L' ρ') : Mo K H L ρ H' L' ρ' :=
  ⟨s.tup, s.frz, fun a h => ⟨s.sub a h, fun o e => s.fro a o h e⟩, fun _ _ h => s.ref h⟩
theorem Mo.sub (h : ∀ a, L a → L' a) : Mo K H L ρ H L' ρ := ⟨fun _ _ h => h, fun _ _ _ h => h, fun a hl => ⟨h a hl, fun _ e => e⟩, fun _ _ h => h⟩
/-- L grows by a name O that is kept -/
theorem Stp.moO (s : Stp K H L ρ H' L' ρ') {O : LP} (hO : ∀ a, O a → ∀ o, H a = some o → H' a = some o) : Mo K H (fun a => L a ∨ O a) ρ H' (fun a => L' a ∨ O a) ρ' :=
  ⟨s.tup, s.frz, fun a h => h.elim (fun h => ⟨.inl (s.sub a h), fun o e => s.fro a o h e⟩) fun h => ⟨.inr h, fun o e => hO a h o e⟩, fun _ _ h => s.ref h⟩
theorem VRs.length : ∀ {vs : List V} {ds : List Val}, VRs K H L ρ vs ds → vs.length = ds.length
  | _, _, .nil => rfl
  | _, _, .cons _ r => by simp [VRs.length r]
theorem VRs.get : ∀ {vs : List V} {ds : List Val} {i : Nat} {v : V}, VRs K H L ρ vs ds → vs[i]? = some v → ∃ d, ds[i]? = some d ∧ VR K H L ρ v d
  | _, _, 0, _, .cons h _, e => by simp at e; subst e; exact ⟨_, rfl, h⟩
  | _, _, i + 1, _, .cons _ r, e => by
    obtain ⟨d, h1, h2⟩ := VRs.get (i := i) r (by simpa using e)
    exact ⟨d, by simpa using h1, h2⟩
  | _, _, _, _, .nil, e => by simp at e
theorem VRs.getD : ∀ {vs : List V} {ds : List Val} {i : Nat} {d : Val}, VRs K H L ρ vs ds → ds[i]? = some d → ∃ v, vs[i]? = some v ∧ VR K H L ρ v d
  | _, _, 0, _, .cons h _, e => by simp at e; subst e; exact ⟨_, rfl, h⟩
  | _, _, i + 1, _, .cons _ r, e => by
    obtain ⟨d, h1, h2⟩ := VRs.getD (i := i) r (by simpa using e)
    exact ⟨d, by simpa using h1, h2⟩
  | _, _, _, _, .nil, e => by simp at e
theorem VRs.append : ∀ {vs ws : List V} {ds es : List Val}, VRs K H L ρ vs ds → VRs K H L ρ ws es → VRs K H L ρ (vs ++ ws) (ds ++ es)
  | _, _, _, _, .nil, s => s
  | _, _, _, _, .cons h r, s => .cons h (VRs.append r s)
theorem VRs.take : ∀ {vs : List V} {ds : List Val} (n : Nat), VRs K H L ρ vs ds → VRs K H L ρ (vs.take n) (ds.take n)
  | _, _, 0, _ => by simp; exact .nil
  | _, _, n + 1, .nil => by simp; exact .nil
  | _, _, n + 1, .cons h r => by simp only [List.take_succ_cons]; exact .cons h (VRs.take n r)
theorem VRs.drop : ∀ {vs : List V} {ds : List Val} (n : Nat), VRs K H L ρ vs ds → VRs K H L ρ (vs.drop n) (ds.drop n)
  | _, _, 0, r => r
  | _, _, n + 1, .nil => by simp; exact .nil
  | _, _, n + 1, .cons _ r => by simp only [List.drop_succ_cons]; exact VRs.drop n r
theorem VRs.set {v : V} {d : Val} (h : VR K H L ρ v d) : ∀ {vs : List V} {ds : List Val} (n : Nat), VRs K H L ρ vs ds → VRs K H L ρ (vs.set n v) (ds.set n d)
  | _, _, _, .nil => .nil
  | _, _, 0, .cons _ r => .cons h r
  | _, _, n + 1, .cons k r => .cons k (VRs.set h n r)
theorem VRs.reverse : ∀ {vs : List V} {ds : List Val}, VRs K H L ρ vs ds → VRs K H L ρ vs.reverse ds.reverse
  | _, _, .nil => .nil
  | _, _, .cons h r => by
    simp only [List.reverse_cons]
    exact (VRs.reverse r).append (.cons h .nil)
theorem VRs.eraseIdx : ∀ {vs : List V} {ds : List Val} (n : Nat), VRs K H L ρ vs ds → VRs K H L ρ (vs.eraseIdx n) (ds.eraseIdx n)
  | _, _, _, .nil => .nil
  | _, _, 0, .cons _ r => r
  | _, _, n + 1, .cons h r => .cons h (VRs.eraseIdx n r)
theorem VRs.snoc {vs : List V} {ds : List Val} {v : V} {d : Val} (r : VRs K H L ρ vs ds) (h : VR K H L ρ v d) : VRs K H L ρ (vs ++ [v]) (ds ++ [d]) := r.append (.cons h .nil)
end
end DL
/-! DL2: store, frames, results, the readings TE TA TT TS of data-level meanings. -/
namespace DL
open PySem PySem.Spec PyProof.Rows L2
abbrev Sg := L2.St
/-- an exception's data: its class by name, its fields -/
structure Xn where
  cls : Str
  fs : List (Str × Val)
section
variable (K : PySem.W.Frag) (H : Hp) (L : LP) (ρ : List Addr)
def OR1 (a : Addr) : Obj1 → Prop
  | .lst ds => ∃ vs, H a = some (.lst vs) ∧ VRs K H (fun _ => False) ρ vs ds
/-- the store: its values hold no lists but by reference -/
structure SR (S : Store) : Prop where
  len : ρ.length = S.length
  nd : ρ.Nodup
  apart : ∀ a ∈ ρ, ¬ L a
  obj : ∀ (n : Nat) a o, ρ[n]? = some a → S[n]? = some o → OR1 K H ρ a o
  lthr : ∀ a, L a → ∃ o, H a = some o
/-- the slot i holds at a what it may change alone -/
def OwnAt (σ : Sg) (δ : DEnv) (i : Nat) (a : Addr) : Prop := ∃ c, δ[i]? = some (some c) ∧ c.owned = true ∧ σ[i]? = some (some (.ref a))
def own (σ : Sg) (δ : DEnv) : LP := fun a => ∃ i, OwnAt σ δ i a
def CellR (He : Hp) (v : Option V) : Option Cell → Prop
  | none => True
  | some (.v d) => ∃ u, v = some u ∧ VR K H L ρ u d
  | some (.l ds) => ∃ a vs, v = some (.ref a) ∧ He a = none ∧ ¬ L a ∧ a ∉ ρ ∧ H a = some (.lst vs) ∧ VRs K H L ρ vs ds
  | some (.m ds) => ∃ a vs, v = some (.ref a) ∧ He a = none ∧ ¬ L a ∧ a ∉ ρ ∧ H a = some (.dK vs) ∧ VRk K H L ρ vs ds
/-- the frame -/
structure ER (He : Hp) (σ : Sg) (δ : DEnv) : Prop where
  len : σ.length = δ.length
  cell : ∀ (i : Nat) c, δ[i]? = some c → CellR K H L ρ He (σ[i]?.join) c
  inj : ∀ i j a, OwnAt σ δ i a → OwnAt σ δ j a → i = j
/-- what an expression hands back -/
def CR (H0 : Hp) (O : LP) (v : V) : Cell → Prop
  | .v d => VR K H (fun a => L a ∨ O a) ρ v d
  | .l ds => ∃ a vs, v = .ref a ∧ H0 a = none ∧ ¬ L a ∧ a ∉ ρ ∧ H a = some (.lst vs) ∧ VRs K H (fun a => L a ∨ O a) ρ vs ds
  | .m ds => ∃ a vs, v = .ref a ∧ H0 a = none ∧ ¬ L a ∧ a ∉ ρ ∧ H a = some (.dK vs) ∧ VRk K H (fun a => L a ∨ O a) ρ vs ds
end
structure Gh where
  H : Hp
  L : LP
  ρ : List Addr
structure Rep (K : PySem.W.Frag) (g : Gh) (H : Hp) (L : LP) (ρ : List Addr) (σ : Sg) (δ : DEnv) (S : Store) : Prop where
  sr : SR K H L ρ S
  er : ER K H L ρ g.H σ δ
  st : Stp K g.H g.L g.ρ H L ρ
section
variable {K : PySem.W.Frag} {g : Gh} {H H' H1 H2 : Hp} {L L' L1 L2 : LP} {ρ ρ' ρ1 ρ2 : List Addr} {σ : Sg} {δ : DEnv} {S S' : Store}
theorem Rep.ownH (r : Rep K g H L ρ σ δ S) {a : Addr} (h : own σ δ a) : g.H a = none ∧ ¬ L a ∧ a ∉ ρ ∧ ∃ o, H a = some o ∧ (∀ xs, o ≠ .tup xs) ∧ ∀ ob u, o ≠ .frz ob u := by
  obtain ⟨i, c, h1, h2, h3⟩ := h
  have q := r.er.cell i _ h1
  cases c with
  | v d => cases h2
  | l ds =>
    obtain ⟨b, vs, e, a1, a2, a3, a4, _⟩ := q
    rw [h3] at e
    cases e
    exact ⟨a1, a2, a3, _, a4, fun xs z => (nomatch z), fun ob u z => (nomatch z)⟩
  | m ds =>
    obtain ⟨b, vs, e, a1, a2, a3, a4, _⟩ := q
    rw [h3] at e
    cases e
    exact ⟨a1, a2, a3, _, a4, fun xs z => (nomatch z), fun ob u z => (nomatch z)⟩
theorem Rep.ownKeep (r : Rep K g H L ρ σ δ S) (s : Stp K H L ρ H' L' ρ') : ∀ a, own σ δ a → ∀ o, H a = some o → H' a = some o :=
  fun a h o e => s.keep a o e (r.ownH h).2.2.1
/-- behind an expression the frame stands -/
theorem Rep.step (r : Rep K g H L ρ σ δ S) (s : Stp K H L ρ H' L' ρ') (sr : SR K H' L' ρ' S') : Rep K g H' L' ρ' σ δ S' := by
  obtain ⟨rr, er', nr⟩ := s.pre
  have nL : ∀ a o, H a = some o → ¬ L a → ¬ L' a := fun a o h n z => by
    rcases s.new a z with z | z
    · exact n z
    · rw [h] at z; cases z
  have nρ : ∀ a o, H a = some o → a ∉ ρ → a ∉ ρ' := fun a o h n z => by
    rw [er'] at z
    rcases List.mem_append.mp z with z | z
    · exact n z
    · rw [nr a z] at h; cases h
  refine ⟨sr, ⟨r.er.len, fun i c h => ?_, r.er.inj⟩, r.st.trans s⟩
  have q := r.er.cell i c h
  cases c with
  | none => trivial
  | some c =>
    cases c with
    | v d =>
      obtain ⟨u, e, v⟩ := q
      exact ⟨u, e, v.mo s.mo⟩
    | l ds =>
      obtain ⟨a, vs, e, a1, a2, a3, a4, a5⟩ := q
      exact ⟨a, vs, e, a1, nL a _ a4 a2, nρ a _ a4 a3, s.keep a _ a4 a3, a5.mo s.mo⟩
    | m ds =>
      obtain ⟨a, vs, e, a1, a2, a3, a4, a5⟩ := q
      exact ⟨a, vs, e, a1, nL a _ a4 a2, nρ a _ a4 a3, s.keep a _ a4 a3, a5.mo s.mo⟩
/-- more is frozen: a new object at a -/
theorem SR.freeze (sr : SR K H L ρ S) {a : Addr} {o : HO} (h : H a = some o) (ha : a ∉ ρ) : SR K H (fun b => L b ∨ b = a) ρ S :=
  ⟨sr.len, sr.nd, fun b hb z => z.elim (sr.apart b hb) fun e => ha (e ▸ hb), fun n b o h1 h2 => by
    have q := sr.obj n b o h1 h2
    cases o with
    | lst ds =>
      obtain ⟨vs, e, r⟩ := q
      exact ⟨vs, e, r⟩, fun b z => z.elim (sr.lthr b) fun e => ⟨o, e ▸ h⟩⟩
end
/-- the wish about exceptions, in data -/
abbrev XQ := Xn → DEnv → Store → Prop
abbrev CQ := Cell → Store → Prop
/-- a meaning of an expression -/
abbrev Wp := DEnv → Store → CQ → XQ → Prop
def XR (K : PySem.W.Frag) (mg : Str → Option Value) (Hg H : Hp) (L : LP) (ρ : List Addr) (x : Xn) (cls : Value) (d : Option Addr) : Prop :=
  mg x.cls = some cls ∧ ((x.fs = [] ∧ d = none) ∨ ∃ dd fs, d = some dd ∧ Hg dd = none ∧ H dd = some (.xd fs) ∧ fs.map (·.1) = x.fs.map (·.1) ∧ VRs K H L ρ (fs.map (·.2)) (x.fs.map (·.2)))
/-- X behind the data-wish Xq -/
def XOK (K : PySem.W.Frag) (mg : Str → Option Value) (W : WX) (g : Gh) (Xq : XQ) : Prop :=
  ∀ x δ S, Xq x δ S → ∀ σ H L ρ cls d, Rep K g H L ρ σ δ S → XR K mg g.H H (fun a => L a ∨ own σ δ a) ρ x cls d → W cls d σ H
/-- t is a sound reading of the meaning wp -/
def Snd (K : PySem.W.Frag) (mg : Str → Option Value) (W : WX) (t : TE) (wp : Wp) : Prop :=
  ∀ g H L ρ σ δ S, Rep K g H L ρ σ δ S → ∀ Q Xq, wp δ S Q Xq → XOK K mg W g Xq →
    ∀ P : VK, (∀ c S', Q c S' → ∀ v H' L' ρ', Stp K H L ρ H' L' ρ' → SR K H' L' ρ' S' → CR K H' L' ρ' H (own σ δ) v c → P v H') → t σ H P
/-- the reading of a meaning -/
def tD (K : PySem.W.Frag) (mg : Str → Option Value) (W : WX) (wp : Wp) : TE := fun σ H P =>
  ∃ g L ρ δ S Q Xq, Rep K g H L ρ σ δ S ∧ wp δ S Q Xq ∧ XOK K mg W g Xq ∧
    ∀ c S', Q c S' → ∀ v H' L' ρ', Stp K H L ρ H' L' ρ' → SR K H' L' ρ' S' → CR K H' L' ρ' H (own σ δ) v c → P v H'
theorem snd_tD {K : PySem.W.Frag} {mg : Str → Option Value} {W : WX} {wp : Wp} : Snd K mg W (tD K mg W wp) wp :=
  fun g H L ρ σ δ S r Q Xq h x P k => ⟨g, L, ρ, δ, S, Q, Xq, r, h, x, k⟩
theorem PE.weak {X : Cx} {e : Expr} {t t' : TE} (h : PE X e t) (w : ∀ σ H P, t' σ H P → t σ H P) : PE X e t' :=
  ⟨fun pins s σ H Q I hq => h.run pins s σ H Q I (w _ _ _ hq)⟩
theorem PE.toD {X : Cx} {e : Expr} {t : TE} {W : WX} {wp : Wp} (h : PE X e t) (s : Snd X.K X.mg W t wp) : PE X e (tD X.K X.mg W wp) :=
  PE.weak h fun σ H P ⟨g, L, ρ, δ, S, Q, Xq, r, hw, x, k⟩ => s g H L ρ σ δ S r Q Xq hw x P k
/-! ### a value of a cell: frozen on the spot -/
section
variable {K : PySem.W.Frag} {H : Hp} {L : LP} {ρ : List Addr} {O : LP} {S : Store} {v : V} {c : Cell}
/-- the result as a frozen value: L grows where it was a new list or dict -/
theorem CR.fz {H0 : Hp} {L0 : LP} {ρ0 : List Addr} (sr : SR K H L ρ S) (h : CR K H L ρ H0 O v c) (s : Stp K H0 L0 ρ0 H L ρ) :
    ∃ L', Stp K H0 L0 ρ0 H L' ρ ∧ SR K H L' ρ S ∧ VR K H (fun a => L' a ∨ O a) ρ v (fz c) ∧ ∀ a, L a → L' a := by
  cases c with
  | v d => exact ⟨L, s, sr, h, fun _ h => h⟩
  | l ds =>
    obtain ⟨a, vs, rfl, h1, h2, h3, h4, h5⟩ := h
    refine ⟨fun b => L b ∨ b = a, ⟨s.keep, fun b z => .inl (s.sub b z), fun b z => z.elim (s.new b) fun e => .inr (e ▸ h1), s.pre, s.tup, s.frz, s.fro, s.thr⟩, sr.freeze h4 h3, ?_, fun _ z => .inl z⟩
    exact .lst (.inl (.inr rfl)) h4 (h5.mo (.sub fun b z => z.elim (fun z => .inl (.inl z)) .inr))
  | m ds =>
    obtain ⟨a, vs, rfl, h1, h2, h3, h4, h5⟩ := h
    refine ⟨fun b => L b ∨ b = a, ⟨s.keep, fun b z => .inl (s.sub b z), fun b z => z.elim (s.new b) fun e => .inr (e ▸ h1), s.pre, s.tup, s.frz, s.fro, s.thr⟩, sr.freeze h4 h3, ?_, fun _ z => .inl z⟩
    exact .dct (.inl (.inr rfl)) h4 (h5.mo (.sub fun b z => z.elim (fun z => .inl (.inl z)) .inr))
end
end DL
/-! DL3: operands, argument lists, tests. -/
namespace DL
open PySem PySem.Spec PyProof.Rows L2
abbrev VQ := Val → Store → Prop
/-- the value of an expression, frozen -/
def wV (w : Wp) (δ : DEnv) (S : Store) (k : VQ) (X : XQ) : Prop := w δ S (fun c S' => k (fz c) S') X
abbrev F1 := Val → Store → (Cell → Prop) → Prop
abbrev F2 := Val → Val → Store → (Cell → Prop) → Prop
abbrev FN := List Val → Store → (Cell → Prop) → Prop
def w1 (f : F1) (wa : Wp) : Wp := fun δ S Q X => wV wa δ S (fun x S1 => f x S1 (fun c => Q c S1)) X
def w2 (f : F2) (wa wb : Wp) : Wp := fun δ S Q X => wV wa δ S (fun x S1 => wV wb δ S1 (fun y S2 => f x y S2 (fun c => Q c S2)) X) X
/-- a list of arguments, from the left -/
abbrev WpA := DEnv → Store → (List Val → Store → Prop) → XQ → Prop
def wNil : WpA := fun _ S Q _ => Q [] S
def wCons (wa : Wp) (wr : WpA) : WpA := fun δ S Q X => wV wa δ S (fun x S1 => wr δ S1 (fun xs S2 => Q (x :: xs) S2) X) X
def wN (f : FN) (wr : WpA) : Wp := fun δ S Q X => wr δ S (fun xs S1 => f xs S1 (fun c => Q c S1)) X
/-- a test -/
abbrev WpT := DEnv → Store → (Bool → Store → Prop) → XQ → Prop
section
variable {K : PySem.W.Frag} {mg : Str → Option Value} {W : WX} {H H' H0 H1 H2 : Hp} {L L' L0 L1 L2 : LP} {ρ ρ' ρ0 ρ1 ρ2 : List Addr} {σ : Sg} {δ : DEnv} {S S' : Store} {O : LP} {g : Gh}
structure Ctx (K : PySem.W.Frag) (H : Hp) (L : LP) (ρ : List Addr) (O : LP) (S : Store) : Prop where
  sr : SR K H L ρ S
  oo : ∀ a, O a → ¬ L a ∧ a ∉ ρ ∧ ∃ o, H a = some o
theorem Rep.ctx (r : Rep K g H L ρ σ δ S) : Ctx K H L ρ (own σ δ) S := ⟨r.sr, fun a h => ⟨(r.ownH h).2.1, (r.ownH h).2.2.1, let ⟨o, e, _⟩ := (r.ownH h).2.2.2; ⟨o, e⟩⟩⟩
theorem CR.older {v : V} {c : Cell} (s : Stp K H0 L0 ρ0 H1 L1 ρ1) (h : CR K H L ρ H1 O v c) : CR K H L ρ H0 O v c := by
  cases c with
  | v d => exact h
  | l ds => obtain ⟨a, vs, e, n, r⟩ := h; exact ⟨a, vs, e, s.non n, r⟩
  | m ds => obtain ⟨a, vs, e, n, r⟩ := h; exact ⟨a, vs, e, s.non n, r⟩
/-- what follows an operation that leaves the store as it was -/
def Fin (K : PySem.W.Frag) (H : Hp) (L : LP) (ρ : List Addr) (O : LP) (S : Store) (q : Cell → Prop) (P : VK) : Prop :=
  ∀ c, q c → ∀ v H' L' ρ', Stp K H L ρ H' L' ρ' → SR K H' L' ρ' S → CR K H' L' ρ' H O v c → P v H'
theorem Fin.same {q : Cell → Prop} {P : VK} (f : Fin K H L ρ O S q P) (c : Ctx K H L ρ O S) {d : Val} {v : V} (hq : q (.v d)) (r : VR K H (fun a => L a ∨ O a) ρ v d) : P v H :=
  f _ hq v H L ρ .refl c.sr r
theorem Stp.alloc {p : Addr} {o : HO} (h : H p = none) : Stp K H L ρ (upd H p o) L ρ := by
  have k : ∀ a u, H a = some u → upd H p o a = some u := fun a u e => by rw [upd_ne (ne_of_none e h)]; exact e
  exact ⟨fun a u e _ => k a u e, fun _ z => z, fun _ z => .inl z, ⟨[], by simp, by simp⟩, fun a xs e => k a _ e, fun a u w e => k a _ e, fun a u _ e => k a u e, fun a u e => ⟨u, k a u e⟩⟩
theorem SR.mo (sr : SR K H L ρ S) (hk : ∀ a ∈ ρ, ∀ o, H a = some o → H' a = some o) (m : Mo K H L ρ H' L' ρ) (hL : ∀ a ∈ ρ, ¬ L' a) (ht : ∀ a, L' a → ∃ o, H' a = some o) : SR K H' L' ρ S :=
  ⟨sr.len, sr.nd, hL, fun n a o h1 h2 => by
    have q := sr.obj n a o h1 h2
    cases o with
    | lst ds =>
      obtain ⟨vs, e, r⟩ := q
      exact ⟨vs, hk a (List.mem_of_getElem? h1) _ e, r.mo ⟨m.tup, m.frz, fun _ z => z.elim, m.ref⟩⟩, ht⟩
theorem SR.alloc {p : Addr} {o : HO} (sr : SR K H L ρ S) (h : H p = none) : SR K (upd H p o) L ρ S :=
  sr.mo (fun a _ u e => by rw [upd_ne (ne_of_none e h)]; exact e) (Stp.alloc (K := K) (L := L) (ρ := ρ) h).mo sr.apart
    fun a hl => let ⟨u, e⟩ := sr.lthr a hl; ⟨u, by rw [upd_ne (ne_of_none e h)]; exact e⟩
theorem SR.notin (sr : SR K H L ρ S) {p : Addr} (h : H p = none) : p ∉ ρ := fun hm => by
  obtain ⟨n, hn⟩ := List.getElem?_of_mem hm
  have hl : n < S.length := by rw [← sr.len]; exact (List.getElem?_eq_some_iff.mp hn).1
  have q := sr.obj n p _ hn (List.getElem?_eq_getElem hl)
  cases e : S[n] with
  | lst ds => rw [e] at q; obtain ⟨vs, e2, _⟩ := q; rw [h] at e2; cases e2
theorem SR.notL (sr : SR K H L ρ S) {p : Addr} (h : H p = none) : ¬ L p := fun hl => by
  obtain ⟨o, e⟩ := sr.lthr p hl
  rw [h] at e; cases e
theorem Ctx.al {p : Addr} {o : HO} (c : Ctx K H L ρ O S) (h : H p = none) : Mo K H (fun a => L a ∨ O a) ρ (upd H p o) (fun a => L a ∨ O a) ρ :=
  (Stp.alloc (K := K) (L := L) (ρ := ρ) h).moO fun a ho u e => by rw [upd_ne (ne_of_none e h)]; exact e
/-- a new tuple, a new list -/
theorem Fin.tup {q : Cell → Prop} {P : VK} (f : Fin K H L ρ O S q P) (c : Ctx K H L ρ O S) {ds : List Val} {vs : List V} (hq : q (.v (.tup ds))) (r : VRs K H (fun a => L a ∨ O a) ρ vs ds) :
    ∀ p (o : Obj), H p = none → o.dict = none → P (.ref p) (upd H p (.frz o (.tup vs))) := fun p o hp hd =>
  f _ hq _ _ L ρ (Stp.alloc hp) (c.sr.alloc hp) (.tup ⟨o, upd_same, hd⟩ (r.mo (c.al hp)))
theorem Fin.lst {q : Cell → Prop} {P : VK} (f : Fin K H L ρ O S q P) (c : Ctx K H L ρ O S) {ds : List Val} {vs : List V} (hq : q (.l ds)) (r : VRs K H (fun a => L a ∨ O a) ρ vs ds) :
    ∀ p, H p = none → P (.ref p) (upd H p (.lst vs)) := fun p hp =>
  f _ hq _ _ L ρ (Stp.alloc hp) (c.sr.alloc hp) ⟨p, vs, rfl, hp, c.sr.notL hp, c.sr.notin hp, upd_same, r.mo (c.al hp)⟩
theorem Fin.dct {q : Cell → Prop} {P : VK} (f : Fin K H L ρ O S q P) (c : Ctx K H L ρ O S) {ds : List (Key × Val)} {vs : List (Key × V)} (hq : q (.m ds)) (r : VRk K H (fun a => L a ∨ O a) ρ vs ds) :
    ∀ p, H p = none → P (.ref p) (upd H p (.dK vs)) := fun p hp =>
  f _ hq _ _ L ρ (Stp.alloc hp) (c.sr.alloc hp) ⟨p, vs, rfl, hp, c.sr.notL hp, c.sr.notin hp, upd_same, r.mo (c.al hp)⟩
def Op1 (K : PySem.W.Frag) (r : V → Hp → VK → Prop) (f : F1) : Prop := ∀ H L ρ O S x d, Ctx K H L ρ O S → VR K H (fun a => L a ∨ O a) ρ x d → ∀ q, f d S q → ∀ P, Fin K H L ρ O S q P → r x H P
def Op2 (K : PySem.W.Frag) (r : R2) (f : F2) : Prop := ∀ H L ρ O S x y d e, Ctx K H L ρ O S → VR K H (fun a => L a ∨ O a) ρ x d → VR K H (fun a => L a ∨ O a) ρ y e → ∀ q, f d e S q → ∀ P, Fin K H L ρ O S q P → r x y H P
def OpN (K : PySem.W.Frag) (r : List V → Hp → VK → Prop) (f : FN) : Prop := ∀ H L ρ O S xs ds, Ctx K H L ρ O S → VRs K H (fun a => L a ∨ O a) ρ xs ds → ∀ q, f ds S q → ∀ P, Fin K H L ρ O S q P → r xs H P
/-- two expressions in a row; what the second leaves of the first -/
theorem Snd.seq {ta : TE} {wa : Wp} (ha : Snd K mg W ta wa) (rep : Rep K g H L ρ σ δ S) {Xq : XQ} {k : VQ} (hw : wV wa δ S k Xq) (hx : XOK K mg W g Xq) {P : VK}
    (hk : ∀ d S1, k d S1 → ∀ x H1 L1 ρ1, Stp K H L ρ H1 L1 ρ1 → Rep K g H1 L1 ρ1 σ δ S1 → VR K H1 (fun a => L1 a ∨ own σ δ a) ρ1 x d → P x H1) : ta σ H P := by
  refine ha g H L ρ σ δ S rep _ Xq hw hx P fun c S1 hq x H1 L1 ρ1 st sr cr => ?_
  obtain ⟨L1', st', sr', vr, _⟩ := CR.fz sr cr st
  exact hk _ S1 hq x H1 L1' ρ1 st' (rep.step st' sr') vr
theorem VR.later (rep : Rep K g H L ρ σ δ S) (st : Stp K H L ρ H' L' ρ') {x : V} {d : Val} (h : VR K H (fun a => L a ∨ own σ δ a) ρ x d) : VR K H' (fun a => L' a ∨ own σ δ a) ρ' x d :=
  h.mo (st.moO (rep.ownKeep st))
theorem VRs.later (rep : Rep K g H L ρ σ δ S) (st : Stp K H L ρ H' L' ρ') {x : List V} {d : List Val} (h : VRs K H (fun a => L a ∨ own σ δ a) ρ x d) : VRs K H' (fun a => L' a ∨ own σ δ a) ρ' x d :=
  h.mo (st.moO (rep.ownKeep st))
theorem snd_op1 {ta : TE} {wa : Wp} {r : V → Hp → VK → Prop} {f : F1} (ha : Snd K mg W ta wa) (ho : Op1 K r f) : Snd K mg W (fun σ H Q => ta σ H fun x H1 => r x H1 Q) (w1 f wa) := by
  intro g H L ρ σ δ S rep Q Xq hw hx P hP
  refine ha.seq rep hw hx fun d S1 hk x H1 L1 ρ1 st1 rep1 v1 => ?_
  exact ho H1 L1 ρ1 (own σ δ) S1 x d rep1.ctx v1 _ hk P fun c hc v H' L' ρ' st sr cr => hP c S1 hc v H' L' ρ' (st1.trans st) sr (cr.older st1)
theorem snd_op2 {ta tb : TE} {wa wb : Wp} {r : R2} {f : F2} (ha : Snd K mg W ta wa) (hb : Snd K mg W tb wb) (ho : Op2 K r f) : Snd K mg W (tOp r ta tb) (w2 f wa wb) := by
  intro g H L ρ σ δ S rep Q Xq hw hx P hP
  refine ha.seq rep hw hx fun d S1 hk x H1 L1 ρ1 st1 rep1 v1 => ?_
  refine hb.seq rep1 hk hx fun e S2 hk2 y H2 L2 ρ2 st2 rep2 v2 => ?_
  exact ho H2 L2 ρ2 (own σ δ) S2 x y d e rep2.ctx (v1.later rep1 st2) v2 _ hk2 P fun c hc v H' L' ρ' st sr cr =>
    hP c S2 hc v H' L' ρ' ((st1.trans st2).trans st) sr (cr.older (st1.trans st2))
/-! ### argument lists -/
def SndA (K : PySem.W.Frag) (mg : Str → Option Value) (W : WX) (t : TA) (wp : WpA) : Prop :=
  ∀ g H L ρ σ δ S, Rep K g H L ρ σ δ S → ∀ Q Xq, wp δ S Q Xq → XOK K mg W g Xq →
    ∀ P : List V → Hp → Prop, (∀ ds S', Q ds S' → ∀ vs H' L' ρ', Stp K H L ρ H' L' ρ' → Rep K g H' L' ρ' σ δ S' → VRs K H' (fun a => L' a ∨ own σ δ a) ρ' vs ds → P vs H') → t σ H P
theorem sndA_nil : SndA K mg W tNil wNil := fun g H L ρ σ δ S rep Q Xq hw _ P hP => hP [] S hw [] H L ρ .refl rep .nil
theorem sndA_cons {ta : TE} {wa : Wp} {tr : TA} {wr : WpA} (ha : Snd K mg W ta wa) (hr : SndA K mg W tr wr) : SndA K mg W (tCons ta tr) (wCons wa wr) := by
  intro g H L ρ σ δ S rep Q Xq hw hx P hP
  refine ha.seq rep hw hx fun d S1 hk x H1 L1 ρ1 st1 rep1 v1 => ?_
  refine hr g H1 L1 ρ1 σ δ S1 rep1 _ Xq hk hx _ fun ds S2 hq vs H2 L2 ρ2 st2 rep2 v2 => ?_
  exact hP (d :: ds) S2 hq (x :: vs) H2 L2 ρ2 (st1.trans st2) rep2 (.cons (v1.later rep1 st2) v2)
theorem snd_opN {t : TA} {wr : WpA} {r : List V → Hp → VK → Prop} {f : FN} (ha : SndA K mg W t wr) (ho : OpN K r f) : Snd K mg W (tCB r t) (wN f wr) := by
  intro g H L ρ σ δ S rep Q Xq hw hx P hP
  refine ha g H L ρ σ δ S rep _ Xq hw hx _ fun ds S1 hq xs H1 L1 ρ1 st1 rep1 v1 => ?_
  exact ho H1 L1 ρ1 (own σ δ) S1 xs ds rep1.ctx v1 _ hq P fun c hc v H' L' ρ' st sr cr => hP c S1 hc v H' L' ρ' (st1.trans st) sr (cr.older st1)
/-! ### tests -/
def SndT (K : PySem.W.Frag) (mg : Str → Option Value) (W : WX) (t : TT) (wp : WpT) : Prop :=
  ∀ g H L ρ σ δ S, Rep K g H L ρ σ δ S → ∀ Q Xq, wp δ S Q Xq → XOK K mg W g Xq →
    ∀ P : Bool → Hp → Prop, (∀ b S', Q b S' → ∀ H' L' ρ', Stp K H L ρ H' L' ρ' → Rep K g H' L' ρ' σ δ S' → P b H') → t σ H P
def tDT (K : PySem.W.Frag) (mg : Str → Option Value) (W : WX) (wp : WpT) : TT := fun σ H P =>
  ∃ g L ρ δ S Q Xq, Rep K g H L ρ σ δ S ∧ wp δ S Q Xq ∧ XOK K mg W g Xq ∧ ∀ b S', Q b S' → ∀ H' L' ρ', Stp K H L ρ H' L' ρ' → Rep K g H' L' ρ' σ δ S' → P b H'
theorem snd_tDT {wp : WpT} : SndT K mg W (tDT K mg W wp) wp := fun g H L ρ σ δ S r Q Xq h x P k => ⟨g, L, ρ, δ, S, Q, Xq, r, h, x, k⟩
theorem PT.toD {X : Cx} {e : Expr} {t : TT} {W : WX} {wp : WpT} (h : PT X e t) (s : SndT X.K X.mg W t wp) : PT X e (tDT X.K X.mg W wp) :=
  ⟨fun pins s' σ H Q I hq => h.run pins s' σ H Q I (let ⟨g, L, ρ, δ, S, Q', Xq, r, hw, x, k⟩ := hq; s g H L ρ σ δ S r Q' Xq hw x Q k)⟩
theorem PW.toD {X : Cx} {e : Expr} {t : TT} {W : WX} {wp : WpT} (h : PW X e t) (s : SndT X.K X.mg W t wp) : PW X e (tDT X.K X.mg W wp) :=
  ⟨fun wh pins s' σ H Q I hq => h.run wh pins s' σ H Q I (let ⟨g, L, ρ, δ, S, Q', Xq, r, hw, x, k⟩ := hq; s g H L ρ σ δ S r Q' Xq hw x Q k)⟩
def wAndT (wa wb : WpT) : WpT := fun δ S Q X => wa δ S (fun b S1 => if b = true then wb δ S1 Q X else Q false S1) X
def wOrT (wa wb : WpT) : WpT := fun δ S Q X => wa δ S (fun b S1 => if b = true then Q true S1 else wb δ S1 Q X) X
def wNotT (wa : WpT) : WpT := fun δ S Q X => wa δ S (fun b S1 => Q (!b) S1) X
theorem sndT_and {t u : TT} {wa wb : WpT} (ha : SndT K mg W t wa) (hb : SndT K mg W u wb) : SndT K mg W (tAnd t u) (wAndT wa wb) := by
  intro g H L ρ σ δ S rep Q Xq hw hx P hP
  refine ha g H L ρ σ δ S rep _ Xq hw hx _ fun b S1 hq H1 L1 ρ1 st1 rep1 => ?_
  cases b with
  | true => exact hb g H1 L1 ρ1 σ δ S1 rep1 Q Xq hq hx P fun b S2 hq H2 L2 ρ2 st2 rep2 => hP b S2 hq H2 L2 ρ2 (st1.trans st2) rep2
  | false => exact hP false S1 hq H1 L1 ρ1 st1 rep1
theorem sndT_or {t u : TT} {wa wb : WpT} (ha : SndT K mg W t wa) (hb : SndT K mg W u wb) : SndT K mg W (tOr t u) (wOrT wa wb) := by
  intro g H L ρ σ δ S rep Q Xq hw hx P hP
  refine ha g H L ρ σ δ S rep _ Xq hw hx _ fun b S1 hq H1 L1 ρ1 st1 rep1 => ?_
  cases b with
  | false => exact hb g H1 L1 ρ1 σ δ S1 rep1 Q Xq hq hx P fun b S2 hq H2 L2 ρ2 st2 rep2 => hP b S2 hq H2 L2 ρ2 (st1.trans st2) rep2
  | true => exact hP true S1 hq H1 L1 ρ1 st1 rep1
theorem sndT_not {t : TT} {wa : WpT} (ha : SndT K mg W t wa) : SndT K mg W (tNot t) (wNotT wa) := by
  intro g H L ρ σ δ S rep Q Xq hw hx P hP
  exact ha g H L ρ σ δ S rep _ Xq hw hx _ fun b S1 hq H1 L1 ρ1 st1 rep1 => hP (!b) S1 hq H1 L1 ρ1 st1 rep1
/-- a value's truth -/
abbrev FT := Val → Store → (Bool → Prop) → Prop
def wTru (f : FT) (wa : Wp) : WpT := fun δ S Q X => wV wa δ S (fun x S1 => f x S1 fun b => Q b S1) X
def OpT (K : PySem.W.Frag) (r : V → Hp → (Bool → Hp → Prop) → Prop) (f : FT) : Prop := ∀ H L ρ O S x d, Ctx K H L ρ O S → VR K H (fun a => L a ∨ O a) ρ x d → ∀ q, f d S q → ∀ P : Bool → Hp → Prop, (∀ b, q b → P b H) → r x H P
theorem sndT_tru {ta : TE} {wa : Wp} {r : V → Hp → (Bool → Hp → Prop) → Prop} {f : FT} (ha : Snd K mg W ta wa) (ho : OpT K r f) : SndT K mg W (fun σ H Q => ta σ H fun x H1 => r x H1 Q) (wTru f wa) := by
  intro g H L ρ σ δ S rep Q Xq hw hx P hP
  refine ha.seq rep hw hx fun d S1 hk x H1 L1 ρ1 st1 rep1 v1 => ?_
  exact ho H1 L1 ρ1 (own σ δ) S1 x d rep1.ctx v1 _ hk _ fun b hb => hP b S1 hb H1 L1 ρ1 st1 rep1
end
end DL
/-! DL4: operations on data. -/
namespace DL
open PySem PySem.Spec PyProof.Rows L2
/-! ### data as the library's data -/
mutual
def toPy : Val → PyData
  | .non => .none
  | .bl b => .bool b
  | .int i => .int i
  | .str x => .str x
  | .tup ds => .tuple (toPys ds)
  | .lst ds => .list (toPys ds)
  | .dct [] => .dict []
  | _ => .none
def toPys : List Val → List PyData
  | [] => []
  | d :: ds => toPy d :: toPys ds
end
mutual
def isPy : Val → Bool
  | .non => true
  | .bl _ => true
  | .int _ => true
  | .str x => PyData.strOk x
  | .tup ds => isPys ds
  | .lst ds => isPys ds
  | _ => false
def isPys : List Val → Bool
  | [] => true
  | d :: ds => isPy d && isPys ds
end
mutual
def dep : Val → Nat
  | .tup ds => deps ds + 1
  | .lst ds => deps ds + 1
  | .dct _ => 1
  | _ => 0
def deps : List Val → Nat
  | [] => 0
  | d :: ds => max (dep d) (deps ds)
end
mutual
theorem dep_toPy : ∀ d : Val, isPy d = true → (toPy d).depth = dep d
  | .non, _ => by simp [toPy, PyData.depth, dep]
  | .bl _, _ => by simp [toPy, PyData.depth, dep]
  | .int _, _ => by simp [toPy, PyData.depth, dep]
  | .str _, _ => by simp [toPy, PyData.depth, dep]
  | .tup ds, h => by simp [toPy, PyData.depth, dep]; exact deps_toPys ds (by simpa [isPy] using h)
  | .lst ds, h => by simp [toPy, PyData.depth, dep]; exact deps_toPys ds (by simpa [isPy] using h)
  | .dct _, h => by simp [isPy] at h
  | .ref _, h => by simp [isPy] at h
  | .opq _, h => by simp [isPy] at h
  | .exn .., h => by simp [isPy] at h
  | .ld .., h => by simp [isPy] at h
  | .scr _, h => by simp [isPy] at h
theorem deps_toPys : ∀ ds : List Val, isPys ds = true → PyData.depthAll (toPys ds) = deps ds
  | [], _ => by simp [toPys, PyData.depthAll, deps]
  | d :: ds, h => by
    simp [isPys] at h
    simp [toPys, PyData.depthAll, deps, dep_toPy d h.1, deps_toPys ds h.2]
end
mutual
theorem lay_toPy : ∀ d : Val, isPy d = true → (toPy d).canLay0 = true
  | .non, _ => by simp [toPy, PyData.canLay0]
  | .bl _, _ => by simp [toPy, PyData.canLay0]
  | .int _, _ => by simp [toPy, PyData.canLay0]
  | .str x, h => by simp [isPy] at h; simp [toPy, PyData.canLay0, h]
  | .tup ds, h => by simp [toPy, PyData.canLay0]; exact lays_toPys ds (by simpa [isPy] using h)
  | .lst ds, h => by simp [toPy, PyData.canLay0]; exact lays_toPys ds (by simpa [isPy] using h)
  | .dct _, h => by simp [isPy] at h
  | .ref _, h => by simp [isPy] at h
  | .exn .., h => by simp [isPy] at h
  | .ld .., h => by simp [isPy] at h
  | .opq _, h => by simp [isPy] at h
  | .scr _, h => by simp [isPy] at h
theorem lays_toPys : ∀ ds : List Val, isPys ds = true → PyData.canLayAll0 (toPys ds) = true
  | [], _ => by simp [toPys, PyData.canLayAll0]
  | d :: ds, h => by
    simp [isPys] at h
    simp [toPys, PyData.canLayAll0, lay_toPy d h.1, lays_toPys ds h.2]
end
/-! data that repr shows: a dict only if it is empty -/
mutual
def isR : Val → Bool
  | .non => true
  | .bl _ => true
  | .int _ => true
  | .str _ => true
  | .tup ds => isRs ds
  | .lst ds => isRs ds
  | .dct [] => true
  | _ => false
def isRs : List Val → Bool
  | [] => true
  | d :: ds => isR d && isRs ds
end
mutual
theorem isPy_R : ∀ d : Val, isPy d = true → isR d = true
  | .non, _ => rfl
  | .bl _, _ => rfl
  | .int _, _ => rfl
  | .str _, _ => rfl
  | .tup ds, h => by simp only [isR]; exact isPys_R ds (by simpa [isPy] using h)
  | .lst ds, h => by simp only [isR]; exact isPys_R ds (by simpa [isPy] using h)
  | .dct _, h => by simp [isPy] at h
  | .ref _, h => by simp [isPy] at h
  | .exn .., h => by simp [isPy] at h
  | .ld .., h => by simp [isPy] at h
  | .opq _, h => by simp [isPy] at h
  | .scr _, h => by simp [isPy] at h
  | .rtup _, h => by simp [isPy] at h
theorem isPys_R : ∀ ds : List Val, isPys ds = true → isRs ds = true
  | [], _ => rfl
  | d :: ds, h => by
    simp [isPys] at h
    simp [isRs, isPy_R d h.1, isPys_R ds h.2]
end
mutual
theorem depR_toPy : ∀ d : Val, isR d = true → (toPy d).depth = dep d
  | .non, _ => by simp [toPy, PyData.depth, dep]
  | .bl _, _ => by simp [toPy, PyData.depth, dep]
  | .int _, _ => by simp [toPy, PyData.depth, dep]
  | .str _, _ => by simp [toPy, PyData.depth, dep]
  | .tup ds, h => by simp [toPy, PyData.depth, dep]; exact depsR_toPys ds (by simpa [isR] using h)
  | .lst ds, h => by simp [toPy, PyData.depth, dep]; exact depsR_toPys ds (by simpa [isR] using h)
  | .dct [], _ => by simp [toPy, PyData.depth, PyData.depthKv, dep]
  | .dct (_ :: _), h => by simp [isR] at h
  | .ref _, h => by simp [isR] at h
  | .opq _, h => by simp [isR] at h
  | .exn .., h => by simp [isR] at h
  | .ld .., h => by simp [isR] at h
  | .scr _, h => by simp [isR] at h
  | .rtup _, h => by simp [isR] at h
theorem depsR_toPys : ∀ ds : List Val, isRs ds = true → PyData.depthAll (toPys ds) = deps ds
  | [], _ => by simp [toPys, PyData.depthAll, deps]
  | d :: ds, h => by
    simp [isRs] at h
    simp [toPys, PyData.depthAll, deps, depR_toPy d h.1, depsR_toPys ds h.2]
end
def shpR (d : Val) : Bool := isR d && decide (dep d ≤ 64)
theorem shpR_isR {d : Val} (h : shpR d = true) : isR d = true := (Bool.and_eq_true_iff.mp h).1
theorem shpR_depth {d : Val} (h : shpR d = true) : (toPy d).depth ≤ 64 := by
  obtain ⟨h1, h2⟩ := Bool.and_eq_true_iff.mp h
  rw [depR_toPy d h1]; exact of_decide_eq_true h2
/-- data that == tells -/
def shp (d : Val) : Bool := isPy d && decide (dep d ≤ 64)
theorem shp_shaped {d : Val} (h : shp d = true) : SeqAt.shaped (toPy d) = true := by
  unfold shp at h
  rw [Bool.and_eq_true] at h
  show ((toPy d).canLay0 && decide ((toPy d).depth ≤ 64)) = true
  rw [Bool.and_eq_true, dep_toPy d h.1]
  exact ⟨lay_toPy d h.1, h.2⟩
theorem shp_isPy {d : Val} (h : shp d = true) : isPy d = true := (Bool.and_eq_true_iff.mp h).1
theorem shp_R {d : Val} (h : shp d = true) : shpR d = true := by
  obtain ⟨h1, h2⟩ := Bool.and_eq_true_iff.mp h
  unfold shpR
  rw [isPy_R d h1, h2]; rfl
def veq (a b : Val) : Bool := PyData.eqv (toPy a) (toPy b)
section
variable {K : PySem.W.Frag} {H H' : Hp} {L L' : LP} {ρ ρ' : List Addr} {S S' : Store} {O : LP}
mutual
theorem VR.dp : ∀ {v : V} {d : Val}, VR K H L ρ v d → isPy d = true → Dp K H v (toPy d)
  | _, _, .non, _ => by simp only [toPy]; exact .non
  | _, _, .bl b, _ => by simp only [toPy]; exact .bl b
  | _, _, .int i, _ => by simp only [toPy]; exact .int i
  | _, _, .str x, _ => by simp only [toPy]; exact .str x
  | _, _, .tup h r, p => by simp only [toPy]; exact .tup h.sq (VRs.dp r (by simpa [isPy] using p))
  | _, _, .rtup _ _, p => by simp [isPy] at p
  | _, _, .lst _ h r, p => by simp only [toPy]; exact .lst (SqL.of h) (VRs.dp r (by simpa [isPy] using p))
  | _, _, .dct _ _ _, p => by simp [isPy] at p
  | _, _, .ref _, p => by simp [isPy] at p
  | _, _, .opq _, p => by simp [isPy] at p
  | _, _, .exn _ _ _, p => by simp [isPy] at p
  | _, _, .ld _ _, p => by simp [isPy] at p
  | _, _, .scrL _ _, p => by simp [isPy] at p
  | _, _, .scrK _, p => by simp [isPy] at p
theorem VRs.dp : ∀ {v : List V} {d : List Val}, VRs K H L ρ v d → isPys d = true → DpAll K H v (toPys d)
  | _, _, .nil, _ => by simp only [toPys]; exact .nil
  | _, _, .cons h r, p => by
    simp [isPys] at p
    simp only [toPys]
    exact .cons (VR.dp h p.1) (VRs.dp r p.2)
end
/-! data as repr reads it -/
/-- the table of modules is held, and it is no list -/
def SysK (K : PySem.W.Frag) : Prop := ∃ o, K.lookup sysModules = some o ∧ o.cls ≠ .type "list"
mutual
inductive DpR (K : PySem.W.Frag) (H : Hp) : V → PyData → Prop
  | non : DpR K H .non .none
  | bl (b : Bool) : DpR K H (.bl b) (.bool b)
  | int (i : Int) : DpR K H (.int i) (.int i)
  | str (x : Str) : DpR K H (.str x) (.str x)
  | lst {a : Addr} {xs : List V} {ds : List PyData} : SqL K H a xs → DpRs K H xs ds → DpR K H (.ref a) (.list ds)
  | tup {a : Addr} {xs : List V} {ds : List PyData} : SqT K H a xs → DpRs K H xs ds → DpR K H (.ref a) (.tuple ds)
  | dct {a : Addr} : H a = some (.dK []) → DpR K H (.ref a) (.dict [])
inductive DpRs (K : PySem.W.Frag) (H : Hp) : List V → List PyData → Prop
  | nil : DpRs K H [] []
  | cons {v : V} {vs : List V} {d : PyData} {ds : List PyData} : DpR K H v d → DpRs K H vs ds → DpRs K H (v :: vs) (d :: ds)
end
mutual
theorem VR.dpR : ∀ {v : V} {d : Val}, VR K H L ρ v d → isR d = true → DpR K H v (toPy d)
  | _, _, .non, _ => by simp only [toPy]; exact .non
  | _, _, .bl b, _ => by simp only [toPy]; exact .bl b
  | _, _, .int i, _ => by simp only [toPy]; exact .int i
  | _, _, .str x, _ => by simp only [toPy]; exact .str x
  | _, _, .tup h r, p => by simp only [toPy]; exact .tup h.sq (VRs.dpR r (by simpa [isR] using p))
  | _, _, .rtup _ _, p => by simp [isR] at p
  | _, _, .lst _ h r, p => by simp only [toPy]; exact .lst (SqL.of h) (VRs.dpR r (by simpa [isR] using p))
  | _, _, .dct _ h .nil, _ => by simp only [toPy]; exact .dct h
  | _, _, .dct _ _ (.cons _ _), p => by simp [isR] at p
  | _, _, .ref _, p => by simp [isR] at p
  | _, _, .opq _, p => by simp [isR] at p
  | _, _, .exn _ _ _, p => by simp [isR] at p
  | _, _, .ld _ _, p => by simp [isR] at p
  | _, _, .scrL _ _, p => by simp [isR] at p
  | _, _, .scrK _, p => by simp [isR] at p
theorem VRs.dpR : ∀ {v : List V} {d : List Val}, VRs K H L ρ v d → isRs d = true → DpRs K H v (toPys d)
  | _, _, .nil, _ => by simp only [toPys]; exact .nil
  | _, _, .cons h r, p => by
    simp [isRs] at p
    simp only [toPys]
    exact .cons (VR.dpR h p.1) (VRs.dpR r p.2)
end
section
variable {X : Cx} {pins : List (Addr × Obj)} {σ : Sg} {s : Shared}
theorem sys_list (I : Inv X pins σ H s) (sk : SysK X.K) {a : Addr} {o : Obj} (h : s.heap.get? a = some o) (hc : o.cls = .type "list") : a ≠ sysModules := fun e => by
  obtain ⟨u, h1, h2⟩ := sk
  have := I.kIn _ _ h1
  rw [← e, h] at this
  cases this
  exact h2 hc
mutual
theorem DpR.reads (I : Inv X pins σ H s) (sk : SysK X.K) : ∀ (d : PyData) (v : V) (u : Value), DpR X.K H v d → RelV v u → ∃ as, Reads s.heap u d as ∧ sysModules ∉ as
  | .none, _, _, h, r => by cases h; cases r; exact ⟨_, Reads.none, by simp⟩
  | .bool b, _, _, h, r => by cases h; cases r; exact ⟨_, Reads.bool b, by simp⟩
  | .int i, _, _, h, r => by cases h; obtain ⟨t, rfl⟩ := r; exact ⟨_, Reads.int i t, by simp⟩
  | .str x, _, _, h, r => by cases h; obtain ⟨t, rfl⟩ := r; exact ⟨_, Reads.str x t, by simp⟩
  | .list ds, _, _, h, r => by
    cases h with
    | lst q ha =>
      cases r
      obtain ⟨its, rv, ⟨o, n, ho, hc, _, hd⟩, _⟩ := I.list q
      obtain ⟨as, hr, hn⟩ := DpRs.reads I sk ds _ its ha rv
      exact ⟨_, Reads.list ho hc hd hr, fun z => (List.mem_cons.mp z).elim (fun z => sys_list I sk ho hc z.symm) hn⟩
  | .tuple ds, _, _, h, r => by
    cases h with
    | tup q ha =>
      cases r
      obtain ⟨its, rv, ⟨o, ho, hc, n, hd⟩, _⟩ := I.tuple q
      obtain ⟨as, hr, hn⟩ := DpRs.reads I sk ds _ its ha rv
      exact ⟨_, Reads.tuple ho hc hd hr, hn⟩
  | .dict _, _, _, h, r => by
    cases h with
    | dct q =>
      cases r
      obtain ⟨_, y, vs, kv, o, es, ep, ho, hx, hd, _, hp, _⟩ := I.hok _ _ q
      cases kv
      have e : es.toList = [] := by
        generalize es.toList = l at hp
        cases hp
        rfl
      refine ⟨_, Reads.dict (as := []) (bs := []) ho hx.1 hd (by rw [e]; exact .nil) (by rw [e]; exact .nil), ?_⟩
      intro z
      have e2 := (List.mem_append.mp z).elim List.mem_singleton.mp fun z => (nomatch z)
      rw [← e2] at y
      simp at y
theorem DpRs.reads (I : Inv X pins σ H s) (sk : SysK X.K) : ∀ (ds : List PyData) (vs : List V) (us : List Value), DpRs X.K H vs ds → Vals vs us → ∃ as, ReadsAll s.heap us ds as ∧ sysModules ∉ as
  | [], _, _, h, r => by cases h; cases r; exact ⟨_, ReadsAll.nil, by simp⟩
  | d :: ds, _, _, h, r => by
    cases h with
    | cons h1 h2 =>
      cases r with
      | cons r1 r2 =>
        obtain ⟨as, q1, n1⟩ := DpR.reads I sk d _ _ h1 r1
        obtain ⟨bs, q2, n2⟩ := DpRs.reads I sk ds _ _ h2 r2
        exact ⟨_, ReadsAll.cons q1 q2, fun z => (List.mem_append.mp z).elim n1 n2⟩
end
end
/-- what stands in the store, one step deep -/
def drf (S : Store) : Val → Val
  | .ref n => match S[n]? with
    | some (.lst ds) => .lst ds
    | none => .ref n
  | d => d
/-- a list or tuple (true), its items -/
def sq (S : Store) : Val → Option (Bool × List Val)
  | .tup ds => some (true, ds)
  | .lst ds => some (false, ds)
  | .ref n => match S[n]? with
    | some (.lst ds) => some (false, ds)
    | none => none
  | .scr ns => some (false, ns.map Val.int)
  | _ => none
theorem VRs.ints : ∀ (ns : List Int), VRs K H L ρ (ns.map V.int) (ns.map Val.int)
  | [] => .nil
  | n :: ns => .cons (.int n) (VRs.ints ns)
theorem Ctx.obj (c : Ctx K H L ρ O S) {a : Addr} {n : Nat} {ds : List Val} (h : ρ[n]? = some a) (e : S[n]? = some (.lst ds)) : ∃ vs, H a = some (.lst vs) ∧ VRs K H (fun a => L a ∨ O a) ρ vs ds := by
  obtain ⟨vs, e1, r⟩ := c.sr.obj n a _ h e
  exact ⟨vs, e1, r.mo (.sub fun _ z => z.elim)⟩
theorem Ctx.sq (c : Ctx K H L ρ O S) {v : V} {d : Val} {b : Bool} {ds : List Val} (h : VR K H (fun a => L a ∨ O a) ρ v d) (e : sq S d = some (b, ds)) :
    ∃ a vs, v = .ref a ∧ (if b = true then SqT K H a vs else SqL K H a vs) ∧ VRs K H (fun a => L a ∨ O a) ρ vs ds := by
  cases h with
  | tup h r => simp [DL.sq] at e; obtain ⟨rfl, rfl⟩ := e; exact ⟨_, _, rfl, h.sq, r⟩
  | rtup _ _ => simp [DL.sq] at e
  | lst _ h r => simp [DL.sq] at e; obtain ⟨rfl, rfl⟩ := e; exact ⟨_, _, rfl, SqL.of h, r⟩
  | @ref a n h =>
    cases q : S[n]? with
    | none => simp [DL.sq, q] at e
    | some o =>
      cases o with
      | lst xs =>
        simp [DL.sq, q] at e
        obtain ⟨rfl, rfl⟩ := e
        obtain ⟨vs, e1, r⟩ := c.obj h q
        exact ⟨_, vs, rfl, SqL.of e1, r⟩
  | scrL hl h => simp [DL.sq] at e; obtain ⟨rfl, rfl⟩ := e; exact ⟨_, _, rfl, .inl h, VRs.ints _⟩
  | scrK h => simp [DL.sq] at e; obtain ⟨rfl, rfl⟩ := e; exact ⟨_, _, rfl, h _, VRs.ints _⟩
  | non => simp [DL.sq] at e
  | bl _ => simp [DL.sq] at e
  | int _ => simp [DL.sq] at e
  | str _ => simp [DL.sq] at e
  | dct _ _ _ => simp [DL.sq] at e
  | opq _ => simp [DL.sq] at e
  | exn _ _ _ => simp [DL.sq] at e
  | ld _ _ => simp [DL.sq] at e
theorem Ctx.dp (c : Ctx K H L ρ O S) {v : V} {d : Val} (h : VR K H (fun a => L a ∨ O a) ρ v d) (p : isPy (drf S d) = true) : Dp K H v (toPy (drf S d)) := by
  have same : drf S d = d → Dp K H v (toPy (drf S d)) := fun e => by rw [e] at p ⊢; exact h.dp p
  cases h with
  | @ref a n h =>
    cases q : S[n]? with
    | none => simp [drf, q, isPy] at p
    | some o =>
      cases o with
      | lst xs =>
        simp only [drf, q] at p ⊢
        obtain ⟨vs, e1, r⟩ := c.obj h q
        simp only [toPy]
        exact .lst (SqL.of e1) (r.dp (by simpa [isPy] using p))
  | _ => exact same rfl
theorem Ctx.dpR (c : Ctx K H L ρ O S) {v : V} {d : Val} (h : VR K H (fun a => L a ∨ O a) ρ v d) (p : isR (drf S d) = true) : DpR K H v (toPy (drf S d)) := by
  have same : drf S d = d → DpR K H v (toPy (drf S d)) := fun e => by rw [e] at p ⊢; exact h.dpR p
  cases h with
  | @ref a n h =>
    cases q : S[n]? with
    | none => simp [drf, q, isR] at p
    | some o =>
      cases o with
      | lst xs =>
        simp only [drf, q] at p ⊢
        obtain ⟨vs, e1, r⟩ := c.obj h q
        simp only [toPy]
        exact .lst (SqL.of e1) (r.dpR (by simpa [isR] using p))
  | _ => exact same rfl
end
/-! ### readings by data -/
abbrev G1 := Store → Val → Option Cell
abbrev G2 := Store → Val → Val → Option Cell
abbrev GN := Store → List Val → Option Cell
def rD1 (K : PySem.W.Frag) (f : F1) : V → Hp → VK → Prop := fun x H P => ∃ L ρ O S d q, Ctx K H L ρ O S ∧ VR K H (fun a => L a ∨ O a) ρ x d ∧ f d S q ∧ Fin K H L ρ O S q P
def rD2 (K : PySem.W.Frag) (f : F2) : R2 := fun x y H P => ∃ L ρ O S d e q, Ctx K H L ρ O S ∧ VR K H (fun a => L a ∨ O a) ρ x d ∧ VR K H (fun a => L a ∨ O a) ρ y e ∧ f d e S q ∧ Fin K H L ρ O S q P
def rDN (K : PySem.W.Frag) (f : FN) : List V → Hp → VK → Prop := fun xs H P => ∃ L ρ O S ds q, Ctx K H L ρ O S ∧ VRs K H (fun a => L a ∨ O a) ρ xs ds ∧ f ds S q ∧ Fin K H L ρ O S q P
theorem op1_rD {K : PySem.W.Frag} {f : F1} : Op1 K (rD1 K f) f := fun H L ρ O S x d c v q h P k => ⟨L, ρ, O, S, d, q, c, v, h, k⟩
theorem op2_rD {K : PySem.W.Frag} {f : F2} : Op2 K (rD2 K f) f := fun H L ρ O S x y d e c v w q h P k => ⟨L, ρ, O, S, d, e, q, c, v, w, h, k⟩
theorem opN_rD {K : PySem.W.Frag} {f : FN} : OpN K (rDN K f) f := fun H L ρ O S x d c v q h P k => ⟨L, ρ, O, S, d, q, c, v, h, k⟩
def by1 (g : G1) : F1 := fun d S q => ∃ c, g S d = some c ∧ q c
def by2 (g : G2) : F2 := fun d e S q => ∃ c, g S d e = some c ∧ q c
def byN (g : GN) : FN := fun ds S q => ∃ c, g S ds = some c ∧ q c
def byT (g : Store → Val → Option Bool) : FT := fun d S q => ∃ b, g S d = some b ∧ q b
/-! ### arithmetic, + of sequences and texts -/
def gAdd : G2 := fun _ x y => match x, y with
  | .int i, .int j => some (.v (.int (i + j)))
  | .str a, .str b => if a.length + b.length ≤ sizeLine then some (.v (.str (a ++ b))) else none
  | .tup a, .tup b => if a.length + b.length ≤ sizeLine then some (.v (.tup (a ++ b))) else none
  | .lst a, .lst b => if a.length + b.length ≤ sizeLine then some (.l (a ++ b)) else none
  | _, _ => none
section
variable {X : Cx}
theorem or_add : OpR X (binaryOp .Add) (rD2 X.K (by2 gAdd)) := by
  intro pins s σ H x y v u Q I rx ry h
  obtain ⟨L, ρ, O, S, d, e, q, c, vx, vy, ⟨r, hg, hq⟩, k⟩ := h
  cases vx with
  | int i =>
    cases vy with
    | int j => cases hg; exact op_add pins s σ H _ _ v u Q I rx ry ⟨i, j, rfl, rfl, k.same c hq (.int _)⟩
    | _ => cases hg
  | str a =>
    cases vy with
    | str b =>
      simp only [gAdd] at hg
      split at hg
      · rename_i hz
        cases hg
        exact op_add_str pins s σ H _ _ v u Q I rx ry ⟨a, b, rfl, rfl, hz, k.same c hq (.str _)⟩
      · cases hg
    | _ => cases hg
  | @tup a xs ds h1 r1 =>
    cases vy with
    | @tup b ys es h2 r2 =>
      simp only [gAdd] at hg
      split at hg
      · rename_i hz
        cases hg
        have l1 := r1.length
        have l2 := r2.length
        refine op_catF pins s σ H _ _ v u Q I rx ry ⟨a, b, xs, ys, rfl, rfl, h1.sq, h2.sq, by omega, fun e => ?_, fun _ e => ?_, fun _ _ => k.tup c hq (r1.append r2)⟩
        · subst e
          cases r1
          exact k.same c hq (.tup h2 r2)
        · subst e
          cases r2
          exact k.same c (by rw [List.append_nil] at hq; exact hq) (.tup h1 r1)
      · cases hg
    | _ => cases hg
  | @lst a xs ds _ h1 r1 =>
    cases vy with
    | @lst b ys es _ h2 r2 =>
      simp only [gAdd] at hg
      split at hg
      · rename_i hz
        cases hg
        have l1 := r1.length
        have l2 := r2.length
        exact op_cat pins s σ H _ _ v u Q I rx ry ⟨a, b, xs, ys, rfl, rfl, h1, h2, by omega, k.lst c hq (r1.append r2)⟩
      · cases hg
    | _ => cases hg
  | _ => cases hg
/-- two ints -/
def gI2 (C : Int → Int → Prop) [∀ i j, Decidable (C i j)] (f : Int → Int → Int) : G2 := fun _ x y => match x, y with
  | .int i, .int j => if C i j then some (.v (.int (f i j))) else none
  | _, _ => none
theorem or_I2 {C : Int → Int → Prop} [∀ i j, Decidable (C i j)] {f : Int → Int → Int} {g : Value → Value → Sem Value} (h0 : OpR X g (rI C fun i j => .int (f i j))) : OpR X g (rD2 X.K (by2 (gI2 C f))) := by
  intro pins s σ H x y v u Q I rx ry h
  obtain ⟨L, ρ, O, S, d, e, q, c, vx, vy, ⟨r, hg, hq⟩, k⟩ := h
  cases vx with
  | int i =>
    cases vy with
    | int j =>
      simp only [gI2] at hg
      split at hg
      · rename_i hz
        cases hg
        exact h0 pins s σ H _ _ v u Q I rx ry ⟨i, j, rfl, rfl, hz, k.same c hq (.int _)⟩
      · cases hg
    | _ => cases hg
  | _ => cases hg
instance (i j : Int) : Decidable (CMulW i j) := by unfold CMulW; infer_instance
instance (i j : Int) : Decidable (CDivW i j) := by unfold CDivW; infer_instance
instance (i j : Int) : Decidable (CPow i j) := by unfold CPow; infer_instance
def gSub : G2 := gI2 (fun _ _ => True) fun i j => i - j
def gMul : G2 := gI2 CMulW fun i j => i * j
def gMod : G2 := gI2 (fun _ j => 0 < j) fun i j => i % j
def gFdv : G2 := gI2 CDivW fun i j => i / j
def gPow : G2 := gI2 CPow fun i j => i ^ j.toNat
theorem or_sub : OpR X (binaryOp .Sub) (rD2 X.K (by2 gSub)) := or_I2 fun pins s σ H x y v u Q I rx ry ⟨i, j, e1, e2, _, q⟩ => op_sub pins s σ H x y v u Q I rx ry ⟨i, j, e1, e2, q⟩
theorem or_mod : OpR X (binaryOp .Mod) (rD2 X.K (by2 gMod)) := or_I2 op_mod
theorem or_fdv : OpR X (binaryOp .FloorDiv) (rD2 X.K (by2 gFdv)) := or_I2 op_fdivW
theorem or_pow : OpR X (binaryOp .Pow) (rD2 X.K (by2 gPow)) := or_I2 op_pow
theorem or_mul : OpR X (binaryOp .Mult) (rD2 X.K (by2 gMul)) := or_I2 op_mulW
/-! ### comparisons -/
def gCmpI (f : Int → Int → Bool) (fs : Str → Str → Bool) : G2 := fun _ x y => match x, y with
  | .int i, .int j => some (.v (.bl (f i j)))
  | .str a, .str b => some (.v (.bl (fs a b)))
  | _, _ => none
theorem or_cmpI {f : Int → Int → Bool} {fs : Str → Str → Bool} {g : Value → Value → Sem Value} (h0 : OpR X g (rI0 fun i j => .bl (f i j))) (h1 : OpR X g (fun x y H Q => ∃ i j, x = .str i ∧ y = .str j ∧ Q (.bl (fs i j)) H)) : OpR X g (rD2 X.K (by2 (gCmpI f fs))) := by
  intro pins s σ H x y v u Q I rx ry h
  obtain ⟨L, ρ, O, S, d, e, q, c, vx, vy, ⟨r, hg, hq⟩, k⟩ := h
  cases vx with
  | int i =>
    cases vy with
    | int j => cases hg; exact h0 pins s σ H _ _ v u Q I rx ry ⟨i, j, rfl, rfl, k.same c hq (.bl _)⟩
    | _ => cases hg
  | str i =>
    cases vy with
    | str j => cases hg; exact h1 pins s σ H _ _ v u Q I rx ry ⟨i, j, rfl, rfl, k.same c hq (.bl _)⟩
    | _ => cases hg
  | _ => cases hg
def sLt (a b : Str) : Bool := decide (a.cps.toList < b.cps.toList)
def gLt : G2 := gCmpI (fun i j => decide (i < j)) sLt
def gLe : G2 := gCmpI (fun i j => decide (i ≤ j)) fun a b => !sLt b a
def gGt : G2 := gCmpI (fun i j => decide (j < i)) fun a b => sLt b a
def gGe : G2 := gCmpI (fun i j => decide (j ≤ i)) fun a b => !sLt a b
theorem or_lt : OpR X (compareOp .Lt) (rD2 X.K (by2 gLt)) := or_cmpI op_lt op_lt_str
theorem or_le : OpR X (compareOp .LtE) (rD2 X.K (by2 gLe)) := or_cmpI op_le op_le_str
theorem or_gt : OpR X (compareOp .Gt) (rD2 X.K (by2 gGt)) := or_cmpI op_gt op_gt_str
theorem or_ge : OpR X (compareOp .GtE) (rD2 X.K (by2 gGe)) := or_cmpI op_ge op_ge_str
def gEq : G2 := fun S x y => match x, y with
  | .str a, .str b => some (.v (.bl (decide (a = b))))
  | x, y => if shp (drf S x) = true ∧ shp (drf S y) = true then some (.v (.bl (veq (drf S x) (drf S y)))) else none
def gNe : G2 := fun S x y => match x, y with
  | .str a, .str b => some (.v (.bl (!decide (a = b))))
  | x, y => if shp (drf S x) = true ∧ shp (drf S y) = true then some (.v (.bl (!veq (drf S x) (drf S y)))) else none
theorem VR.str_i {K : PySem.W.Frag} {H : Hp} {L : LP} {ρ : List Addr} {x : V} {i : Str} (h : VR K H L ρ x (.str i)) : x = .str i := by cases h; rfl
theorem dec_str {a b : Str} : decide (V.str a = V.str b) = decide (a = b) := by
  by_cases h : a = b <;> simp [h]
theorem or_eq (hu : X.A.units + 64 < cLine) : OpR X (compareOp .Eq) (rD2 X.K (by2 gEq)) := by
  intro pins s σ H x y v u Q I rx ry h
  obtain ⟨L, ρ, O, S, d, e, q, c, vx, vy, ⟨r, hg, hq⟩, k⟩ := h
  unfold gEq at hg
  split at hg
  · rename_i a b
    cases hg
    rw [vx.str_i] at rx
    rw [vy.str_i] at ry
    exact op_eq pins s σ H _ _ v u Q I rx ry ⟨rfl, by rw [dec_str]; exact k.same c hq (.bl _)⟩
  split at hg
  · rename_i hz
    cases hg
    exact op_eqD hu pins s σ H _ _ v u Q I rx ry ⟨_, _, c.dp vx (shp_isPy hz.1), c.dp vy (shp_isPy hz.2), shp_shaped hz.1, shp_shaped hz.2, k.same c hq (.bl _)⟩
  · cases hg
theorem or_ne (hu : X.A.units + 64 < cLine) : OpR X (compareOp .NotEq) (rD2 X.K (by2 gNe)) := by
  intro pins s σ H x y v u Q I rx ry h
  obtain ⟨L, ρ, O, S, d, e, q, c, vx, vy, ⟨r, hg, hq⟩, k⟩ := h
  unfold gNe at hg
  split at hg
  · rename_i a b
    cases hg
    rw [vx.str_i] at rx
    rw [vy.str_i] at ry
    exact op_ne pins s σ H _ _ v u Q I rx ry ⟨rfl, by rw [dec_str]; exact k.same c hq (.bl _)⟩
  split at hg
  · rename_i hz
    cases hg
    exact op_neD hu pins s σ H _ _ v u Q I rx ry ⟨_, _, c.dp vx (shp_isPy hz.1), c.dp vy (shp_isPy hz.2), shp_shaped hz.1, shp_shaped hz.2, k.same c hq (.bl _)⟩
  · cases hg
/-- is, is not: None and bools -/
def isNon : Val → Option Bool
  | .non => some true
  | .opq _ => none
  | _ => some false
def gIs (neg : Bool) : G2 := fun _ x y => match y with
  | .non => (isNon x).map fun b => .v (.bl (neg != b))
  | .bl b => match x with
    | .bl a => some (.v (.bl (neg != decide (a = b))))
    | _ => none
  | _ => none
theorem VR.non_iff {K : PySem.W.Frag} {H : Hp} {L : LP} {ρ : List Addr} {x : V} {d : Val} {b : Bool} (h : VR K H L ρ x d) (e : isNon d = some b) : decide (x = .non) = b := by
  cases h <;> simp [isNon] at e <;> subst e <;> simp
theorem or_is : OpR X (compareOp .Is) (rD2 X.K (by2 (gIs false))) := by
  intro pins s σ H x y v u Q I rx ry h
  obtain ⟨L, ρ, O, S, d, e, q, c, vx, vy, ⟨r, hg, hq⟩, k⟩ := h
  cases vy with
  | non =>
    simp only [gIs, Option.map_eq_some_iff] at hg
    obtain ⟨b, hb, rfl⟩ := hg
    exact op_isN pins s σ H _ _ v u Q I rx ry ⟨rfl, k.same c (by rw [vx.non_iff hb]; simpa using hq) (.bl _)⟩
  | bl b =>
    cases vx with
    | bl a => cases hg; exact op_isBl pins s σ H _ _ v u Q I rx ry ⟨a, b, rfl, rfl, k.same c (by simpa using hq) (.bl _)⟩
    | _ => cases hg
  | _ => cases hg
theorem or_isNot : OpR X (compareOp .IsNot) (rD2 X.K (by2 (gIs true))) := by
  intro pins s σ H x y v u Q I rx ry h
  obtain ⟨L, ρ, O, S, d, e, q, c, vx, vy, ⟨r, hg, hq⟩, k⟩ := h
  cases vy with
  | non =>
    simp only [gIs, Option.map_eq_some_iff] at hg
    obtain ⟨b, hb, rfl⟩ := hg
    exact op_notN pins s σ H _ _ v u Q I rx ry ⟨rfl, k.same c (by rw [vx.non_iff hb]; simpa using hq) (.bl _)⟩
  | bl b =>
    cases vx with
    | bl a => cases hg; exact op_notBl pins s σ H _ _ v u Q I rx ry ⟨a, b, rfl, rfl, k.same c (by simpa using hq) (.bl _)⟩
    | _ => cases hg
  | _ => cases hg
/-! ### in -/
def anyEq (d : Val) (ds : List Val) : Bool := ds.any fun z => veq z d
def gIn (neg : Bool) : G2 := fun S x y => match y with
  | .str z => match x with
    | .str i => some (.v (.bl (neg != (!(Builtin.Str.occurrences z i 0 z.length 1).isEmpty))))
    | _ => none
  | _ => match sq S y with
    | some (_, ds) => if shp (drf S x) = true ∧ isPys ds = true then some (.v (.bl (neg != anyEq (drf S x) ds))) else none
    | none => none
theorem toPys_any (d : PyData) : ∀ ds : List Val, ((toPys ds).any fun z => PyData.eqv z d) = ds.any fun z => PyData.eqv (toPy z) d
  | [] => rfl
  | x :: ds => by simp [toPys, toPys_any d ds]
theorem shp_room {A : Around} {d : Val} {n : Nat} (h : shp d = true) (hu : A.units + 65 < cLine) : A.units + 1 + min n (toPy d).depth < cLine := by
  have h1 := SeqAt.depth_of_shaped (shp_shaped h)
  have h2 : min n (toPy d).depth ≤ (toPy d).depth := Nat.min_le_right _ _
  omega
theorem in_reads {pins : List (Addr × Obj)} {s : Shared} {σ : Sg} {H : Hp} {L : LP} {ρ : List Addr} {O : LP} {S : Store} {x y : V} {v u : Value} {d e : Val} {b : Bool} {ds : List Val}
    (hu : X.A.units + 65 < cLine) (I : Inv X pins σ H s) (rx : RelV x v) (ry : RelV y u) (c : Ctx X.K H L ρ O S) (vx : VR X.K H (fun a => L a ∨ O a) ρ x d) (vy : VR X.K H (fun a => L a ∨ O a) ρ y e)
    (hs : sq S e = some (b, ds)) (h1 : shp (drf S d) = true) (h2 : isPys ds = true) {E : Value → Shared → Prop} {P : Value → Shared → Prop} :
    (P (.bool (anyEq (drf S d) ds)) s → wpAny (model X.prog X.w) X.A (compareOp .In v u) P E s) ∧ (P (.bool (!anyEq (drf S d) ds)) s → wpAny (model X.prog X.w) X.A (compareOp .NotIn v u) P E s) := by
  obtain ⟨a, vs, rfl, hsq, r⟩ := c.sq vy hs
  obtain ⟨as, r1⟩ := Dp.reads I _ x v (c.dp vx (shp_isPy h1)) rx
  have e1 : anyEq (drf S d) ds = (toPys ds).any fun z => PyData.eqv z (toPy (drf S d)) := (toPys_any _ ds).symm
  have hr := shp_room (A := X.A) (n := PyData.depthAll (toPys ds)) h1 hu
  rw [e1]
  cases b with
  | true =>
    obtain ⟨bs, r2⟩ := Dp.reads I (.tuple (toPys ds)) _ u (.tup (by simpa using hsq) (r.dp h2)) ry
    exact ⟨fun h => SeqAt.in_tuple_reads r2 r1 (lays_toPys ds h2) (SeqAt.canLay_of_shaped (shp_shaped h1)) hr h, fun h => SeqAt.notIn_tuple_reads r2 r1 (lays_toPys ds h2) (SeqAt.canLay_of_shaped (shp_shaped h1)) hr h⟩
  | false =>
    obtain ⟨bs, r2⟩ := Dp.reads I (.list (toPys ds)) _ u (.lst (by simpa using hsq) (r.dp h2)) ry
    exact ⟨fun h => SeqAt.in_list_reads r2 r1 (lays_toPys ds h2) (SeqAt.canLay_of_shaped (shp_shaped h1)) hr h, fun h => SeqAt.notIn_list_reads r2 r1 (lays_toPys ds h2) (SeqAt.canLay_of_shaped (shp_shaped h1)) hr h⟩
theorem gIn_cases {neg : Bool} {S : Store} {x y : Val} {r : Cell} (h : gIn neg S x y = some r) :
    (∃ i z, x = .str i ∧ y = .str z ∧ r = .v (.bl (neg != (!(Builtin.Str.occurrences z i 0 z.length 1).isEmpty)))) ∨
      ∃ b ds, sq S y = some (b, ds) ∧ shp (drf S x) = true ∧ isPys ds = true ∧ r = .v (.bl (neg != anyEq (drf S x) ds)) := by
  unfold gIn at h
  split at h
  · split at h
    · cases h
      exact .inl ⟨_, _, rfl, rfl, rfl⟩
    · cases h
  · split at h
    · rename_i b ds e
      split at h
      · rename_i hz
        cases h
        exact .inr ⟨b, ds, e, hz.1, hz.2, rfl⟩
      · cases h
    · cases h
theorem VR.str_inv {K : PySem.W.Frag} {H : Hp} {L : LP} {ρ : List Addr} {x : V} {i : Str} (h : VR K H L ρ x (.str i)) : x = .str i := by cases h; rfl
theorem or_in (hu : X.A.units + 65 < cLine) : OpR X (compareOp .In) (rD2 X.K (by2 (gIn false))) := by
  intro pins s σ H x y v u Q I rx ry h
  obtain ⟨L, ρ, O, S, d, e, q, c, vx, vy, ⟨r, hg, hq⟩, k⟩ := h
  rcases gIn_cases hg with ⟨i, z, rfl, rfl, rfl⟩ | ⟨b, ds, hs, h1, h2, rfl⟩
  · rw [vx.str_inv] at rx vx
    rw [vy.str_inv] at ry vy
    exact op_in_str pins s σ H _ _ v u Q I rx ry ⟨i, z, rfl, rfl, k.same c (by simpa using hq) (.bl _)⟩
  · exact (in_reads hu I rx ry c vx vy hs h1 h2).1 ⟨.bl _, H, I, rfl, k.same c (by simpa using hq) (.bl _)⟩
theorem or_notIn (hu : X.A.units + 65 < cLine) : OpR X (compareOp .NotIn) (rD2 X.K (by2 (gIn true))) := by
  intro pins s σ H x y v u Q I rx ry h
  obtain ⟨L, ρ, O, S, d, e, q, c, vx, vy, ⟨r, hg, hq⟩, k⟩ := h
  rcases gIn_cases hg with ⟨i, z, rfl, rfl, rfl⟩ | ⟨b, ds, hs, h1, h2, rfl⟩
  · rw [vx.str_inv] at rx vx
    rw [vy.str_inv] at ry vy
    exact op_notIn_str pins s σ H _ _ v u Q I rx ry ⟨i, z, rfl, rfl, k.same c (by simpa using hq) (.bl _)⟩
  · exact (in_reads hu I rx ry c vx vy hs h1 h2).2 ⟨.bl _, H, I, rfl, k.same c (by simpa using hq) (.bl _)⟩
/-! ### one value -/
def gNeg : G1 := fun _ x => match x with
  | .int i => some (.v (.int (-i)))
  | _ => none
theorem ur_neg : UnR X (unaryOp .USub) (rD1 X.K (by1 gNeg)) := by
  intro pins s σ H x v Q I rx h
  obtain ⟨L, ρ, O, S, d, q, c, vx, ⟨r, hg, hq⟩, k⟩ := h
  cases vx with
  | int i => cases hg; exact un_neg pins s σ H _ v Q I rx ⟨i, rfl, k.same c hq (.int _)⟩
  | _ => cases hg
/-- truth -/
def truV (S : Store) : Val → Option Bool
  | .non => some false
  | .bl b => some b
  | .int i => some (i != 0)
  | .str y => if y.length ≤ sizeLine then some ((y.length : Int) != 0) else none
  | .dct kvs => some (!kvs.isEmpty)
  | d => match sq S d with
    | some (_, ds) => some (!ds.isEmpty)
    | none => none
theorem VRk.isEmpty {K : PySem.W.Frag} {H : Hp} {L : LP} {ρ : List Addr} {xs : List (Key × V)} {ds : List (Key × Val)} (h : VRk K H L ρ xs ds) : xs.isEmpty = ds.isEmpty := by cases h <;> rfl
theorem VRs.isEmpty {K : PySem.W.Frag} {H : Hp} {L : LP} {ρ : List Addr} {xs : List V} {ds : List Val} (h : VRs K H L ρ xs ds) : xs.isEmpty = ds.isEmpty := by cases h <;> rfl
theorem truV_ok {K : PySem.W.Frag} {H : Hp} {L : LP} {ρ : List Addr} {O : LP} {S : Store} {x : V} {d : Val} {b : Bool} (c : Ctx K H L ρ O S) (vx : VR K H (fun a => L a ∨ O a) ρ x d) (e : truV S d = some b) : TruV K x H b := by
  have viaSq : ∀ {t : Bool} {ds : List Val}, sq S d = some (t, ds) → b = !ds.isEmpty → TruV K x H b := fun {t ds} hs hb => by
    obtain ⟨a, vs, rfl, hq, r⟩ := c.sq vx hs
    rw [hb, ← r.isEmpty]
    cases t with
    | true => exact .inr (.inl ⟨vs, by simpa using hq, rfl⟩)
    | false => exact .inl ⟨vs, by simpa using hq, rfl⟩
  cases vx with
  | non => simp [truV] at e; exact e
  | bl b => simp [truV] at e; exact e.symm
  | int i => simp [truV] at e; exact e.symm
  | str x => simp [truV] at e; exact ⟨e.1, e.2.symm⟩
  | dct hl h r => simp only [truV, Option.some.injEq] at e; exact .inr (.inr ⟨_, h, by rw [r.isEmpty]; exact e.symm⟩)
  | tup h r => simp only [truV, DL.sq, Option.some.injEq] at e; exact viaSq rfl e.symm
  | lst h1 h r => simp only [truV, DL.sq, Option.some.injEq] at e; exact viaSq rfl e.symm
  | scrL h1 h => simp only [truV, DL.sq, Option.some.injEq] at e; exact viaSq rfl e.symm
  | scrK h => simp only [truV, DL.sq, Option.some.injEq] at e; exact viaSq rfl e.symm
  | opq v => simp [truV, DL.sq] at e
  | exn _ _ _ => simp [truV, DL.sq] at e
  | ld _ _ => simp [truV, DL.sq] at e
  | rtup _ _ => simp [truV, DL.sq] at e
  | @ref a n h =>
    simp only [truV] at e
    cases q : sq S (.ref n) with
    | none => rw [q] at e; cases e
    | some t => rw [q] at e; simp only [Option.some.injEq] at e; exact viaSq q e.symm
end
end DL
/-! DL5: subscripts, slices, built-in functions on data. -/
namespace DL
open PySem PySem.Spec PyProof.Rows L2
section
variable {X : Cx}
/-! ### subscripts -/
def getKey : Val → Option Key
  | .int i => some (.inl i)
  | .str x => some (.inr x)
  | _ => none
def dLook (kvs : List (Key × Val)) (k : Key) : Option Val := (kvs.find? fun kv => decide (kv.1 = k)).map (·.2)
def gIx : G2 := fun S x y => match y with
  | .int i => match x with
    | .str z => if z.length ≤ sizeLine then (atI z.cps.toList i).map fun c => .v (.str ⟨#[c]⟩) else none
    | x => match sq S x with
      | some (_, ds) => (atI ds i).map .v
      | none => none
  | _ => none
theorem VRs.atI {K : PySem.W.Frag} {H : Hp} {L : LP} {ρ : List Addr} {vs : List V} {ds : List Val} {i : Int} {d : Val} (r : VRs K H L ρ vs ds) (h : atI ds i = some d) : ∃ v, atI vs i = some v ∧ VR K H L ρ v d := by
  unfold L2.atI at h ⊢
  rw [r.length]
  cases e : ixN ds.length i with
  | none => rw [e] at h; cases h
  | some j =>
    rw [e] at h
    obtain ⟨v, h1, h2⟩ := r.getD (i := j) h
    exact ⟨v, h1, h2⟩
theorem gIx_cases {S : Store} {x y : Val} {r : Cell} (h : gIx S x y = some r) : ∃ i, y = .int i ∧ ((∃ z c, x = .str z ∧ z.length ≤ sizeLine ∧ atI z.cps.toList i = some c ∧ r = .v (.str ⟨#[c]⟩)) ∨ ∃ b ds d, sq S x = some (b, ds) ∧ atI ds i = some d ∧ r = .v d) := by
  unfold gIx at h
  split at h
  · rename_i i
    refine ⟨i, rfl, ?_⟩
    split at h
    · split at h
      · obtain ⟨c, e, rfl⟩ := Option.map_eq_some_iff.mp h
        exact .inl ⟨_, c, rfl, by assumption, e, rfl⟩
      · cases h
    · split at h
      · obtain ⟨d, e, rfl⟩ := Option.map_eq_some_iff.mp h
        exact .inr ⟨_, _, d, by assumption, e, rfl⟩
      · cases h
  · cases h
theorem VR.int_inv {K : PySem.W.Frag} {H : Hp} {L : LP} {ρ : List Addr} {x : V} {i : Int} (h : VR K H L ρ x (.int i)) : x = .int i := by cases h; rfl
theorem ir_ix : IxR X (rD2 X.K (by2 gIx)) := by
  have base := ix_seq (X := X)
  intro value slice pins s σ H x y v u Q I rx ry h hs
  obtain ⟨L, ρ, O, S, d, e, q, c, vx, vy, ⟨r, hg, hq⟩, k⟩ := h
  obtain ⟨i, rfl, h1⟩ := gIx_cases hg
  have ey := vy.int_inv
  subst ey
  rcases h1 with ⟨z, ch, rfl, hz, hc, rfl⟩ | ⟨b, ds, w, hsq0, hw, rfl⟩
  · have ex := vx.str_inv
    subst ex
    exact base value slice pins s σ H _ _ v u Q I rx ry (.inr (.inr ⟨z, i, ch, rfl, rfl, hz, hc, k.same c hq (.str _)⟩)) hs
  · obtain ⟨a, vs, rfl, hsq, r⟩ := c.sq vx hsq0
    obtain ⟨vv, h2, h3⟩ := r.atI hw
    cases b with
    | true => exact base value slice pins s σ H _ _ v u Q I rx ry (.inr (.inl ⟨a, vs, i, vv, rfl, rfl, by simpa using hsq, h2, k.same c hq h3⟩)) hs
    | false => exact base value slice pins s σ H _ _ v u Q I rx ry (.inl ⟨a, vs, i, vv, rfl, rfl, by simpa using hsq, h2, k.same c hq h3⟩) hs
/-! ### slices -/
def cutD (ds : List Val) (lo hi : Option Int) : List Val := (ds.drop (HT.sIx ds.length 0 lo)).take (HT.sIx ds.length ds.length hi - HT.sIx ds.length 0 lo)
def gSl (lo hi : Option Int) : G1 := fun S x => match x with
  | .tup ds => some (.v (.tup (cutD ds lo hi)))
  | .lst ds => some (.l (cutD ds lo hi))
  | _ => none
def rDS (K : PySem.W.Frag) (f : Option Int → Option Int → F1) : V → Option Int → Option Int → Hp → VK → Prop := fun x lo hi H P =>
  ∃ L ρ O S d q, Ctx K H L ρ O S ∧ VR K H (fun a => L a ∨ O a) ρ x d ∧ f lo hi d S q ∧ Fin K H L ρ O S q P
theorem VRs.cut {K : PySem.W.Frag} {H : Hp} {L : LP} {ρ : List Addr} {vs : List V} {ds : List Val} (r : VRs K H L ρ vs ds) (lo hi : Option Int) : VRs K H L ρ (cutV vs lo hi) (cutD ds lo hi) := by
  unfold cutV cutD
  rw [r.length]
  exact (r.drop _).take _
theorem sr_sl : SlR X (rDS X.K fun lo hi => by1 (gSl lo hi)) := by
  intro pins s σ H x v vl vu lo hi sl Q I rx hs pl pu h
  obtain ⟨L, ρ, O, S, d, q, c, vx, ⟨r, hg, hq⟩, k⟩ := h
  cases vx with
  | @tup a xs ds h1 r1 =>
    cases hg
    refine sl_tupF pins s σ H _ v vl vu lo hi sl Q I rx hs pl pu ⟨a, xs, rfl, h1.sq, fun hw => ?_, fun _ => k.tup c hq (r1.cut lo hi)⟩
    have e : cutD ds lo hi = ds := by
      unfold cutD
      rw [r1.length] at hw
      rw [hw.1, hw.2]
      simp
    rw [e] at hq
    exact k.same c hq (.tup h1 r1)
  | @lst a xs ds hl h1 r1 =>
    cases hg
    exact sl_list pins s σ H _ v vl vu lo hi sl Q I rx hs pl pu ⟨a, xs, rfl, SqL.of h1, k.lst c hq (r1.cut lo hi)⟩
  | _ => cases hg
/-! ### len, tuple, list, range in list -/
def lenV (S : Store) : Val → Option Nat
  | .str z => if z.length ≤ sizeLine then some z.length else none
  | d => match sq S d with
    | some (_, ds) => some ds.length
    | none => none
def gLen : GN := fun S xs => match xs with
  | [x] => (lenV S x).map fun n => .v (.int (n : Nat))
  | _ => none
theorem one_arg {xs : List Val} {S : Store} {f : Val → Option Cell} {r : Cell} (h : (match xs with | [x] => f x | _ => none) = some r) : ∃ x, xs = [x] ∧ f x = some r := by
  match xs, h with
  | [x], h => exact ⟨x, rfl, h⟩
theorem VRs.one {K : PySem.W.Frag} {H : Hp} {L : LP} {ρ : List Addr} {vs : List V} {d : Val} (r : VRs K H L ρ vs [d]) : ∃ v, vs = [v] ∧ VR K H L ρ v d := by
  cases r with
  | cons h t => cases t; exact ⟨_, rfl, h⟩
theorem VRs.two {K : PySem.W.Frag} {H : Hp} {L : LP} {ρ : List Addr} {vs : List V} {d e : Val} (r : VRs K H L ρ vs [d, e]) : ∃ v w, vs = [v, w] ∧ VR K H L ρ v d ∧ VR K H L ρ w e := by
  cases r with
  | cons h t => obtain ⟨w, rfl, h2⟩ := t.one; exact ⟨_, w, rfl, h, h2⟩
theorem lenV_cases {S : Store} {x : Val} {n : Nat} (h : lenV S x = some n) : (∃ z, x = .str z ∧ z.length ≤ sizeLine ∧ n = z.length) ∨ ∃ b ds, sq S x = some (b, ds) ∧ n = ds.length := by
  unfold lenV at h
  split at h
  · split at h
    · exact .inl ⟨_, rfl, by assumption, (Option.some.inj h).symm⟩
    · cases h
  · split at h
    · exact .inr ⟨_, _, by assumption, (Option.some.inj h).symm⟩
    · cases h
theorem cr_len : CallR X (.builtin "len") (rDN X.K (byN gLen)) := by
  intro pins s σ H xs us Q I r h
  obtain ⟨L, ρ, O, S, ds, q, c, wx, ⟨r', hg0, hq⟩, k⟩ := h
  obtain ⟨x, rfl, hg⟩ := one_arg (S := S) hg0
  obtain ⟨v, rfl, vx⟩ := wx.one
  obtain ⟨n, hn, rfl⟩ := Option.map_eq_some_iff.mp hg
  rcases lenV_cases hn with ⟨z, rfl, hz, rfl⟩ | ⟨b, es, hs, rfl⟩
  · rw [vx.str_inv] at r
    exact call_len_str pins s σ H _ us Q I r ⟨z, rfl, hz, k.same c hq (.int _)⟩
  · obtain ⟨a, vs, rfl, hsq, rr⟩ := c.sq vx hs
    refine call_len_seq pins s σ H _ us Q I r ⟨a, vs, rfl, ?_, k.same c (by rw [rr.length]; exact hq) (.int _)⟩
    cases b with
    | true => exact .inr (by simpa using hsq)
    | false => exact .inl (by simpa using hsq)
def gTuple : GN := fun S xs => match xs with
  | [x] => match sq S x with
    | some (_, ds) => some (.v (.tup ds))
    | none => none
  | _ => none
theorem cr_tuple : CallR X (.type "tuple") (rDN X.K (byN gTuple)) := by
  intro pins s σ H xs us Q I r h
  obtain ⟨L, ρ, O, S, ds, q, c, wx, ⟨r', hg0, hq⟩, k⟩ := h
  obtain ⟨x, rfl, hg⟩ := one_arg (S := S) hg0
  obtain ⟨v, rfl, vx⟩ := wx.one
  split at hg
  · rename_i b es hs
    cases hg
    obtain ⟨a, vs, rfl, hsq, rr⟩ := c.sq vx hs
    cases b with
    | true =>
      refine call_tupleF pins s σ H _ us Q I r ⟨a, vs, rfl, .inr ⟨by simpa using hsq, ?_⟩⟩
      refine k.same c hq ?_
      cases vx with
      | tup h r => simp [DL.sq] at hs; subst hs; exact .tup h r
      | lst _ _ _ => simp [DL.sq] at hs
      | rtup _ _ => simp [DL.sq] at hs
      | scrL _ _ => simp [DL.sq] at hs
      | scrK _ => simp [DL.sq] at hs
      | @ref _ n _ => simp only [DL.sq] at hs; split at hs <;> simp at hs
      | dct _ _ _ => simp [DL.sq] at hs
      | opq _ => simp [DL.sq] at hs
      | exn _ _ _ => simp [DL.sq] at hs
      | ld _ _ => simp [DL.sq] at hs
    | false => exact call_tupleF pins s σ H _ us Q I r ⟨a, vs, rfl, .inl ⟨by simpa using hsq, k.tup c hq rr⟩⟩
  · cases hg
def gList : GN := fun S xs => match xs with
  | [x] => match sq S x with
    | some (_, ds) => some (.l ds)
    | none => none
  | _ => none
theorem cr_list : CallR X (.type "list") (rDN X.K (byN gList)) := by
  intro pins s σ H xs us Q I r h
  obtain ⟨L, ρ, O, S, ds, q, c, wx, ⟨r', hg0, hq⟩, k⟩ := h
  obtain ⟨x, rfl, hg⟩ := one_arg (S := S) hg0
  obtain ⟨v, rfl, vx⟩ := wx.one
  split at hg
  · rename_i b es hs
    cases hg
    obtain ⟨a, vs, rfl, hsq, rr⟩ := c.sq vx hs
    refine call_list_of pins s σ H _ us Q I r ⟨a, vs, rfl, ?_, k.lst c hq rr⟩
    cases b with
    | true => exact .inr (by simpa using hsq)
    | false => exact .inl (by simpa using hsq)
  · cases hg
/-! ### all, any, sum, abs, min, max -/
def blsOf : List Val → Option (List Bool)
  | [] => some []
  | .bl b :: ds => (blsOf ds).map (b :: ·)
  | _ :: _ => none
def intsOf : List Val → Option (List Int)
  | [] => some []
  | .int b :: ds => (intsOf ds).map (b :: ·)
  | _ :: _ => none
def strsOf : List Val → Option (List Str)
  | [] => some []
  | .str b :: ds => (strsOf ds).map (b :: ·)
  | _ :: _ => none
theorem blsOf_vr {K : PySem.W.Frag} {H : Hp} {L : LP} {ρ : List Addr} : ∀ {vs : List V} {ds : List Val} {bs : List Bool}, VRs K H L ρ vs ds → blsOf ds = some bs → vs = bs.map V.bl
  | _, _, _, .nil, e => by cases e; rfl
  | _, d :: ds, bs, .cons h r, e => by
    cases d <;> simp only [blsOf] at e <;> try (cases e; done)
    obtain ⟨cs, e1, rfl⟩ := Option.map_eq_some_iff.mp e
    cases h
    rw [blsOf_vr r e1]
    rfl
theorem intsOf_vr {K : PySem.W.Frag} {H : Hp} {L : LP} {ρ : List Addr} : ∀ {vs : List V} {ds : List Val} {bs : List Int}, VRs K H L ρ vs ds → intsOf ds = some bs → vs = bs.map V.int
  | _, _, _, .nil, e => by cases e; rfl
  | _, d :: ds, bs, .cons h r, e => by
    cases d <;> simp only [intsOf] at e <;> try (cases e; done)
    obtain ⟨cs, e1, rfl⟩ := Option.map_eq_some_iff.mp e
    cases h
    rw [intsOf_vr r e1]
    rfl
theorem strsOf_vr {K : PySem.W.Frag} {H : Hp} {L : LP} {ρ : List Addr} : ∀ {vs : List V} {ds : List Val} {bs : List Str}, VRs K H L ρ vs ds → strsOf ds = some bs → vs = bs.map V.str
  | _, _, _, .nil, e => by cases e; rfl
  | _, d :: ds, bs, .cons h r, e => by
    cases d <;> simp only [strsOf] at e <;> try (cases e; done)
    obtain ⟨cs, e1, rfl⟩ := Option.map_eq_some_iff.mp e
    cases h
    rw [strsOf_vr r e1]
    rfl
theorem VRs.strs {K : PySem.W.Frag} {H : Hp} {L : LP} {ρ : List Addr} : ∀ (ns : List Str), VRs K H L ρ (ns.map V.str) (ns.map Val.str)
  | [] => .nil
  | n :: ns => .cons (.str n) (VRs.strs ns)
/-- the items of a list (no tuple) -/
def lsq (S : Store) (d : Val) : Option (List Val) := match sq S d with
  | some (false, ds) => some ds
  | _ => none
theorem Ctx.lsq {K : PySem.W.Frag} {H : Hp} {L : LP} {ρ : List Addr} {O : LP} {S : Store} (c : Ctx K H L ρ O S) {v : V} {d : Val} {ds : List Val} (h : VR K H (fun a => L a ∨ O a) ρ v d) (e : lsq S d = some ds) :
    ∃ a vs, v = .ref a ∧ SqL K H a vs ∧ VRs K H (fun a => L a ∨ O a) ρ vs ds := by
  unfold DL.lsq at e
  split at e
  · rename_i es hs
    cases e
    obtain ⟨a, vs, e1, h1, r⟩ := c.sq h hs
    exact ⟨a, vs, e1, by simpa using h1, r⟩
  · cases e
def gAllAny (f : List Bool → Bool) : GN := fun S xs => match xs with
  | [x] => ((lsq S x).bind blsOf).map fun bs => .v (.bl (f bs))
  | _ => none
def gAll : GN := gAllAny fun bs => bs.all id
def gAny : GN := gAllAny fun bs => bs.any id
theorem gAllAny_cases {K : PySem.W.Frag} {H : Hp} {L : LP} {ρ : List Addr} {O : LP} {S : Store} {f : List Bool → Bool} {xs : List V} {ds : List Val} {r : Cell} (c : Ctx K H L ρ O S) (wx : VRs K H (fun a => L a ∨ O a) ρ xs ds) (hg0 : gAllAny f S ds = some r) :
    ∃ a bs, xs = [.ref a] ∧ SqL K H a (bs.map V.bl) ∧ r = .v (.bl (f bs)) := by
  obtain ⟨x, rfl, hg⟩ := one_arg (S := S) hg0
  obtain ⟨v, rfl, vx⟩ := wx.one
  obtain ⟨bs, hb, rfl⟩ := Option.map_eq_some_iff.mp hg
  obtain ⟨es, h1, h2⟩ := Option.bind_eq_some_iff.mp hb
  obtain ⟨a, vs, rfl, hsq, rr⟩ := c.lsq vx h1
  exact ⟨a, bs, rfl, blsOf_vr rr h2 ▸ hsq, rfl⟩
theorem cr_allD (hc : X.calm = true) : CallR X (.builtin "all") (rDN X.K (byN gAll)) := by
  intro pins s σ H xs us Q I r h
  obtain ⟨L, ρ, O, S, ds, q, c, wx, ⟨r', hg0, hq⟩, k⟩ := h
  obtain ⟨a, bs, rfl, h1, rfl⟩ := gAllAny_cases c wx hg0
  exact cr_all hc pins s σ H _ us Q I r ⟨a, bs, rfl, h1, k.same c hq (.bl _)⟩
def gAbs : GN := fun S xs => match xs with
  | [.int i] => some (.v (.int (if i < 0 then -i else i)))
  | _ => none
theorem cr_abs : CallR X (.builtin "abs") (rDN X.K (byN gAbs)) := by
  intro pins s σ H xs us Q I r h
  obtain ⟨L, ρ, O, S, ds, q, c, wx, ⟨r', hg0, hq⟩, k⟩ := h
  unfold gAbs at hg0
  split at hg0
  · cases hg0
    obtain ⟨v, rfl, vx⟩ := wx.one
    rw [vx.int_inv] at r
    exact call_abs pins s σ H _ us Q I r ⟨_, rfl, k.same c hq (.int _)⟩
  · cases hg0
def gMin2 : GN := fun S xs => match xs with
  | [.int i, .int j] => some (.v (.int (if j < i then j else i)))
  | _ => none
def gMax2 : GN := fun S xs => match xs with
  | [.int i, .int j] => some (.v (.int (if j > i then j else i)))
  | _ => none
theorem cr_min2D (hc : X.calm = true) : CallR X (.builtin "min") (rDN X.K (byN gMin2)) := by
  intro pins s σ H xs us Q I r h
  obtain ⟨L, ρ, O, S, ds, q, c, wx, ⟨r', hg0, hq⟩, k⟩ := h
  unfold gMin2 at hg0
  split at hg0
  · cases hg0
    obtain ⟨v, w, rfl, vx, vy⟩ := wx.two
    rw [vx.int_inv, vy.int_inv] at r
    exact call_min2 hc pins s σ H _ us Q I r ⟨_, _, rfl, k.same c hq (.int _)⟩
  · cases hg0
theorem cr_max2D (hc : X.calm = true) : CallR X (.builtin "max") (rDN X.K (byN gMax2)) := by
  intro pins s σ H xs us Q I r h
  obtain ⟨L, ρ, O, S, ds, q, c, wx, ⟨r', hg0, hq⟩, k⟩ := h
  unfold gMax2 at hg0
  split at hg0
  · cases hg0
    obtain ⟨v, w, rfl, vx, vy⟩ := wx.two
    rw [vx.int_inv, vy.int_inv] at r
    exact call_max2 hc pins s σ H _ us Q I r ⟨_, _, rfl, k.same c hq (.int _)⟩
  · cases hg0
end
end DL
/-! DL6: sorted, isinstance, repr. -/
namespace DL
open PySem PySem.Spec PyProof.Rows L2
def sortI (ns : List Int) : List Int := ns.mergeSort fun a b => decide (a ≤ b)
theorem sortI_unique {ns ns' : List Int} (h1 : ns'.Perm ns) (h2 : ns'.Pairwise (· ≤ ·)) : ns' = sortI ns := by
  refine List.Perm.eq_of_pairwise (le := fun a b => a ≤ b) (fun a b _ _ => Int.le_antisymm) h2 ?_ (h1.trans (List.mergeSort_perm _ _).symm)
  have h := List.pairwise_mergeSort (le := fun a b : Int => decide (a ≤ b)) (fun a b c => by simp; omega) (fun a b => by simp; omega) ns
  exact h.imp (by simp)
theorem sortI_perm (ns : List Int) : (sortI ns).Perm ns := List.mergeSort_perm _ _
theorem sortI_sorted (ns : List Int) : (sortI ns).Pairwise (· ≤ ·) :=
  (List.pairwise_mergeSort (le := fun a b : Int => decide (a ≤ b)) (fun a b c => by simp; omega) (fun a b => by simp; omega) ns).imp (by simp)
theorem sortI_id {ns : List Int} (h : ns.Pairwise (· ≤ ·)) : sortI ns = ns := (sortI_unique (List.Perm.refl _) h).symm
/-- pairs of ints, by the first, then by the second -/
def ltPr (a b : Int × Int) : Bool := SrtO.lexB a b
def lePr (a b : Int × Int) : Bool := !ltPr b a
def sortP (ps : List (Int × Int)) : List (Int × Int) := ps.mergeSort lePr
theorem lePr_iff {a b : Int × Int} : lePr a b = true ↔ a.1 < b.1 ∨ (a.1 = b.1 ∧ a.2 ≤ b.2) := by
  unfold lePr ltPr
  rw [Bool.not_eq_true', SrtO.lexB_no]
  omega
theorem lePr_trans (a b c : Int × Int) : lePr a b = true → lePr b c = true → lePr a c = true := by simp only [lePr_iff]; omega
theorem lePr_total (a b : Int × Int) : (lePr a b || lePr b a) = true := by
  rw [Bool.or_eq_true, lePr_iff, lePr_iff]; omega
theorem lePr_anti {a b : Int × Int} (h1 : lePr a b = true) (h2 : lePr b a = true) : a = b := by
  rw [lePr_iff] at h1 h2
  obtain ⟨a1, a2⟩ := a
  obtain ⟨b1, b2⟩ := b
  simp only [Prod.mk.injEq]
  simp only at h1 h2
  omega
theorem sortP_perm (ps : List (Int × Int)) : (sortP ps).Perm ps := List.mergeSort_perm _ _
theorem sortP_sorted (ps : List (Int × Int)) : (sortP ps).Pairwise (fun a b => lePr a b = true) := List.pairwise_mergeSort lePr_trans lePr_total ps
theorem sortP_unique {ns ns' : List (Int × Int)} (h1 : ns'.Perm ns) (h2 : ns'.Pairwise fun a b => lePr a b = true) : ns' = sortP ns :=
  List.Perm.eq_of_pairwise (le := fun a b => lePr a b = true) (fun a b _ _ => lePr_anti) h2 (sortP_sorted ns) (h1.trans (sortP_perm ns).symm)
def prV (p : Int × Int) : Val := .tup [.int p.1, .int p.2]
def prsOf : List Val → Option (List (Int × Int))
  | [] => some []
  | .tup [.int a, .int b] :: ds => (prsOf ds).map ((a, b) :: ·)
  | _ :: _ => none
theorem prsOf_map : ∀ ps : List (Int × Int), prsOf (ps.map prV) = some ps
  | [] => rfl
  | p :: ps => by
    show (prsOf (ps.map prV)).map ((p.1, p.2) :: ·) = _
    rw [prsOf_map ps]; rfl
theorem prsOf_some : ∀ {ds : List Val} {ps : List (Int × Int)}, prsOf ds = some ps → ds = ps.map prV
  | [], ps, h => by cases h; rfl
  | d :: ds, ps, h => by
    unfold prsOf at h
    split at h
    · rename_i e; cases e
    · rename_i a b ds' e
      cases e
      obtain ⟨qs, h1, rfl⟩ := Option.map_eq_some_iff.mp h
      rw [prsOf_some h1]; rfl
    · cases h
/-! texts in order -/
theorem lc_irr : ∀ a : List Nat, PySem.Spec.ltCps a a = false
  | [] => rfl
  | a :: r => by simp [PySem.Spec.ltCps, lc_irr r]
theorem lc_tr : ∀ {a b c : List Nat}, PySem.Spec.ltCps a b = true → PySem.Spec.ltCps b c = true → PySem.Spec.ltCps a c = true
  | [], [], _, h, _ => by simp [PySem.Spec.ltCps] at h
  | [], _ :: _, [], _, h => by simp [PySem.Spec.ltCps] at h
  | [], _ :: _, _ :: _, _, _ => rfl
  | _ :: _, [], _, h, _ => by simp [PySem.Spec.ltCps] at h
  | _ :: _, _ :: _, [], _, h => by simp [PySem.Spec.ltCps] at h
  | a :: r, b :: t, c :: u, h1, h2 => by
    simp only [PySem.Spec.ltCps, Bool.or_eq_true, decide_eq_true_eq, Bool.and_eq_true, beq_iff_eq] at h1 h2 ⊢
    rcases h1 with h1 | ⟨rfl, h1⟩ <;> rcases h2 with h2 | ⟨rfl, h2⟩
    · exact .inl (by omega)
    · exact .inl h1
    · exact .inl h2
    · exact .inr ⟨rfl, lc_tr h1 h2⟩
theorem lc_eq : ∀ {a b : List Nat}, PySem.Spec.ltCps a b = false → PySem.Spec.ltCps b a = false → a = b
  | [], [], _, _ => rfl
  | [], _ :: _, h, _ => by simp [PySem.Spec.ltCps] at h
  | _ :: _, [], _, h => by simp [PySem.Spec.ltCps] at h
  | a :: r, b :: t, h1, h2 => by
    simp only [PySem.Spec.ltCps, Bool.or_eq_false_iff, decide_eq_false_iff_not, Bool.and_eq_false_iff, beq_eq_false_iff_ne] at h1 h2
    have e : a = b := by omega
    subst e
    rw [lc_eq (h1.2.resolve_left fun z => z rfl) (h2.2.resolve_left fun z => z rfl)]
def leS (a b : Str) : Bool := !PySem.Spec.ltCps b.cps.toList a.cps.toList
theorem leS_total (a b : Str) : (leS a b || leS b a) = true := by
  unfold leS
  cases h1 : PySem.Spec.ltCps b.cps.toList a.cps.toList with
  | false => rfl
  | true =>
    cases h2 : PySem.Spec.ltCps a.cps.toList b.cps.toList with
    | false => rfl
    | true => have := lc_tr h1 h2; rw [lc_irr] at this; cases this
theorem leS_trans (a b c : Str) (h1 : leS a b = true) (h2 : leS b c = true) : leS a c = true := by
  unfold leS at *
  rw [Bool.not_eq_true'] at *
  cases h : PySem.Spec.ltCps c.cps.toList a.cps.toList with
  | false => rfl
  | true =>
    exfalso
    cases h3 : PySem.Spec.ltCps a.cps.toList b.cps.toList with
    | true => have := lc_tr h h3; rw [h2] at this; cases this
    | false =>
      have e := lc_eq h3 h1
      rw [e] at h
      rw [h] at h2; cases h2
theorem leS_anti {a b : Str} (h1 : leS a b = true) (h2 : leS b a = true) : a = b := by
  unfold leS at *
  rw [Bool.not_eq_true'] at *
  have e := lc_eq h2 h1
  cases a; cases b
  simp only [Str.mk.injEq]
  exact Array.toList_inj.mp e
def sortS (xs : List Str) : List Str := xs.mergeSort leS
theorem sortS_perm (xs : List Str) : (sortS xs).Perm xs := List.mergeSort_perm _ _
theorem sortS_sorted (xs : List Str) : (sortS xs).Pairwise (fun a b => leS a b = true) := List.pairwise_mergeSort leS_trans leS_total xs
theorem sortS_unique {xs ys : List Str} (h1 : ys.Perm xs) (h2 : ys.Pairwise fun a b => leS a b = true) : ys = sortS xs :=
  List.Perm.eq_of_pairwise (le := fun a b => leS a b = true) (fun a b _ _ => leS_anti) h2 (sortS_sorted xs) (h1.trans (sortS_perm xs).symm)
theorem risingS_pw : ∀ {l : List Str} {p : Str}, risingS p l = true → (p :: l).Pairwise fun a b => leS a b = true
  | [], p, _ => by simp
  | x :: r, p, h => by
    have h' : (!PySem.Spec.ltCps x.cps.toList p.cps.toList && risingS x r) = true := h
    rw [Bool.and_eq_true] at h'
    have ih := risingS_pw h'.2
    refine List.pairwise_cons.mpr ⟨fun y hy => ?_, ih⟩
    rcases List.mem_cons.mp hy with rfl | hy
    · exact h'.1
    · exact leS_trans _ _ _ h'.1 (List.rel_of_pairwise_cons ih hy)
theorem sortedS_pw {l : List Str} (h : sortedS l = true) : l.Pairwise fun a b => leS a b = true := by
  cases l with
  | nil => exact .nil
  | cons x r => exact risingS_pw h
def sortOf (ds : List Val) : Option (List Val) :=
  match intsOf ds with
  | some ns => some ((sortI ns).map Val.int)
  | none => match prsOf ds with
    | some ps => if ps.length < 64 ∧ (ps.all fun p => decide (0 ≤ p.1) && decide (0 ≤ p.2)) = true then some ((sortP ps).map prV) else none
    | none => match strsOf ds with
      | some xs => if xs.length < 64 then some ((sortS xs).map Val.str) else none
      | none => none
/-- the keys of a dict, all ints or all texts -/
def intK : List (Key × Val) → Option (List Int)
  | [] => some []
  | (.inl i, _) :: r => (intK r).map (i :: ·)
  | _ => none
def strK : List (Key × Val) → Option (List Str)
  | [] => some []
  | (.inr i, _) :: r => (strK r).map (i :: ·)
  | _ => none
theorem intK_eq : ∀ {kvs : List (Key × Val)} {ks : List Int}, intK kvs = some ks → kvs.map (·.1) = ks.map Sum.inl
  | [], _, h => by cases h; rfl
  | (.inl i, v) :: r, _, h => by
    simp only [intK] at h
    obtain ⟨ks, h1, rfl⟩ := Option.map_eq_some_iff.mp h
    simp [intK_eq h1]
  | (.inr i, v) :: r, _, h => by simp [intK] at h
theorem strK_eq : ∀ {kvs : List (Key × Val)} {ks : List Str}, strK kvs = some ks → kvs.map (·.1) = ks.map Sum.inr
  | [], _, h => by cases h; rfl
  | (.inr i, v) :: r, _, h => by
    simp only [strK] at h
    obtain ⟨ks, h1, rfl⟩ := Option.map_eq_some_iff.mp h
    simp [strK_eq h1]
  | (.inl i, v) :: r, _, h => by simp [strK] at h
def sortKeys (kvs : List (Key × Val)) : Option (List Val) := match intK kvs with
  | some ks => if ks.length < 64 then some ((sortI ks).map Val.int) else none
  | none => match strK kvs with
    | some ks => if ks.length < 64 then some ((sortS ks).map Val.str) else none
    | none => none
def gSorted : GN := fun S xs => match xs with
  | [.dct kvs] => (sortKeys kvs).map .l
  | [x] => ((lsq S x).bind sortOf).map .l
  | _ => none
theorem intsOf_map : ∀ ns : List Int, intsOf (ns.map Val.int) = some ns
  | [] => rfl
  | n :: ns => by show (intsOf (ns.map Val.int)).map (n :: ·) = _; rw [intsOf_map ns]; rfl
theorem blsOf_map : ∀ ns : List Bool, blsOf (ns.map Val.bl) = some ns
  | [] => rfl
  | n :: ns => by show (blsOf (ns.map Val.bl)).map (n :: ·) = _; rw [blsOf_map ns]; rfl
section
variable {K : PySem.W.Frag} {H : Hp} {L : LP} {ρ : List Addr}
/-- each reference is a pair of ints -/
theorem pairs_at : ∀ {vs : List V} {ps : List (Int × Int)}, VRs K H L ρ vs (ps.map prV) → Paired (fun x p => TupI K H x [p.1, p.2] ∧ VR K H L ρ x (prV p)) vs ps
  | _, [], h => by cases h; exact .nil
  | _, p :: ps, h => by
    cases h with
    | cons h1 r =>
      refine .cons ⟨?_, h1⟩ (pairs_at r)
      cases h1 with
      | @tup a xs ds h2 r2 =>
        obtain ⟨v, w, rfl, k1, k2⟩ := r2.two
        rw [k1.int_inv, k2.int_inv] at h2
        exact ⟨a, rfl, h2.sq⟩
end
theorem lePr_of_code {B : Int} {a b : Int × Int} (ha : TS.Bd B [a.1, a.2]) (hb : TS.Bd B [b.1, b.2]) (h : TS.code B [a.1, a.2] ≤ TS.code B [b.1, b.2]) : lePr a b = true := by
  rw [lePr_iff]
  by_cases h1 : b.1 < a.1
  · have := TS.code_lt (B := B) (r := [b.2]) (q := [a.2]) rfl hb.tail ha.tail h1
    omega
  · by_cases h2 : a.1 < b.1
    · exact .inl h2
    · have e : a.1 = b.1 := by omega
      refine .inr ⟨e, ?_⟩
      by_cases h3 : b.2 < a.2
      · have h4 := TS.code_lt (B := B) (r := []) (q := []) rfl (fun _ z => nomatch z) (fun _ z => nomatch z) h3
        have h5 := (TS.code_same (B := B) (d := a.1) (r := [b.2]) (q := [a.2]) rfl).mpr h4
        rw [e] at h5 h
        omega
      · omega
theorem bound_of : ∀ ps : List (Int × Int), ∃ B : Int, ∀ p ∈ ps, p.1 < B ∧ p.2 < B
  | [] => ⟨0, fun _ h => by simp at h⟩
  | p :: ps => by
    obtain ⟨B, h⟩ := bound_of ps
    refine ⟨max B (max (p.1 + 1) (p.2 + 1)), fun q hq => ?_⟩
    rcases List.mem_cons.mp hq with rfl | hq
    · omega
    · have := h q hq; omega
theorem zip_of {α β : Type} {F : α → β → Prop} : ∀ {xs : List α} {ys : List β}, Paired F xs ys → ∃ zs : List (α × β), zs.map Prod.fst = xs ∧ zs.map Prod.snd = ys ∧ ∀ z ∈ zs, F z.1 z.2
  | _, _, .nil => ⟨[], rfl, rfl, fun _ h => by simp at h⟩
  | x :: xs, y :: ys, .cons f r => by
    obtain ⟨zs, rfl, rfl, h⟩ := zip_of r
    refine ⟨(x, y) :: zs, rfl, rfl, fun z hz => ?_⟩
    rcases List.mem_cons.mp hz with rfl | hz
    · exact f
    · exact h z hz
section
variable {X : Cx}
theorem VRk.keys {K : PySem.W.Frag} {H : Hp} {L : LP} {ρ : List Addr} : ∀ {vs : List (Key × V)} {ds : List (Key × Val)}, VRk K H L ρ vs ds → vs.map (·.1) = ds.map (·.1)
  | _, _, .nil => rfl
  | _, _, .cons _ r => by simp [VRk.keys r]
theorem cr_sortedD (hc : X.calm = true) : CallR X (.builtin "sorted") (rDN X.K (byN gSorted)) := by
  intro pins s σ H xs us Q I r h
  obtain ⟨L, ρ, O, S, ds, q, c, wx, ⟨r', hg0, hq⟩, k⟩ := h
  have hl : ∃ x, ds = [x] := by
    match ds, hg0 with
    | [x], _ => exact ⟨x, rfl⟩
    | [], hg0 => simp [gSorted] at hg0
    | _ :: _ :: _, hg0 => simp [gSorted] at hg0
  obtain ⟨x, rfl⟩ := hl
  obtain ⟨v, rfl, vx⟩ := wx.one
  by_cases hdc : ∃ kvs, x = .dct kvs
  · obtain ⟨kvs, rfl⟩ := hdc
    have hg : (sortKeys kvs).map Cell.l = some r' := hg0
    obtain ⟨out, h2, rfl⟩ := Option.map_eq_some_iff.mp hg
    cases vx with
    | @dct a vs _ hl hH rr =>
      unfold sortKeys at h2
      split at h2
      · rename_i ks hk
        split at h2
        · rename_i h64
          cases h2
          refine call_sortedDI hc pins s σ H _ us Q I r ⟨a, vs, ks, rfl, .inl hH, by rw [rr.keys, intK_eq hk], h64, fun ys p hp hs hf => ?_⟩
          rw [sortI_unique hp hs]
          exact k.lst c hq (VRs.ints _) p hf
        · cases h2
      · split at h2
        · rename_i ks hk
          split at h2
          · rename_i h64
            cases h2
            refine call_sortedD hc pins s σ H _ us Q I r ⟨a, vs, ks, rfl, .inl hH, by rw [rr.keys, strK_eq hk], h64, fun ys p hp hs hf => ?_⟩
            rw [sortS_unique hp (sortedS_pw hs)]
            exact k.lst c hq (VRs.strs _) p hf
          · cases h2
        · cases h2
  have hg : ((lsq S x).bind sortOf).map Cell.l = some r' := by
    cases x with
    | dct kvs => exact absurd ⟨kvs, rfl⟩ hdc
    | _ => exact hg0
  obtain ⟨out, hb, rfl⟩ := Option.map_eq_some_iff.mp hg
  obtain ⟨es, h1, h2⟩ := Option.bind_eq_some_iff.mp hb
  obtain ⟨a, vs, rfl, hsq, rr⟩ := c.lsq vx h1
  unfold sortOf at h2
  split at h2
  · rename_i ns hn
    cases h2
    refine cr_sortedI pins s σ H _ us Q I r ⟨a, ns, rfl, intsOf_vr rr hn ▸ hsq, fun ns' p hp hs hf => ?_⟩
    rw [sortI_unique hp hs]
    exact k.lst c hq (VRs.ints _) p hf
  · split at h2
    · rename_i ps hp
      split at h2
      · rename_i hz
        obtain ⟨h64, hnn⟩ := hz
        cases h2
        have e := prsOf_some hp
        subst e
        have nn : ∀ p ∈ ps, 0 ≤ p.1 ∧ 0 ≤ p.2 := fun p hp => by simpa using List.all_eq_true.mp hnn p hp
        obtain ⟨zs, z1, z2, zF⟩ := zip_of (pairs_at rr)
        subst z1; subst z2
        obtain ⟨B, hB⟩ := bound_of (zs.map Prod.snd)
        have bd2 : ∀ z ∈ zs, TS.Bd B [z.2.1, z.2.2] := fun z hz m hm => by
          have hm2 : z.2 ∈ zs.map Prod.snd := List.mem_map.mpr ⟨z, hz, rfl⟩
          have a1 := hB z.2 hm2
          have a2 := nn z.2 hm2
          rcases List.mem_cons.mp hm with rfl | hm
          · exact ⟨a2.1, a1.1⟩
          · rw [List.mem_singleton.mp hm]; exact ⟨a2.2, a1.2⟩
        refine cr_sortT (d := 2) (B := B) (by decide) pins s σ H _ us Q I r ⟨a, _, rfl, hsq, by simpa using h64, fun x hx => ?_, fun ys p hperm hpw hf => ?_⟩
        · obtain ⟨z, hz, rfl⟩ := List.mem_map.mp hx
          exact ⟨_, (zF z hz).1, rfl, bd2 z hz⟩
        · obtain ⟨ws, w1, w2⟩ := perm_lift Prod.fst hperm zs rfl
          subst w2
          have hmem : ∀ z ∈ ws, z ∈ zs := fun z hz => w1.mem_iff.mp hz
          have hsort : (ws.map Prod.snd).Pairwise fun a b => lePr a b = true := by
            rw [List.pairwise_map] at hpw ⊢
            refine List.Pairwise.imp_of_mem (fun {x y} hx hy h => ?_) hpw
            have hle := h _ _ (zF x (hmem x hx)).1 (zF y (hmem y hy)).1
            have b1 := bd2 x (hmem x hx)
            have b2 := bd2 y (hmem y hy)
            exact lePr_of_code b1 b2 hle
          have hout := sortP_unique (w1.map Prod.snd) hsort
          have vout : VRs X.K H (fun a => L a ∨ O a) ρ (ws.map Prod.fst) ((sortP (zs.map Prod.snd)).map prV) := by
            rw [← hout]
            clear hout hsort hperm hpw w1
            induction ws with
            | nil => exact .nil
            | cons w ws ih => exact .cons (zF w (hmem w (List.mem_cons_self ..))).2 (ih fun z hz => hmem z (List.mem_cons_of_mem _ hz))
          exact k.lst c hq vout p hf
      · cases h2
    · split at h2
      · rename_i xs hx
        split at h2
        · rename_i h64
          cases h2
          refine cr_sortedS pins s σ H _ us Q I r ⟨a, xs, rfl, strsOf_vr rr hx ▸ hsq, h64, fun ys p hp hs hf => ?_⟩
          rw [sortS_unique hp (sortedS_pw hs)]
          exact k.lst c hq (VRs.strs _) p hf
        · cases h2
      · cases h2
/-! ### isinstance of a built-in type -/
def tyName : Val → Option String
  | .non => some "NoneType"
  | .bl _ => some "bool"
  | .int _ => some "int"
  | .str _ => some "str"
  | .tup _ => some "tuple"
  | .lst _ => some "list"
  | .dct _ => some "dict"
  | .ref _ => some "list"
  | .scr _ => none
  | .opq _ => none
  | .exn .. => none
  | .ld .. => none
  | .rtup _ => none
def isiB (t n : String) : Option Bool :=
  if n = "int" then some (decide (t = "int" ∨ t = "bool")) else if n = "bool" ∨ n = "str" ∨ n = "tuple" ∨ n = "list" ∨ n = "dict" then some (decide (t = n)) else none
def gIsi : GN := fun S xs => match xs with
  | [x, .opq (.ty n)] => ((tyName (drf S x)).bind fun t => isiB t n).map fun b => .v (.bl b)
  | _ => none
theorem isi_kit {K : PySem.W.Frag} {x : Val} {t n : String} {b : Bool} (h : tyName x = some t) (e : isiB t n = some b) : PySem.W.kitOne K (.type t) (.type n) = some b := by
  have ht : t = "NoneType" ∨ t = "bool" ∨ t = "int" ∨ t = "str" ∨ t = "tuple" ∨ t = "list" ∨ t = "dict" := by
    cases x <;> simp [tyName] at h <;> subst h <;> simp
  have hn : n = "int" ∨ n = "bool" ∨ n = "str" ∨ n = "tuple" ∨ n = "list" ∨ n = "dict" := by
    unfold isiB at e
    split at e
    · exact .inl (by assumption)
    · split at e
      · exact .inr (by assumption)
      · cases e
  apply kit_ty
  rcases ht with rfl | rfl | rfl | rfl | rfl | rfl | rfl <;> rcases hn with rfl | rfl | rfl | rfl | rfl | rfl <;> (simp [isiB] at e; subst e; decide +kernel)
theorem ty_of {K : PySem.W.Frag} {H : Hp} {L : LP} {ρ : List Addr} {O : LP} {S : Store} {x : V} {d : Val} {t : String} (c : Ctx K H L ρ O S) (vx : VR K H (fun a => L a ∨ O a) ρ x d) (e : tyName (drf S d) = some t) : TyX K H x (.type t) := by
  cases vx with
  | non => cases e; exact .base .non
  | bl b => cases e; exact .base (.bl b)
  | int i => cases e; exact .base (.int i)
  | str z => cases e; exact .base (.str z)
  | tup h r => cases e; obtain ⟨o, e, _⟩ := h; exact .fTuple e
  | rtup _ _ => cases e
  | lst _ h r => cases e; exact .base (.lst h)
  | dct _ h r => cases e; exact .base (.dK h)
  | opq v => cases e
  | exn _ _ _ => cases e
  | ld _ _ => cases e
  | scrL _ _ => cases e
  | scrK _ => cases e
  | @ref a n h =>
    cases q : S[n]? with
    | none =>
      have hn : n < S.length := by rw [← c.sr.len]; exact (List.getElem?_eq_some_iff.mp h).1
      rw [List.getElem?_eq_getElem hn] at q; cases q
    | some o =>
      cases o with
      | lst ds =>
        simp only [drf, q, tyName, Option.some.injEq] at e
        subst e
        obtain ⟨vs, e1, _⟩ := c.obj h q
        exact .base (.lst e1)
theorem cr_isi : CallR X (.builtin "isinstance") (rDN X.K (byN gIsi)) := by
  intro pins s σ H xs us Q I r h
  obtain ⟨L, ρ, O, S, ds, q, c, wx, ⟨r', hg, hq⟩, k⟩ := h
  unfold gIsi at hg
  split at hg
  · rename_i x n
    obtain ⟨b, hb, rfl⟩ := Option.map_eq_some_iff.mp hg
    obtain ⟨t, h1, h2⟩ := Option.bind_eq_some_iff.mp hb
    obtain ⟨v, w, rfl, vx, vy⟩ := wx.two
    cases vy
    exact call_isi pins s σ H _ us Q I r ⟨v, _, .type t, .type n, b, rfl, .ty n, ty_of c vx h1, isi_kit h1 h2, k.same c hq (.bl _)⟩
  · cases hg
/-! ### repr -/
def gRepr : GN := fun S xs => match xs with
  | [x] => if shpR (drf S x) = true ∧ (toPy (drf S x)).showable = true ∧ (toPy (drf S x)).shown.length ≤ sizeLine then some (.v (.str (toPy (drf S x)).shown)) else none
  | _ => none
theorem cr_repr (sk : SysK X.K) (hu : X.A.units + 66 < cLine) (hG : X.A.guards = some []) : CallR X (.builtin "repr") (rDN X.K (byN gRepr)) := by
  intro pins s σ H xs us Q I r h
  obtain ⟨L, ρ, O, S, ds, q, c, wx, ⟨r', hg0, hq⟩, k⟩ := h
  obtain ⟨x, rfl, hg⟩ := one_arg (S := S) hg0
  obtain ⟨v, rfl, vx⟩ := wx.one
  split at hg
  · rename_i hz
    obtain ⟨h1, h2, h3⟩ := hz
    cases hg
    obtain ⟨u, rfl, ru⟩ := vals1 r
    have dp := c.dpR vx (shpR_isR h1)
    obtain ⟨as, rd, nd⟩ := DpR.reads I sk _ v u dp ru
    have hd := shpR_depth h1
    have fin : ∀ h' u' tk, (∀ b o, s.heap.get? b = some o → h'.get? b = some o) → EP X pins σ Q (.str (toPy (drf S x)).shown u') { s with heap := h', toks := tk } := fun h' u' tk hk =>
      ⟨.str _, H, I.kept hk, ⟨u', rfl⟩, k.same c hq (.str _)⟩
    have leaf : ∀ (tx : Str), tx = (toPy (drf S x)).shown → EP X pins σ Q (.str tx s.toks) { s with toks := s.toks + 1 } := fun tx e => by
      rw [e]; exact ⟨.str _, H, I.tok _, ⟨_, rfl⟩, k.same c hq (.str _)⟩
    cases dp' : toPy (drf S x) with
    | none =>
      rw [dp'] at rd h3 leaf
      cases rd
      exact PySem.P.repr_of_none (leaf _ (by simp [PyData.shown]))
    | bool b =>
      rw [dp'] at rd h3 leaf
      cases rd
      exact PySem.P.repr_of_bool (leaf _ (by simp [PyData.shown]))
    | int i =>
      rw [dp'] at rd h2 h3 leaf
      cases rd
      exact PySem.P.repr_of_int (by simpa [PyData.showable] using h2) (leaf _ (by simp [PyData.shown]))
    | str z =>
      rw [dp'] at rd h3 leaf
      cases rd
      exact PySem.P.repr_of_str (leaf _ (by simp [PyData.shown])) (by simpa [PyData.shown] using h3)
    | list zs =>
      rw [dp'] at rd h2 h3 hd fin
      cases v with
      | ref a =>
        cases ru
        exact repr_of_reads' rd h2 (fun _ => nd) hG (by omega) (fun b o e => e) fin h3
      | _ => rw [dp'] at dp; cases dp
    | tuple zs =>
      rw [dp'] at rd h2 h3 hd fin
      cases v with
      | ref a =>
        cases ru
        exact repr_of_reads' rd h2 (fun _ => nd) hG (by omega) (fun b o e => e) fin h3
      | _ => rw [dp'] at dp; cases dp
    | dict kvs =>
      rw [dp'] at rd h2 h3 hd fin
      cases v with
      | ref a =>
        cases ru
        exact repr_of_reads' rd h2 (fun _ => nd) hG (by omega) (fun b o e => e) fin h3
      | _ => rw [dp'] at dp; cases dp
  · cases hg
end
end DL
/-! DL7: rules for expressions, by meanings. -/
namespace DL
open PySem PySem.Spec PyProof.Rows L2
section
variable {K : PySem.W.Frag} {mg : Str → Option Value} {W : WX} {H H' H0 H1 H2 : Hp} {L L' L0 L1 L2' : LP} {ρ ρ' ρ0 ρ1 ρ2 : List Addr} {σ : Sg} {δ : DEnv} {S S' : Store} {O : LP} {g : Gh}
/-! ### names and constants -/
def wVar (i : Nat) : Wp := fun δ S Q _ => ∃ c, δ[i]? = some (some c) ∧ Q (.v (fz c)) S
def wC (d : Val) : Wp := fun _ S Q _ => Q (.v d) S
theorem snd_var {i : Nat} : Snd K mg W (tVar i) (wVar i) := by
  intro g H L ρ σ δ S rep Q Xq ⟨c, hc, hq⟩ _ P hP
  have q := rep.er.cell i _ hc
  have fin : ∀ v, σ[i]?.join = some v → VR K H (fun a => L a ∨ own σ δ a) ρ v (fz c) → tVar i σ H P := fun v e r => by
    refine ⟨v, ?_, hP _ S hq v H L ρ .refl rep.sr r⟩
    cases e2 : σ[i]? with
    | none => rw [e2] at e; cases e
    | some o => rw [e2] at e; rw [show o = some v from e]
  cases c with
  | v d =>
    obtain ⟨u, e, r⟩ := q
    exact fin u e (r.mo (.sub fun _ z => .inl z))
  | l ds =>
    obtain ⟨a, vs, e, _, _, _, h, r⟩ := q
    refine fin _ e (.lst (.inr ⟨i, _, hc, rfl, ?_⟩) h (r.mo (.sub fun _ z => .inl z)))
    cases e2 : σ[i]? with
    | none => rw [e2] at e; cases e
    | some o => rw [e2] at e; rw [show o = some (V.ref a) from e]
  | m ds =>
    obtain ⟨a, vs, e, _, _, _, h, r⟩ := q
    refine fin _ e (.dct (.inr ⟨i, _, hc, rfl, ?_⟩) h (r.mo (.sub fun _ z => .inl z)))
    cases e2 : σ[i]? with
    | none => rw [e2] at e; cases e
    | some o => rw [e2] at e; rw [show o = some (V.ref a) from e]
theorem snd_c {v : V} {d : Val} (h : ∀ H L ρ, VR K H L ρ v d) : Snd K mg W (tC v) (wC d) :=
  fun g H L ρ σ δ S rep Q Xq hq _ P hP => hP _ S hq v H L ρ .refl rep.sr (h _ _ _)
/-! ### displays -/
def wTup (wr : WpA) : Wp := fun δ S Q X => wr δ S (fun ds S1 => ds.length ≤ sizeLine ∧ Q (.v (.tup ds)) S1) X
def wLst (wr : WpA) : Wp := fun δ S Q X => wr δ S (fun ds S1 => ds.length ≤ sizeLine ∧ Q (.l ds) S1) X
theorem Rep.fin (rep1 : Rep K g H1 L1 ρ1 σ δ S') {Q : CQ} {P : VK} (st1 : Stp K H L ρ H1 L1 ρ1)
    (hP : ∀ c S', Q c S' → ∀ v H' L' ρ', Stp K H L ρ H' L' ρ' → SR K H' L' ρ' S' → CR K H' L' ρ' H (own σ δ) v c → P v H') : Fin K H1 L1 ρ1 (own σ δ) S' (fun c => Q c S') P :=
  fun c hc v H' L' ρ' st sr cr => hP c _ hc v H' L' ρ' (st1.trans st) sr (cr.older st1)
theorem snd_tup {t : TA} {wr : WpA} (h : SndA K mg W t wr) : Snd K mg W (fTup t) (wTup wr) := by
  intro g H L ρ σ δ S rep Q Xq hw hx P hP
  refine h g H L ρ σ δ S rep _ Xq hw hx _ fun ds S1 hq vs H1 L1 ρ1 st1 rep1 r => ?_
  exact ⟨by rw [r.length]; exact hq.1, (rep1.fin st1 hP).tup rep1.ctx hq.2 r⟩
theorem snd_lst {t : TA} {wr : WpA} (h : SndA K mg W t wr) : Snd K mg W (tLst t) (wLst wr) := by
  intro g H L ρ σ δ S rep Q Xq hw hx P hP
  refine h g H L ρ σ δ S rep _ Xq hw hx _ fun ds S1 hq vs H1 L1 ρ1 st1 rep1 r => ?_
  exact ⟨by rw [r.length]; exact hq.1, (rep1.fin st1 hP).lst rep1.ctx hq.2 r⟩
/-! ### and, or, not, if -/
def wOr (wa wb : Wp) : Wp := fun δ S Q X => wV wa δ S (fun x S1 => ∃ b, truV S1 x = some b ∧ if b = true then Q (.v x) S1 else wb δ S1 Q X) X
def wAnd (wa wb : Wp) : Wp := fun δ S Q X => wV wa δ S (fun x S1 => ∃ b, truV S1 x = some b ∧ if b = true then wb δ S1 Q X else Q (.v x) S1) X
theorem Stp.finR (st1 : Stp K H L ρ H1 L1 ρ1) {Q : CQ} {P : VK}
    (hP : ∀ c S', Q c S' → ∀ v H' L' ρ', Stp K H L ρ H' L' ρ' → SR K H' L' ρ' S' → CR K H' L' ρ' H (own σ δ) v c → P v H') :
    ∀ c S', Q c S' → ∀ v H' L' ρ', Stp K H1 L1 ρ1 H' L' ρ' → SR K H' L' ρ' S' → CR K H' L' ρ' H1 (own σ δ) v c → P v H' :=
  fun c S2 hc v H2 L2 ρ2 st sr cr => hP c S2 hc v H2 L2 ρ2 (st1.trans st) sr (cr.older st1)
theorem snd_and {ta tb : TE} {wa wb : Wp} (ha : Snd K mg W ta wa) (hb : Snd K mg W tb wb) : Snd K mg W (tAndT K ta tb) (wAnd wa wb) := by
  intro g H L ρ σ δ S rep Q Xq hw hx P hP
  refine ha.seq rep hw hx fun d S1 hk x H1 L1 ρ1 st1 rep1 v1 => ?_
  obtain ⟨b, e, hk⟩ := hk
  refine ⟨b, truV_ok rep1.ctx v1 e, ?_⟩
  cases b with
  | false => exact hP _ S1 hk x H1 L1 ρ1 st1 rep1.sr v1
  | true => exact hb g H1 L1 ρ1 σ δ S1 rep1 Q Xq hk hx P (st1.finR hP)
def gNot : G1 := fun S x => (truV S x).map fun b => .v (.bl (!b))
theorem snd_not {ta : TE} {wa : Wp} (ha : Snd K mg W ta wa) : Snd K mg W (tNotT K ta) (w1 (by1 gNot) wa) := by
  intro g H L ρ σ δ S rep Q Xq hw hx P hP
  refine ha.seq rep hw hx fun d S1 hk x H1 L1 ρ1 st1 rep1 v1 => ?_
  obtain ⟨c, e, hk⟩ := hk
  obtain ⟨b, e1, rfl⟩ := Option.map_eq_some_iff.mp e
  exact ⟨b, truV_ok rep1.ctx v1 e1, hP _ S1 hk _ H1 L1 ρ1 st1 rep1.sr (.bl _)⟩
/-- a op b op' c -/
def wChain (f f' : F2) (wa wb wc : Wp) : Wp := fun δ S Q X => wV wa δ S (fun x S1 => wV wb δ S1 (fun y S2 => f x y S2 fun r => ∃ k, r = .v (.bl k) ∧
  if k = true then wV wc δ S2 (fun z S3 => f' y z S3 fun c => Q c S3) X else Q (.v (.bl false)) S2) X) X
theorem snd_chain {ta tb tc : TE} {wa wb wc : Wp} {r r' : R2} {f f' : F2} (ha : Snd K mg W ta wa) (hb : Snd K mg W tb wb) (hc : Snd K mg W tc wc) (ho : Op2 K r f) (ho' : Op2 K r' f') : Snd K mg W (tChain r r' ta tb tc) (wChain f f' wa wb wc) := by
  intro g H L ρ σ δ S rep Q Xq hw hx P hP
  refine ha.seq rep hw hx fun d S1 hk x H1 L1 ρ1 st1 rep1 v1 => ?_
  refine hb.seq rep1 hk hx fun e S2 hk2 y H2 L2 ρ2 st2 rep2 v2 => ?_
  refine ho H2 L2 ρ2 (own σ δ) S2 x y d e rep2.ctx (v1.later rep1 st2) v2 _ hk2 _ fun c hcq z H3 L3 ρ3 st3 sr3 cr3 => ?_
  obtain ⟨k, rfl, hcq⟩ := hcq
  have rep3 := rep2.step st3 sr3
  have e3 : z = V.bl k := by
    cases cr3
    rfl
  refine ⟨k, e3, ?_⟩
  cases k with
  | true =>
    rw [if_pos rfl] at hcq
    refine hc.seq rep3 hcq hx fun u S4 hk4 w' H4 L4 ρ4 st4 rep4 v4 => ?_
    have st := (st1.trans st2).trans st3
    exact ho' H4 L4 ρ4 (own σ δ) S4 y w' e u rep4.ctx ((v2.later rep2 st3).later rep3 st4) v4 _ hk4 P (rep4.fin (st.trans st4) hP)
  | false => exact hP _ S2 hcq _ H3 L3 ρ3 ((st1.trans st2).trans st3) rep3.sr (.bl _)
end
/-! ### the rules -/
section
variable {X : Cx} {W : WX} {a b c e : Expr} {es : List Expr} {pos : Pos} {wa wb wc : Wp} {wr : WpA} {wt : WpT}
abbrev PED (X : Cx) (W : WX) (e : Expr) (wp : Wp) : Prop := PE X e (tD X.K X.mg W wp)
abbrev PTD (X : Cx) (W : WX) (e : Expr) (wp : WpT) : Prop := PT X e (tDT X.K X.mg W wp)
/-- an argument list, by meanings -/
def PAD (X : Cx) (W : WX) (es : List Expr) (wr : WpA) : Prop := ∃ t, PA X es t ∧ SndA X.K X.mg W t wr
theorem d_var {i : Nat} {x : Str} (hN : X.N[i]? = some x) (hv : Vis X.env.scope x) (hd : (x == ("__debug__" : Str)) = false) (hcd : (x == ("__classdict__" : Str)) = false) : PED X W (.Name x pos) (wVar i) :=
  PE.toD (pe_var hN hv hd hcd) snd_var
theorem d_int {i j} : PED X W (.Constant (.int i) j pos) (wC (.int i)) := PE.toD pe_int (snd_c fun _ _ _ => .int i)
theorem d_bl {i j} : PED X W (.Constant (.bool i) j pos) (wC (.bl i)) := PE.toD pe_bl (snd_c fun _ _ _ => .bl i)
theorem d_non {j} : PED X W (.Constant .none j pos) (wC .non) := PE.toD pe_non (snd_c fun _ _ _ => .non)
theorem d_str {i j} : PED X W (.Constant (.str i) j pos) (wC (.str i)) := PE.toD pe_str (snd_c fun _ _ _ => .str i)
theorem d_ty {x : Str} {n : String} (hg : Gl X x) (hm : X.mg x = none) (hv : bootBuiltins x = some (.type n)) (hn : x ≠ "__name__") (hd : (x == ("__debug__" : Str)) = false) : PED X W (.Name x pos) (wC (.opq (.ty n))) :=
  PE.toD (pe_bltn (v := .ty n) hg hm hv rfl hn hd) (snd_c fun _ _ _ => .opq _)
/-- a constant of the module -/
def GlobD (X : Cx) (x : Str) (d : Val) : Prop := ∃ u v, X.mg x = some u ∧ RelV v u ∧ ∀ H L ρ, VR X.K H L ρ v d
theorem d_glob {x : Str} {d : Val} (hg : Gl X x) (h : GlobD X x d) (hd : (x == ("__debug__" : Str)) = false) : PED X W (.Name x pos) (wC d) := by
  obtain ⟨u, v, h1, h2, h3⟩ := h
  exact PE.toD (pe_glob hg h1 h2 hd) (snd_c h3)
theorem d_bin {op : Operator} {f : F2} (ho : OpR X (binaryOp op) (rD2 X.K f)) (ha : PED X W a wa) (hb : PED X W b wb) : PED X W (.BinOp a op b pos) (w2 f wa wb) :=
  PE.toD (pe_op ho ha hb) (snd_op2 snd_tD snd_tD op2_rD)
theorem d_neg (ha : PED X W a wa) : PED X W (.UnaryOp .USub a pos) (w1 (by1 gNeg) wa) := PE.toD (pe_un ur_neg ha) (snd_op1 (r := rD1 X.K (by1 gNeg)) snd_tD op1_rD)
theorem d_cmp {op : CmpOp} {f : F2} (ho : OpR X (compareOp op) (rD2 X.K f)) (ha : PED X W a wa) (hb : PED X W b wb) (hm : behindInMarks op b = false) : PED X W (.Compare a [op] [b] pos) (w2 f wa wb) :=
  PE.toD (pe_cmpR ho ha hb hm) (snd_op2 snd_tD snd_tD op2_rD)
theorem d_chain {op op' : CmpOp} {f f' : F2} (ho : OpR X (compareOp op) (rD2 X.K f)) (ho' : OpR X (compareOp op') (rD2 X.K f')) (ha : PED X W a wa) (hb : PED X W b wb) (hc : PED X W c wc) (hm : lastMarks [op, op'] [b, c] = false) :
    PED X W (.Compare a [op, op'] [b, c] pos) (wChain f f' wa wb wc) := PE.toD (pe_chain ho ho' ha hb hc hm) (snd_chain snd_tD snd_tD snd_tD op2_rD op2_rD)
theorem d_ix (ha : PED X W a wa) (hb : PED X W b wb) (hs : PlainIx b) : PED X W (.Subscript a b pos) (w2 (by2 gIx) wa wb) := PE.toD (pe_ix ir_ix ha hb hs) (snd_op2 snd_tD snd_tD op2_rD)
theorem d_one {op} (ha : PED X W a wa) : PED X W (.BoolOp op [a] pos) wa := pe_one ha
theorem d_and {rest : List Expr} (ha : PED X W a wa) (hb : PED X W (.BoolOp .And (b :: rest) pos) wb) : PED X W (.BoolOp .And (a :: b :: rest) pos) (wAnd wa wb) := PE.toD (pe_andT ha hb) (snd_and snd_tD snd_tD)
theorem d_not (ha : PED X W a wa) : PED X W (.UnaryOp .Not a pos) (w1 (by1 gNot) wa) := PE.toD (pe_notT ha) (snd_not snd_tD)
theorem da_nil : PAD X W [] wNil := ⟨_, pa_nil, sndA_nil⟩
theorem da_cons (ha : PED X W e wa) (hr : PAD X W es wr) (hs : starEach (e :: es) X.env = (false, eval e X.env) :: starEach es X.env) : PAD X W (e :: es) (wCons wa wr) :=
  let ⟨t, h1, h2⟩ := hr; ⟨_, pa_cons ha h1 hs, sndA_cons snd_tD h2⟩
theorem d_tup {k} (h : PAD X W es wr) : PED X W (.Tuple es k pos) (wTup wr) := let ⟨t, h1, h2⟩ := h; PE.toD (pe_tupF h1) (snd_tup h2)
theorem d_lst (h : PAD X W es wr) : PED X W (.List es pos) (wLst wr) := let ⟨t, h1, h2⟩ := h; PE.toD (pe_lst h1) (snd_lst h2)
theorem d_callB {id : String} {x : Str} {f : FN} {p : Pos} (hc : CallR X (.builtin id) (rDN X.K f)) (hg : Gl X x) (hm : X.mg x = none) (hv : bootBuiltins x = some (.builtin id)) (ha : PAD X W (e :: es) wr) (hn : x ≠ "__name__") (hdb : (x == ("__debug__" : Str)) = false)
    (he : starEach (e :: es) X.env = (false, eval e X.env) :: starEach es X.env) (hpl : (backTo pos (starEach es X.env)).any (·.1) = false) : PED X W (.Call (.Name x p) (e :: es) [] pos) (wN f wr) :=
  let ⟨t, h1, h2⟩ := ha; PE.toD (pe_callB hc hg hm hv h1 hn hdb he hpl) (snd_opN h2 opN_rD)
theorem d_callT {T : String} {x : Str} {f : FN} {p : Pos} (hc : CallR X (.type T) (rDN X.K f)) (hg : Gl X x) (hm : X.mg x = none) (hv : bootBuiltins x = some (.type T)) (ha : PAD X W (e :: es) wr) (hn : x ≠ "__name__") (hdb : (x == ("__debug__" : Str)) = false)
    (he : starEach (e :: es) X.env = (false, eval e X.env) :: starEach es X.env) (hpl : (backTo pos (starEach es X.env)).any (·.1) = false) : PED X W (.Call (.Name x p) (e :: es) [] pos) (wN f wr) :=
  let ⟨t, h1, h2⟩ := ha; PE.toD (pe_callTy hc hg hm hv h1 hn hdb he hpl) (snd_opN h2 opN_rD)
/-! tests -/
theorem opT_tru : OpT X.K (fun x H Q => ∃ k, TruV X.K x H k ∧ Q k H) (byT truV) := fun H L ρ O S x d c v q h P k => by
  obtain ⟨b, e, hq⟩ := h
  exact ⟨b, truV_ok c v e, k b hq⟩
theorem dt_tru (ha : PED X W a wa) (he : ∀ whole, isTrue a X.env whole = (do let v ← whole; standAt a.pos; holding [v] (truthy v))) : PTD X W a (wTru (byT truV) wa) :=
  PT.toD (pt_truth ha he) (sndT_tru (r := fun x H Q => ∃ k, TruV X.K x H k ∧ Q k H) snd_tD opT_tru)
/-- a bool's meaning as a test -/
def wTst (w : Wp) : WpT := fun δ S Q X => w δ S (fun c S1 => ∃ k, c = .v (.bl k) ∧ Q k S1) X
theorem sndT_tst {K : PySem.W.Frag} {mg : Str → Option Value} {t : TE} {w : Wp} (h : Snd K mg W t w) : SndT K mg W (tTest t) (wTst w) := by
  intro g H L ρ σ δ S rep Q Xq hw hx P hP
  refine h g H L ρ σ δ S rep _ Xq hw hx _ fun c S1 hq v H1 L1 ρ1 st1 sr1 cr1 => ?_
  obtain ⟨k, rfl, hq⟩ := hq
  cases cr1
  exact ⟨k, rfl, hP k S1 hq H1 L1 ρ1 st1 (rep.step st1 sr1)⟩
theorem dt_cmp {op : CmpOp} {f : F2} (ho : OpR X (compareOp op) (rD2 X.K f)) (ha : PED X W a wa) (hb : PED X W b wb) (hm : behindInMarks op b = false) : PTD X W (.Compare a [op] [b] pos) (wTst (w2 f wa wb)) :=
  PT.toD (pt_cmpR ho ha hb hm) (sndT_tst (snd_op2 snd_tD snd_tD op2_rD))
variable {wta wtb : WpT}
abbrev PWD (X : Cx) (W : WX) (e : Expr) (wp : WpT) : Prop := PW X e (tDT X.K X.mg W wp)
theorem dw_and1 (ha : PTD X W a wta) : PWD X W (.BoolOp .And [a] pos) wta := pw_and1 ha
theorem dw_or1 (ha : PTD X W a wta) : PWD X W (.BoolOp .Or [a] pos) wta := pw_or1 ha
theorem dw_and {rest : List Expr} (ha : PTD X W a wta) (hb : PWD X W (.BoolOp .And (b :: rest) pos) wtb) : PWD X W (.BoolOp .And (a :: b :: rest) pos) (wAndT wta wtb) := PW.toD (pw_and ha hb) (sndT_and snd_tDT snd_tDT)
theorem dw_or {rest : List Expr} (ha : PTD X W a wta) (hb : PWD X W (.BoolOp .Or (b :: rest) pos) wtb) : PWD X W (.BoolOp .Or (a :: b :: rest) pos) (wOrT wta wtb) := PW.toD (pw_or ha hb) (sndT_or snd_tDT snd_tDT)
theorem dt_not (ha : PTD X W a wta) : PTD X W (.UnaryOp .Not a pos) (wNotT wta) := PT.toD (pt_not ha) (sndT_not snd_tDT)
end
end DL
/-! DL8: changes of one object, targets, what is walked. -/
namespace DL
open PySem PySem.Spec PyProof.Rows L2 RZ
section
variable {K : PySem.W.Frag} {mg : Str → Option Value} {W : WX} {H H' H0 H1 H2 H3 : Hp} {L L' L0 L1 L2' : LP} {ρ ρ' ρ0 ρ1 ρ2 : List Addr} {σ σ' : Sg} {δ δ' : DEnv} {S S' : Store} {O : LP} {g : Gh} {D : Addr} {o : HO}
/-! ### one object changes -/
theorem upk {a : Addr} {u : HO} (e : H a = some u) (h : a ≠ D) : upd H D o a = some u := by rw [upd_ne h]; exact e
theorem Mo.upd (hL : ¬ L D) (ht : (∀ xs, H D ≠ some (.tup xs)) ∧ ∀ ob u, H D ≠ some (.frz ob u)) : Mo K H L ρ (upd H D o) L ρ :=
  ⟨fun a xs e => upk e fun q => by rw [q] at e; exact ht.1 _ e, fun a ob u e => upk e fun q => by rw [q] at e; exact ht.2 _ _ e, fun a hl => ⟨hl, fun u e => upk e fun q => by rw [q] at hl; exact hL hl⟩, fun _ _ e => e⟩
theorem SR.upd (sr : SR K H L ρ S) (hL : ¬ L D) (hρ : D ∉ ρ) (ht : (∀ xs, H D ≠ some (.tup xs)) ∧ ∀ ob u, H D ≠ some (.frz ob u)) : SR K (upd H D o) L ρ S :=
  sr.mo (fun a ha u e => upk e fun q => by rw [q] at ha; exact hρ ha) (Mo.upd hL ht) sr.apart fun a hl => let ⟨u, e⟩ := sr.lthr a hl; ⟨u, upk e fun q => by rw [q] at hl; exact hL hl⟩
/-- D was not there at the start -/
theorem Stp.upd (st : Stp K H L ρ H1 L1 ρ1) (hn : H D = none) : Stp K H L ρ (upd H1 D o) L1 ρ1 := by
  have ne : ∀ a u, H a = some u → a ≠ D := fun a u e q => by rw [q, hn] at e; cases e
  exact ⟨fun a u e hr => by rw [upd_ne (ne a u e)]; exact st.keep a u e hr, st.sub, st.new, st.pre, fun a xs e => by rw [upd_ne (ne a _ e)]; exact st.tup a xs e,
    fun a u w e => by rw [upd_ne (ne a _ e)]; exact st.frz a u w e, fun a u hl e => by rw [upd_ne (ne a u e)]; exact st.fro a u hl e, fun a u e => by rw [upd_ne (ne a u e)]; exact st.thr a u e⟩
theorem Rep.upd (r : Rep K g H L ρ σ δ S) (hg : g.H D = none) (hL : ¬ L D) (hρ : D ∉ ρ) (ho : ¬ own σ δ D) (ht : (∀ xs, H D ≠ some (.tup xs)) ∧ ∀ ob u, H D ≠ some (.frz ob u)) : Rep K g (upd H D o) L ρ σ δ S := by
  have m : Mo K H L ρ (L2.upd H D o) L ρ := Mo.upd hL ht
  refine ⟨r.sr.upd hL hρ ht, ⟨r.er.len, fun i c h => ?_, r.er.inj⟩, r.st.upd hg⟩
  have q := r.er.cell i c h
  have nown : ∀ c', c = some c' → c'.owned = true → ∀ a, σ[i]?.join = some (.ref a) → a ≠ D := fun c' e1 e2 a e3 z => by
    subst e1 z
    refine ho ⟨i, c', h, e2, ?_⟩
    cases e4 : σ[i]? with
    | none => rw [e4] at e3; cases e3
    | some u => rw [e4] at e3; rw [show u = some _ from e3]
  cases c with
  | none => trivial
  | some c =>
    cases c with
    | v d =>
      obtain ⟨u, e, v⟩ := q
      exact ⟨u, e, v.mo m⟩
    | l ds =>
      obtain ⟨a, vs, e, a1, a2, a3, a4, a5⟩ := q
      exact ⟨a, vs, e, a1, a2, a3, by rw [upd_ne (nown _ rfl rfl a e)]; exact a4, a5.mo m⟩
    | m ds =>
      obtain ⟨a, vs, e, a1, a2, a3, a4, a5⟩ := q
      exact ⟨a, vs, e, a1, a2, a3, by rw [upd_ne (nown _ rfl rfl a e)]; exact a4, a5.mo m⟩
/-! ### slots are set -/
theorem join_set {α : Type} (l : List (Option α)) (i j : Nat) (x : Option α) (h : i < l.length) : (l.set i x)[j]?.join = if i = j then x else l[j]?.join := by
  rw [List.getElem?_set]
  by_cases e : i = j
  · subst e; simp [h]
  · simp [e]
theorem own_set_v {i : Nat} {v : Option V} {c : Option Cell} (hc : ∀ c', c = some c' → c'.owned = false) {j : Nat} {a : Addr} (h : OwnAt (σ.set i v) (δ.set i c) j a) : OwnAt σ δ j a := by
  obtain ⟨c', h1, h2, h3⟩ := h
  by_cases e : i = j
  · subst e
    rw [List.getElem?_set] at h1
    simp at h1
    obtain ⟨_, h1⟩ := h1
    have := hc c' h1
    rw [h2] at this; cases this
  · rw [List.getElem?_set] at h1 h3
    simp [e] at h1 h3
    exact ⟨c', h1, h2, h3⟩
theorem Rep.setC (r : Rep K g H L ρ σ δ S) {i : Nat} {v : Option V} {c : Option Cell} (hc : ∀ c', c = some c' → c'.owned = false) (h : CellR K H L ρ g.H v c) : Rep K g H L ρ (σ.set i v) (δ.set i c) S := by
  refine ⟨r.sr, ⟨by rw [List.length_set, List.length_set]; exact r.er.len, fun j c' hj => ?_, fun j k a h1 h2 => r.er.inj j k a (own_set_v hc h1) (own_set_v hc h2)⟩, r.st⟩
  rw [List.getElem?_set] at hj
  by_cases hi : i < δ.length
  · have hs : i < σ.length := by rw [r.er.len]; exact hi
    rw [join_set _ _ _ _ hs]
    by_cases e : i = j
    · subst e
      simp [hi] at hj
      subst hj
      simp
      exact h
    · simp [e] at hj ⊢
      exact r.er.cell j c' hj
  · have e1 : σ.set i v = σ := List.set_eq_of_length_le (by rw [r.er.len]; omega)
    rw [e1]
    by_cases e : i = j
    · subst e; simp [hi] at hj
    · simp [e] at hj; exact r.er.cell j c' hj
theorem Rep.setV (r : Rep K g H L ρ σ δ S) {i : Nat} {v : V} {d : Val} (h : VR K H L ρ v d) : Rep K g H L ρ (σ.set i (some v)) (δ.set i (some (.v d))) S :=
  r.setC (fun c' e => by cases e; rfl) ⟨v, rfl, h⟩
/-- a slot takes a new list or dict of its own -/
theorem Rep.setO (r : Rep K g H L ρ σ δ S) {i : Nat} {a : Addr} {c : Cell} (hc : c.owned = true) (hno : ¬ own σ δ a) (h : CellR K H L ρ g.H (some (.ref a)) (some c)) : Rep K g H L ρ (σ.set i (some (.ref a))) (δ.set i (some c)) S := by
  refine ⟨r.sr, ⟨by rw [List.length_set, List.length_set]; exact r.er.len, fun j c' hj => ?_, fun j k b h1 h2 => ?_⟩, r.st⟩
  · rw [List.getElem?_set] at hj
    by_cases hi : i < δ.length
    · have hs : i < σ.length := by rw [r.er.len]; exact hi
      rw [join_set _ _ _ _ hs]
      by_cases e : i = j
      · subst e
        simp [hi] at hj
        subst hj
        simp
        exact h
      · simp [e] at hj ⊢
        exact r.er.cell j c' hj
    · have e1 : σ.set i (some (.ref a)) = σ := List.set_eq_of_length_le (by rw [r.er.len]; omega)
      rw [e1]
      by_cases e : i = j
      · subst e; simp [hi] at hj
      · simp [e] at hj; exact r.er.cell j c' hj
  · have old : ∀ j b, i ≠ j → OwnAt (σ.set i (some (.ref a))) (δ.set i (some c)) j b → OwnAt σ δ j b := fun j b e h => by
      obtain ⟨c', h1, h2, h3⟩ := h
      rw [List.getElem?_set] at h1 h3
      simp [e] at h1 h3
      exact ⟨c', h1, h2, h3⟩
    have new : ∀ b, OwnAt (σ.set i (some (.ref a))) (δ.set i (some c)) i b → b = a := fun b h => by
      obtain ⟨c', h1, h2, h3⟩ := h
      rw [List.getElem?_set] at h3
      simp at h3
      exact h3.2.symm
    by_cases e1 : i = j
    · by_cases e2 : i = k
      · omega
      · subst e1
        rw [new b h1] at h2
        exact absurd ⟨k, old k a e2 h2⟩ hno
    · by_cases e2 : i = k
      · subst e2
        rw [new b h2] at h1
        exact absurd ⟨j, old j a e1 h1⟩ hno
      · exact r.er.inj j k b (old j b e1 h1) (old k b e2 h2)
/-! ### what may be kept in a slot: no list of the frame's own hides in it -/
mutual
def noL : Val → Bool
  | .lst _ => false
  | .dct _ => false
  | .scr _ => false
  | .exn .. => false
  | .ld kvs => noLk kvs
  | .tup ds => noLs ds
  | .rtup ds => noLs ds
  | _ => true
def noLs : List Val → Bool
  | [] => true
  | d :: ds => noL d && noLs ds
def noLk : List (Key × Val) → Bool
  | [] => true
  | (_, d) :: ds => noL d && noLk ds
end
def noOwn (δ : DEnv) : Bool := δ.all fun c => match c with
  | some c => !c.owned
  | none => true
mutual
theorem VR.noL : ∀ {v : V} {d : Val}, VR K H L ρ v d → DL.noL d = true → VR K H (fun _ => False) ρ v d
  | _, _, .non, _ => .non
  | _, _, .bl b, _ => .bl b
  | _, _, .int i, _ => .int i
  | _, _, .str x, _ => .str x
  | _, _, .tup h r, p => .tup h (VRs.noL r (by simpa [DL.noL] using p))
  | _, _, .rtup h r, p => .rtup h (VRs.noL r (by simpa [DL.noL] using p))
  | _, _, .lst _ _ _, p => by simp [DL.noL] at p
  | _, _, .dct _ _ _, p => by simp [DL.noL] at p
  | _, _, .ref h, _ => .ref h
  | _, _, .opq v, _ => .opq v
  | _, _, .exn _ _ _, p => by simp [DL.noL] at p
  | _, _, .ld h r, p => .ld h (VRk.noL r (by simpa [DL.noL] using p))
  | _, _, .scrL _ _, p => by simp [DL.noL] at p
  | _, _, .scrK _, p => by simp [DL.noL] at p
theorem VRs.noL : ∀ {v : List V} {d : List Val}, VRs K H L ρ v d → DL.noLs d = true → VRs K H (fun _ => False) ρ v d
  | _, _, .nil, _ => .nil
  | _, _, .cons h r, p => by
    simp [DL.noLs] at p
    exact .cons (VR.noL h p.1) (VRs.noL r p.2)
theorem VRk.noL : ∀ {v : List (Key × V)} {d : List (Key × Val)}, VRk K H L ρ v d → DL.noLk d = true → VRk K H (fun _ => False) ρ v d
  | _, _, .nil, _ => .nil
  | _, _, .cons h r, p => by
    simp [DL.noLk] at p
    exact .cons (VR.noL h p.1) (VRk.noL r p.2)
end
theorem noOwn_own (h : noOwn δ = true) (a : Addr) : ¬ own σ δ a := fun ⟨i, c, h1, h2, _⟩ => by
  have q := List.all_eq_true.mp h _ (List.mem_of_getElem? h1)
  simp [h2] at q
def esc (δ : DEnv) (d : Val) : Bool := noOwn δ || noL d
def escs (δ : DEnv) (ds : List Val) : Bool := noOwn δ || noLs ds
theorem VR.esc {v : V} {d : Val} (h : VR K H (fun a => L a ∨ own σ δ a) ρ v d) (e : esc δ d = true) : VR K H L ρ v d := by
  unfold DL.esc at e
  rw [Bool.or_eq_true] at e
  rcases e with e | e
  · exact h.mo (.sub fun a z => z.elim id fun z => absurd z (noOwn_own e a))
  · exact (h.noL e).mo (.sub fun _ z => z.elim)
theorem VRs.esc {v : List V} {d : List Val} (h : VRs K H (fun a => L a ∨ own σ δ a) ρ v d) (e : escs δ d = true) : VRs K H L ρ v d := by
  unfold DL.escs at e
  rw [Bool.or_eq_true] at e
  rcases e with e | e
  · exact h.mo (.sub fun a z => z.elim id fun z => absurd z (noOwn_own e a))
  · exact (h.noL e).mo (.sub fun _ z => z.elim)
/-! ### targets -/
mutual
inductive Tg where
  | nm (i : Nat)
  | tp (ts : Tgs)
inductive Tgs where
  | nil
  | cons (t : Tg) (r : Tgs)
end
def Tgs.len : Tgs → Nat
  | .nil => 0
  | .cons _ r => r.len + 1
/-- (a, b, ..) = a tuple or a list of that length -/
def gSq (K : PySem.W.Frag) (n : Nat) (t : TGs) : TG := fun v σ H Q => gTup K n t v σ H Q ∨ gUnl K n t v σ H Q
theorem pg_sq {X : Cx} {pos : Pos} {es : List Expr} {k : Nat} {t : TGs} {n : Nat} (hc : X.calm = true) (h : PGs X es t)
    (hn : (assignEach es X.env).length = n := by rfl) (hst : (assignEach es X.env).findIdx? (·.1) = none := by rfl) : PG X (.Tuple es k pos) (gSq X.K n t) :=
  ⟨fun pins s σ H v u Q I r hw => hw.elim (fun hw => (pg_tup hc h hn hst).run pins s σ H v u Q I r hw) fun hw => (pg_unl hc h hn hst).run pins s σ H v u Q I r hw⟩
mutual
def tgSet : Tg → Val → DEnv → Option DEnv
  | .nm i, x, δ => some (δ.set i (some (.v x)))
  | .tp ts, .tup ds, δ => tgsSet ts ds δ
  | .tp ts, .rtup ds, δ => tgsSet ts ds δ
  | .tp ts, .lst ds, δ => tgsSet ts ds δ
  | .tp _, _, _ => none
def tgsSet : Tgs → List Val → DEnv → Option DEnv
  | .nil, [], δ => some δ
  | .cons t r, d :: ds, δ => (tgSet t d δ).bind fun δ' => tgsSet r ds δ'
  | _, _, _ => none
end
mutual
def tgOf (K : PySem.W.Frag) : Tg → TG
  | .nm i => gName i
  | .tp ts => gSq K ts.len (tgsOf K ts)
def tgsOf (K : PySem.W.Frag) : Tgs → TGs
  | .nil => gNil
  | .cons t r => gCons (tgOf K t) (tgsOf K r)
end
theorem tgsSet_len : ∀ {ts : Tgs} {ds : List Val} {δ δ' : DEnv}, tgsSet ts ds δ = some δ' → ds.length = ts.len
  | .nil, [], _, _, _ => rfl
  | .nil, _ :: _, _, _, h => by simp [tgsSet] at h
  | .cons _ _, [], _, _, h => by simp [tgsSet] at h
  | .cons t r, d :: ds, δ, δ', h => by
    simp only [tgsSet] at h
    obtain ⟨δ1, _, h2⟩ := Option.bind_eq_some_iff.mp h
    simp [Tgs.len, tgsSet_len h2]
mutual
def tgSlots : Tg → List Nat
  | .nm i => [i]
  | .tp ts => tgsSlots ts
def tgsSlots : Tgs → List Nat
  | .nil => []
  | .cons t r => tgSlots t ++ tgsSlots r
end
/-- only these slots differ -/
def OnlyAt (σ σ' : Sg) (is : List Nat) : Prop := σ'.length = σ.length ∧ ∀ i, i ∉ is → σ'[i]? = σ[i]?
theorem OnlyAt.refl {is : List Nat} : OnlyAt σ σ is := ⟨rfl, fun _ _ => rfl⟩
mutual
theorem tg_ok : ∀ (t : Tg) {σ : Sg} {δ δ' : DEnv} {v : V} {d : Val} {P : Sg → Hp → Prop}, Rep K g H L ρ σ δ S → VR K H L ρ v d → tgSet t d δ = some δ' → (∀ σ', Rep K g H L ρ σ' δ' S → OnlyAt σ σ' (tgSlots t) → (∀ a, own σ' δ' a → own σ δ a) → P σ' H) → tgOf K t v σ H P
  | .nm i, σ, δ, δ', v, d, P, rep, r, h, k => by
    simp only [tgSet] at h
    cases h
    exact k _ (rep.setV r) ⟨List.length_set, fun j hj => List.getElem?_set_ne (by simpa [tgSlots, eq_comm] using hj)⟩ fun a ⟨j, hj⟩ => ⟨j, own_set_v (fun c' e => by cases e; rfl) hj⟩
  | .tp ts, σ, δ, δ', v, d, P, rep, r, h, k => by
    cases d with
    | tup ds =>
      simp only [tgSet] at h
      cases r with
      | @tup a xs _ h1 r1 => exact .inl ⟨a, xs, rfl, h1.sq, by rw [r1.length, tgsSet_len h], tgs_ok ts rep r1 h k⟩
    | rtup ds =>
      simp only [tgSet] at h
      cases r with
      | @rtup a xs _ h1 r1 => exact .inl ⟨a, xs, rfl, SqT.of h1, by rw [r1.length, tgsSet_len h], tgs_ok ts rep r1 h k⟩
    | lst ds =>
      simp only [tgSet] at h
      cases r with
      | @lst a xs _ hl h1 r1 => exact .inr ⟨a, xs, rfl, SqL.of h1, by rw [r1.length, tgsSet_len h], tgs_ok ts rep r1 h k⟩
    | _ => simp [tgSet] at h
theorem tgs_ok : ∀ (ts : Tgs) {σ : Sg} {δ δ' : DEnv} {vs : List V} {ds : List Val} {P : Sg → Hp → Prop}, Rep K g H L ρ σ δ S → VRs K H L ρ vs ds → tgsSet ts ds δ = some δ' → (∀ σ', Rep K g H L ρ σ' δ' S → OnlyAt σ σ' (tgsSlots ts) → (∀ a, own σ' δ' a → own σ δ a) → P σ' H) → tgsOf K ts vs σ H P
  | .nil, σ, δ, δ', vs, ds, P, rep, r, h, k => by
    cases r with
    | nil => simp only [tgsSet] at h; cases h; exact ⟨rfl, k _ rep .refl fun _ z => z⟩
    | cons _ _ => simp [tgsSet] at h
  | .cons t ts, σ, δ, δ', vs, ds, P, rep, r, h, k => by
    cases r with
    | nil => simp [tgsSet] at h
    | cons h1 r1 =>
      simp only [tgsSet] at h
      obtain ⟨δ1, e1, e2⟩ := Option.bind_eq_some_iff.mp h
      exact ⟨_, _, rfl, tg_ok t rep h1 e1 fun σ1 rep1 o1 w1 => tgs_ok ts rep1 r1 e2 fun σ2 rep2 o2 w2 =>
        k σ2 rep2 ⟨o2.1.trans o1.1, fun i hi => (o2.2 i fun z => hi (List.mem_append_right _ z)).trans (o1.2 i fun z => hi (List.mem_append_left _ z))⟩ fun a z => w1 a (w2 a z)⟩
end
/-! ### what is walked -/
abbrev WpI := DEnv → Store → (List Val → Store → Prop) → XQ → Prop
/-- J yields these items, as long as nothing of them changes -/
def ItOk (K : PySem.W.Frag) (J : L2.It) (items : List Val) (H1 : Hp) (L1 : LP) (ρ1 : List Addr) (O : LP) : Prop :=
  ∀ (H2 : Hp) (L2 : LP) (ρ2 : List Addr), Mo K H1 (fun a => L1 a ∨ O a) ρ1 H2 (fun a => L2 a ∨ O a) ρ2 → ∀ i,
    (items.length ≤ i → J.stop i H2) ∧ ∀ d, items[i]? = some d → J.go i H2 ∧ ∀ x H3, J.yld i H2 x H3 → (H3 = H2 ∨ ∃ p xs, H2 p = none ∧ H3 = upd H2 p (.tup xs)) ∧ VR K H3 (fun a => L2 a ∨ O a) ρ2 x d
def iD (K : PySem.W.Frag) (mg : Str → Option Value) (W : WX) (wi : WpI) : TI := fun σ H R => ∃ g L ρ δ S Qi Xq, Rep K g H L ρ σ δ S ∧ wi δ S Qi Xq ∧ XOK K mg W g Xq ∧
  ∀ items S', Qi items S' → ∀ J H' L' ρ', Stp K H L ρ H' L' ρ' → Rep K g H' L' ρ' σ δ S' → ItOk K J items H' L' ρ' (own σ δ) → R J H'
def SndI (K : PySem.W.Frag) (mg : Str → Option Value) (W : WX) (t : TI) (wi : WpI) : Prop :=
  ∀ g H L ρ σ δ S, Rep K g H L ρ σ δ S → ∀ Qi Xq, wi δ S Qi Xq → XOK K mg W g Xq → ∀ R : L2.It → Hp → Prop,
    (∀ items S', Qi items S' → ∀ J H' L' ρ', Stp K H L ρ H' L' ρ' → Rep K g H' L' ρ' σ δ S' → ItOk K J items H' L' ρ' (own σ δ) → R J H') → t σ H R
abbrev PID (X : Cx) (W : WX) (tg iter : Expr) (wi : WpI) : Prop := PI X tg iter (iD X.K X.mg W wi)
theorem PI.toD {X : Cx} {tg iter : Expr} {t : TI} {W : WX} {wi : WpI} (h : PI X tg iter t) (s : SndI X.K X.mg W t wi) : PID X W tg iter wi :=
  ⟨fun pins s' σ H R I hq => h.run pins s' σ H R I (let ⟨g, L, ρ, δ, S, Qi, Xq, r, hw, x, k⟩ := hq; s g H L ρ σ δ S r Qi Xq hw x R k)⟩
/-- a list that stays -/
theorem itOk_list {a : Addr} {xs : List V} {ds : List Val} (hs : ∀ (H2 : Hp) (L2 : LP) (ρ2 : List Addr), Mo K H1 (fun a => L1 a ∨ O a) ρ1 H2 (fun a => L2 a ∨ O a) ρ2 → SqL K H2 a xs) (r : VRs K H1 (fun a => L1 a ∨ O a) ρ1 xs ds) : ItOk K (Itl K a) ds H1 L1 ρ1 O := by
  intro H2 L2 ρ2 st i
  have h2 := hs H2 L2 ρ2 st
  have r2 := r.mo st
  refine ⟨fun hl => ⟨xs, h2, by rw [r.length]; exact hl⟩, fun d hd => ?_⟩
  obtain ⟨v, hv, rv⟩ := r2.getD hd
  refine ⟨⟨xs, v, h2, hv⟩, fun x H3 y => ?_⟩
  obtain ⟨e, y⟩ := y
  subst e
  have e2 := (y xs h2).symm.trans hv
  cases e2
  exact ⟨.inl rfl, rv⟩
theorem itOk_tup {a : Addr} {xs : List V} {ds : List Val} (hs : PlT H1 a xs) (r : VRs K H1 (fun a => L1 a ∨ O a) ρ1 xs ds) : ItOk K (Itt K a) ds H1 L1 ρ1 O := by
  intro H2 L2 ρ2 st i
  have h2 : SqT K H2 a xs := (hs.mo st.frz).sq
  have r2 := r.mo st
  refine ⟨fun hl => ⟨xs, h2, by rw [r.length]; exact hl⟩, fun d hd => ?_⟩
  obtain ⟨v, hv, rv⟩ := r2.getD hd
  refine ⟨⟨xs, v, h2, hv⟩, fun x H3 y => ?_⟩
  obtain ⟨e, y⟩ := y
  subst e
  have e2 := (y xs h2).symm.trans hv
  cases e2
  exact ⟨.inl rfl, rv⟩
def rngD (lo : Int) (n : Nat) : List Val := (List.range n).map fun (i : Nat) => Val.int (lo + (i : Int))
theorem itOk_rng {lo : Int} {n : Nat} : ItOk K (Itr lo n) (rngD lo n) H1 L1 ρ1 O := by
  intro H2 L2 ρ2 st i
  refine ⟨fun hl => show n ≤ i by simpa [rngD] using hl, fun d hd => ?_⟩
  unfold rngD at hd
  rw [List.getElem?_map] at hd
  obtain ⟨j, hj, rfl⟩ := Option.map_eq_some_iff.mp hd
  have hi : i < n := by
    have := (List.getElem?_eq_some_iff.mp hj).1
    simpa using this
  have ej : j = i := by
    rw [List.getElem?_range hi] at hj
    exact (Option.some.inj hj).symm
  subst ej
  refine ⟨hi, fun x H3 y => ?_⟩
  obtain ⟨e1, e2⟩ := y
  subst e1 e2
  exact ⟨.inl rfl, .int _⟩
/-- the items of what a for walks: a list or tuple (no list of the store), the signs of a text -/
def seqOf : Val → Option (List Val)
  | .tup ds => some ds
  | .lst ds => some ds
  | .scr ns => some (ns.map Val.int)
  | _ => none
def wSeq (w : Wp) : WpI := fun δ S Q X => wV w δ S (fun d S1 => ∃ ds, seqOf d = some ds ∧ Q ds S1) X
end
section
variable {X : Cx} {W : WX} {tg e e2 : Expr} {es : List Expr} {pos p : Pos} {w wa wb : Wp} {wr : WpA}
/-- list or tuple -/
def iSeq (K : PySem.W.Frag) (tl : TE) : TI := fun σ H R => tl σ H fun x H1 => ∃ a, x = .ref a ∧ (((∃ xs, SqL K H1 a xs) ∧ R (Itl K a) H1) ∨ ((∃ xs, SqT K H1 a xs) ∧ R (Itt K a) H1))
theorem pi_seq {tl : TE} (hl : PE X e tl) : PI X tg e (iSeq X.K tl) := by
  constructor
  intro pins s σ H R I h
  refine thn (hl.run pins s σ H _ I h) ?_
  rintro v s1 ⟨x, H1, I1, r1, a, rfl, q⟩
  cases r1
  have fp : ∀ b ∈ [s1.heap.objs.size], FpOk X pins H1 b := fun b hb => by
    rw [List.mem_singleton.mp hb]
    exact I1.fpOk (Nat.le_refl _) (I1.hok.fresh (Nat.le_refl _))
  rcases q with ⟨⟨xs, hq⟩, q⟩ | ⟨⟨xs, hq⟩, q⟩
  · obtain ⟨its, rv, pl, _⟩ := I1.list hq
    exact wpAny_pyIter_list pl.isList ⟨s1.heap.objs.size, [s1.heap.objs.size], _, _, H1, rfl, I1.kept (t' := s1.toks) fun b o e => Heap.get?_push_of_some _ e, turn_list a _, ⟨_, Heap.get?_push_size _ rfl, rfl, rfl⟩, fp, q⟩
  · obtain ⟨its, rv, pl, _⟩ := I1.tuple hq
    exact wpAny_pyIter_tuple (show s1.heap.IsTuple a its.toArray from pl) ⟨s1.heap.objs.size, [s1.heap.objs.size], _, _, H1, rfl, I1.kept (t' := s1.toks) fun b o e => Heap.get?_push_of_some _ e, turn_tuple a _, ⟨_, Heap.get?_push_size _ rfl, rfl, rfl⟩, fp, q⟩
theorem sndI_seq {K : PySem.W.Frag} {mg : Str → Option Value} {tl : TE} (h : Snd K mg W tl w) : SndI K mg W (iSeq K tl) (wSeq w) := by
  intro g H L ρ σ δ S rep Q Xq hw hx R hR
  refine h.seq rep hw hx fun d S1 hk x H1 L1 ρ1 st1 rep1 v1 => ?_
  obtain ⟨ds, e, hq⟩ := hk
  cases v1 with
  | @tup a xs ds' h1 r1 =>
    simp only [seqOf, Option.some.injEq] at e
    subst e
    exact ⟨a, rfl, .inr ⟨⟨xs, h1.sq⟩, hR _ S1 hq _ H1 L1 ρ1 st1 rep1 (itOk_tup h1 r1)⟩⟩
  | @lst a xs ds' hl h1 r1 =>
    simp only [seqOf, Option.some.injEq] at e
    subst e
    refine ⟨a, rfl, .inl ⟨⟨xs, SqL.of h1⟩, hR _ S1 hq _ H1 L1 ρ1 st1 rep1 (itOk_list (fun H2 L2 ρ2 st => SqL.of ((st.lst a hl).2 _ h1)) r1)⟩⟩
  | @scrL a ns hl h1 =>
    simp only [seqOf, Option.some.injEq] at e
    subst e
    refine ⟨a, rfl, .inl ⟨⟨_, .inl h1⟩, hR _ S1 hq _ H1 L1 ρ1 st1 rep1 (itOk_list (fun H2 L2 ρ2 st => ?_) (VRs.ints ns))⟩⟩
    have keep : ∀ o, H1 a = some o → H2 a = some o := (st.lst a hl).2
    rcases h1 with h1 | ⟨o, h1⟩
    · exact .inl (.inl (keep _ h1))
    · exact .inl (.inr ⟨o, keep _ h1⟩)
  | @scrK a ns h1 =>
    simp only [seqOf, Option.some.injEq] at e
    subst e
    exact ⟨a, rfl, .inl ⟨⟨_, h1 _⟩, hR _ S1 hq _ H1 L1 ρ1 st1 rep1 (itOk_list (fun H2 L2 ρ2 st => h1 H2) (VRs.ints ns))⟩⟩
  | _ => cases e
theorem di_seq (h : PED X W e w) : PID X W tg e (wSeq w) := PI.toD (pi_seq h) (sndI_seq snd_tD)
def inR (j : Int) : Prop := -(2 ^ 62) ≤ j ∧ j < 2 ^ 62
instance (j : Int) : Decidable (inR j) := by unfold inR; infer_instance
def wRng1 (wr : WpA) : WpI := fun δ S Q X => wr δ S (fun ds S1 => ∃ j : Int, ds = [.int j] ∧ inR j ∧ Q (rngD 0 j.toNat) S1) X
def wRng2 (wr : WpA) : WpI := fun δ S Q X => wr δ S (fun ds S1 => ∃ i j : Int, ds = [.int i, .int j] ∧ inR i ∧ inR j ∧ Q (rngD i (j - i).toNat) S1) X
theorem di_rng1 (hg : Gl X "range") (hm : X.mg "range" = none) (ha : PAD X W [e] wr) (hs : starEach [e] X.env = [(false, eval e X.env)]) : PID X W tg (.Call (.Name "range" p) [e] [] pos) (wRng1 wr) := by
  obtain ⟨t, h1, h2⟩ := ha
  refine PI.toD (pi_range1 hg hm h1 hs) fun g H L ρ σ δ S rep Q Xq hw hx R hR => ?_
  refine h2 g H L ρ σ δ S rep _ Xq hw hx _ fun ds S1 hq vs H1 L1 ρ1 st1 rep1 v1 => ?_
  obtain ⟨j, rfl, hj, hq⟩ := hq
  obtain ⟨v, rfl, v3⟩ := v1.one
  rw [v3.int_inv]
  exact ⟨j, rfl, hj.1, hj.2, hR _ S1 hq _ H1 L1 ρ1 st1 rep1 itOk_rng⟩
theorem di_rng2 (hg : Gl X "range") (hm : X.mg "range" = none) (ha : PAD X W [e, e2] wr) (hs : starEach [e, e2] X.env = [(false, eval e X.env), (false, eval e2 X.env)]) (hs2 : starEach [e2] X.env = [(false, eval e2 X.env)]) : PID X W tg (.Call (.Name "range" p) [e, e2] [] pos) (wRng2 wr) := by
  obtain ⟨t, h1, h2⟩ := ha
  refine PI.toD (pi_range2 hg hm h1 hs hs2) fun g H L ρ σ δ S rep Q Xq hw hx R hR => ?_
  refine h2 g H L ρ σ δ S rep _ Xq hw hx _ fun ds S1 hq vs H1 L1 ρ1 st1 rep1 v1 => ?_
  obtain ⟨i, j, rfl, hi, hj, hq⟩ := hq
  obtain ⟨v, u, rfl, v3, v4⟩ := v1.two
  rw [v3.int_inv, v4.int_inv]
  exact ⟨i, j, rfl, ⟨hi.1, hi.2, hj.1, hj.2⟩, hR _ S1 hq _ H1 L1 ρ1 st1 rep1 itOk_rng⟩
/-- zip of two lists, of two tuples -/
def zipD : List Val → List Val → List Val
  | a :: as, b :: bs => .rtup [a, b] :: zipD as bs
  | _, _ => []
theorem zipD_len : ∀ (as bs : List Val), (zipD as bs).length = min as.length bs.length
  | [], _ => by simp [zipD]
  | _ :: _, [] => by simp [zipD]
  | a :: as, b :: bs => by simp [zipD, zipD_len as bs]
theorem zipD_get : ∀ {as bs : List Val} {i : Nat} {d : Val}, (zipD as bs)[i]? = some d → ∃ a b, as[i]? = some a ∧ bs[i]? = some b ∧ d = .rtup [a, b]
  | [], _, _, _, h => by simp [zipD] at h
  | _ :: _, [], _, _, h => by simp [zipD] at h
  | a :: as, b :: bs, 0, d, h => by simp [zipD] at h; exact ⟨a, b, rfl, rfl, h.symm⟩
  | a :: as, b :: bs, i + 1, d, h => by
    simp [zipD] at h
    obtain ⟨x, y, h1, h2, h3⟩ := zipD_get h
    exact ⟨x, y, by simpa using h1, by simpa using h2, h3⟩
def seqK : Val → Option (Bool × List Val)
  | .tup ds => some (true, ds)
  | .lst ds => some (false, ds)
  | _ => none
def wZip (wr : WpA) : WpI := fun δ S Q X => wr δ S (fun ds S1 => ∃ x y b as bs, ds = [x, y] ∧ seqK x = some (b, as) ∧ seqK y = some (b, bs) ∧ Q (zipD as bs) S1) X
theorem itOk_zip {K : PySem.W.Frag} {H1 : Hp} {L1 : LP} {ρ1 : List Addr} {O : LP} {a b : Addr} {xs ys : List V} {as bs : List Val} (h1 : ∀ (H2 : Hp) (L2 : LP) (ρ2 : List Addr), Mo K H1 (fun a => L1 a ∨ O a) ρ1 H2 (fun a => L2 a ∨ O a) ρ2 → SqL K H2 a xs ∧ SqL K H2 b ys)
    (r1 : VRs K H1 (fun a => L1 a ∨ O a) ρ1 xs as) (r2 : VRs K H1 (fun a => L1 a ∨ O a) ρ1 ys bs) : ItOk K (Itz K a b) (zipD as bs) H1 L1 ρ1 O := by
  intro H2 L2 ρ2 st i
  obtain ⟨q1, q2⟩ := h1 H2 L2 ρ2 st
  have e1 := r1.mo st
  have e2 := r2.mo st
  refine ⟨fun hl => ⟨xs, ys, q1, q2, by rw [zipD_len, ← r1.length, ← r2.length] at hl; omega⟩, fun d hd => ?_⟩
  obtain ⟨x, y, hx, hy, rfl⟩ := zipD_get hd
  obtain ⟨v, hv, rv⟩ := e1.getD hx
  obtain ⟨u, hu, ru⟩ := e2.getD hy
  refine ⟨⟨xs, ys, v, u, q1, q2, hv, hu⟩, fun z H3 yy => ?_⟩
  obtain ⟨T, x1, y1, rfl, nT, rfl, f1, f2⟩ := yy
  have ex : x1 = v := Option.some.inj ((f1 xs q1).symm.trans hv)
  have ey : y1 = u := Option.some.inj ((f2 ys q2).symm.trans hu)
  subst ex ey
  have m : Mo K H2 (fun a => L2 a ∨ O a) ρ2 (upd H2 T (.tup [x1, y1])) (fun a => L2 a ∨ O a) ρ2 :=
    ⟨fun p us e => by rw [upd_ne (ne_of_none e nT)]; exact e, fun p ob us e => by rw [upd_ne (ne_of_none e nT)]; exact e, fun p hp => ⟨hp, fun w e => by rw [upd_ne (ne_of_none e nT)]; exact e⟩, fun _ _ e => e⟩
  exact ⟨.inr ⟨T, _, nT, rfl⟩, .rtup upd_same (.cons (rv.mo m) (.cons (ru.mo m) .nil))⟩
theorem itOk_zipT {K : PySem.W.Frag} {H1 : Hp} {L1 : LP} {ρ1 : List Addr} {O : LP} {a b : Addr} {xs ys : List V} {as bs : List Val} (h1 : PlT H1 a xs) (h2 : PlT H1 b ys)
    (r1 : VRs K H1 (fun a => L1 a ∨ O a) ρ1 xs as) (r2 : VRs K H1 (fun a => L1 a ∨ O a) ρ1 ys bs) : ItOk K (ItzT K a b) (zipD as bs) H1 L1 ρ1 O := by
  intro H2 L2 ρ2 st i
  have q1 : SqT K H2 a xs := (h1.mo st.frz).sq
  have q2 : SqT K H2 b ys := (h2.mo st.frz).sq
  have e1 := r1.mo st
  have e2 := r2.mo st
  refine ⟨fun hl => ⟨xs, ys, q1, q2, by rw [zipD_len, ← r1.length, ← r2.length] at hl; omega⟩, fun d hd => ?_⟩
  obtain ⟨x, y, hx, hy, rfl⟩ := zipD_get hd
  obtain ⟨v, hv, rv⟩ := e1.getD hx
  obtain ⟨u, hu, ru⟩ := e2.getD hy
  refine ⟨⟨xs, ys, v, u, q1, q2, hv, hu⟩, fun z H3 yy => ?_⟩
  obtain ⟨T, x1, y1, rfl, nT, rfl, f1, f2⟩ := yy
  have ex : x1 = v := Option.some.inj ((f1 xs q1).symm.trans hv)
  have ey : y1 = u := Option.some.inj ((f2 ys q2).symm.trans hu)
  subst ex ey
  have m : Mo K H2 (fun a => L2 a ∨ O a) ρ2 (upd H2 T (.tup [x1, y1])) (fun a => L2 a ∨ O a) ρ2 :=
    ⟨fun p us e => by rw [upd_ne (ne_of_none e nT)]; exact e, fun p ob us e => by rw [upd_ne (ne_of_none e nT)]; exact e, fun p hp => ⟨hp, fun w e => by rw [upd_ne (ne_of_none e nT)]; exact e⟩, fun _ _ e => e⟩
  exact ⟨.inr ⟨T, _, nT, rfl⟩, .rtup upd_same (.cons (rv.mo m) (.cons (ru.mo m) .nil))⟩
theorem di_zip {elts : List Expr} {kk : Nat} {tpos : Pos} (hg : Gl X "zip") (hm : X.mg "zip" = none) (ha : PAD X W [e, e2] wr)
    (hs : starEach [e, e2] X.env = (false, eval e X.env) :: starEach [e2] X.env) (hpl : (backTo pos (starEach [e2] X.env)).any (·.1) = false) : PID X W (.Tuple elts kk tpos) (.Call (.Name "zip" p) [e, e2] [] pos) (wZip wr) := by
  obtain ⟨t, h1, h2⟩ := ha
  refine PI.toD (pi_zipA hg hm h1 hs hpl) fun g H L ρ σ δ S rep Q Xq hw hx R hR => ?_
  refine h2 g H L ρ σ δ S rep _ Xq hw hx _ fun ds S1 hq vs H1 L1 ρ1 st1 rep1 v1 => ?_
  obtain ⟨x, y, b, as, bs, rfl, hx1, hy1, hq⟩ := hq
  obtain ⟨v, u, rfl, w1, w2⟩ := v1.two
  cases w1 with
  | @tup a xs _ h1 r1 =>
    simp only [seqK, Option.some.injEq, Prod.mk.injEq] at hx1
    obtain ⟨rfl, rfl⟩ := hx1
    cases w2 with
    | @tup c ys _ h2 r2 =>
      simp only [seqK, Option.some.injEq, Prod.mk.injEq, true_and] at hy1
      subst hy1
      exact ⟨a, c, xs, ys, rfl, .inr ⟨h1.sq, h2.sq, hR _ S1 hq _ H1 L1 ρ1 st1 rep1 (itOk_zipT h1 h2 r1 r2)⟩⟩
    | _ => simp [seqK] at hy1
  | @lst a xs _ hl1 h1 r1 =>
    simp only [seqK, Option.some.injEq, Prod.mk.injEq] at hx1
    obtain ⟨rfl, rfl⟩ := hx1
    cases w2 with
    | @lst c ys _ hl2 h2 r2 =>
      simp only [seqK, Option.some.injEq, Prod.mk.injEq, true_and] at hy1
      subst hy1
      refine ⟨a, c, xs, ys, rfl, .inl ⟨SqL.of h1, SqL.of h2, hR _ S1 hq _ H1 L1 ρ1 st1 rep1 (itOk_zip (fun H2 L2 ρ2 st => ⟨SqL.of ((st.lst a hl1).2 _ h1), SqL.of ((st.lst c hl2).2 _ h2)⟩) r1 r2)⟩⟩
    | _ => simp [seqK] at hy1
  | _ => simp [seqK] at hx1
end
end DL
/-! DL9: list comprehensions. -/
namespace DL
open PySem PySem.Spec PyProof.Rows L2 RZ
section
variable {K : PySem.W.Frag} {mg : Str → Option Value} {W : WX} {H H' H0 H1 H2 H3 : Hp} {L L' L0 L1 L2' : LP} {ρ ρ' ρ0 ρ1 ρ2 : List Addr} {σ σ' : Sg} {δ δ' : DEnv} {S S' : Store} {O : LP} {g : Gh} {D : Addr} {o : HO}
/-- the slots of the block's own names forgotten -/
def wipeD (δ : DEnv) : List Nat → DEnv
  | [] => δ
  | v :: vs => (wipeD δ vs).set v none
theorem Rep.wipe (r : Rep K g H L ρ σ δ S) : ∀ vs : List Nat, Rep K g H L ρ (L2.wipe σ vs) (wipeD δ vs) S
  | [] => r
  | v :: vs => (Rep.wipe r vs).setC (fun c' e => by cases e) trivial
theorem own_wipe : ∀ {vs : List Nat} {a : Addr}, own (L2.wipe σ vs) (wipeD δ vs) a → own σ δ a
  | [], _, h => h
  | v :: vs, a, ⟨i, h⟩ => own_wipe (vs := vs) ⟨i, own_set_v (fun c' e => by cases e) h⟩
theorem wipe_get (σ : Sg) : ∀ (vs : List Nat) (i : Nat), (L2.wipe σ vs)[i]? = if i ∈ vs ∧ i < σ.length then some none else σ[i]?
  | [], i => by simp [L2.wipe]
  | v :: vs, i => by
    show ((L2.wipe σ vs).set v none)[i]? = _
    rw [List.getElem?_set, wipe_length, wipe_get σ vs i]
    by_cases e : v = i
    · subst e
      by_cases h : v < σ.length
      · simp [h]
      · simp [h]
    · simp [e, Ne.symm e]
theorem wipe_only {vs is : List Nat} (h : OnlyAt (L2.wipe σ vs) σ' is) (hs : ∀ i ∈ is, i ∈ vs) : L2.wipe σ' vs = L2.wipe σ vs := by
  have hl : σ'.length = σ.length := by rw [h.1, wipe_length]
  refine List.ext_getElem? fun i => ?_
  rw [wipe_get, wipe_get, hl]
  by_cases hi : i ∈ vs ∧ i < σ.length
  · rw [if_pos hi, if_pos hi]
  · rw [if_neg hi, if_neg hi]
    by_cases hv : i ∈ vs
    · have hn : ¬ i < σ.length := fun q => hi ⟨hv, q⟩
      rw [List.getElem?_eq_none (by omega), List.getElem?_eq_none (by omega)]
    · rw [h.2 i fun z => hv (hs i z), wipe_get, if_neg hi]
abbrev XF : XQ := fun _ _ _ => False
abbrev WF : WX := fun _ _ _ _ => False
theorem xok_F : XOK K mg W g XF := fun _ _ _ h => h.elim
/-- the items one by one; acc: what is made so far -/
def wLcGo (tg : Tg) (wt : WpT) (we : Wp) (vs : List Nat) (δ : DEnv) : List Val → List Val → Store → (List Val → Store → Prop) → Prop
  | [], acc, S, Q => Q acc S
  | x :: xs, acc, S, Q => esc δ x = true ∧ ∃ δ2, tgSet tg x (wipeD δ vs) = some δ2 ∧ wt δ2 S (fun b S1 =>
      if b = true then wV we δ2 S1 (fun d S2 => acc.length < sizeLine ∧ wLcGo tg wt we vs δ xs (acc ++ [d]) S2 Q) XF else wLcGo tg wt we vs δ xs acc S1 Q) XF
def wLc (wi : WpI) (tg : Tg) (wt : WpT) (we : Wp) (vs : List Nat) : Wp := fun δ S Q X => wi δ S (fun items S1 => wLcGo tg wt we vs δ items [] S1 fun ds S2 => Q (.l ds) S2) X
theorem Stp.allocs (h : H3 = H2 ∨ ∃ p xs, H2 p = none ∧ H3 = L2.upd H2 p (.tup xs)) : Stp K H2 L ρ H3 L ρ := by
  rcases h with rfl | ⟨p, xs, hp, rfl⟩
  · exact .refl
  · exact .alloc hp
theorem SR.allocs (h : H3 = H2 ∨ ∃ p xs, H2 p = none ∧ H3 = L2.upd H2 p (.tup xs)) (sr : SR K H2 L ρ S) : SR K H3 L ρ S := by
  rcases h with rfl | ⟨p, xs, hp, rfl⟩
  · exact sr
  · exact sr.alloc hp
theorem snd_lc {tg : Tg} {wi : WpI} {wt : WpT} {we : Wp} {vs : List Nat} (hv : ∀ i ∈ tgSlots tg, i ∈ vs) : Snd K mg W (tLc (iD K mg W wi) (tgOf K tg) (tDT K mg WF wt) (tD K mg WF we) vs) (wLc wi tg wt we vs) := by
  intro g H L ρ σ δ S rep Q Xq hw hx P hP
  refine ⟨g, L, ρ, δ, S, _, Xq, rep, hw, hx, fun items S1 hq J H1 L1 ρ1 st1 rep1 itok D hD => ?_⟩
  have nOD : ¬ own σ δ D := fun z => by
    obtain ⟨o, e, _⟩ := (rep1.ownH z).2.2.2
    rw [hD] at e; cases e
  have gD : g.H D = none := rep1.st.non hD
  refine ⟨fun i m H2 => m = items.length - i ∧ i ≤ items.length ∧ ∃ L2 ρ2 S2 acc accV, Stp K H1 L1 ρ1 H2 L2 ρ2 ∧ Rep K g H2 L2 ρ2 σ δ S2 ∧ ¬ L2 D ∧ D ∉ ρ2 ∧ H2 D = some (.lst accV) ∧
      VRs K H2 (fun a => L2 a ∨ own σ δ a) ρ2 accV acc ∧ wLcGo tg wt we vs δ (items.drop i) acc S2 fun ds S2 => Q (.l ds) S2,
    ⟨items.length, by omega, Nat.zero_le _, L1, ρ1, S1, [], [], .alloc hD, rep1.step (.alloc hD) (rep1.sr.alloc hD), rep1.sr.notL hD, rep1.sr.notin hD, upd_same, .nil, hq⟩, ?_⟩
  rintro i m H2 ⟨rfl, hi, L2, ρ2, S2, acc, accV, st2, rep2, nL, nρ, hDv, racc, go⟩
  obtain ⟨itStop, itGo⟩ := itok H2 L2 ρ2 (st2.moO fun a ha o e => st2.keep a o e (rep1.ownH ha).2.2.1) i
  by_cases hlt : i < items.length
  · have hx1 : items[i]? = some items[i] := List.getElem?_eq_getElem hlt
    obtain ⟨jgo, jy⟩ := itGo _ hx1
    rw [List.drop_eq_getElem_cons hlt] at go
    obtain ⟨hesc, δ2, hset, hwt⟩ := go
    refine .inr ⟨jgo, fun H' => i + 1 ≤ items.length ∧ ∃ L2 ρ2 S2 acc accV, Stp K H1 L1 ρ1 H' L2 ρ2 ∧ Rep K g H' L2 ρ2 σ δ S2 ∧ ¬ L2 D ∧ D ∉ ρ2 ∧ H' D = some (.lst accV) ∧
      VRs K H' (fun a => L2 a ∨ own σ δ a) ρ2 accV acc ∧ wLcGo tg wt we vs δ (items.drop (i + 1)) acc S2 fun ds S2 => Q (.l ds) S2,
      fun H' hN => ⟨items.length - (i + 1), by omega, rfl, hN⟩, fun x H3 y => ?_⟩
    obtain ⟨hal, rx⟩ := jy x H3 y
    have st23 : Stp K H2 L2 ρ2 H3 L2 ρ2 := .allocs hal
    have rep3 : Rep K g H3 L2 ρ2 σ δ S2 := rep2.step st23 (rep2.sr.allocs hal)
    have hD3 : H3 D = some (.lst accV) := st23.keep D _ hDv nρ
    have racc3 := racc.later rep2 st23
    refine tg_ok tg (rep3.wipe vs) (rx.esc hesc) hset fun σ2 repB only2 own2 => ⟨wipe_only only2 hv, ?_⟩
    refine ⟨g, L2, ρ2, δ2, S2, _, XF, repB, hwt, xok_F, fun b S3 hb H4 L4 ρ4 st4 rep4 => ?_⟩
    have repO4 : Rep K g H4 L4 ρ4 σ δ S3 := rep3.step st4 rep4.sr
    have hD4 : H4 D = some (.lst accV) := st4.keep D _ hD3 nρ
    have nL4 : ¬ L4 D := fun z => (st4.new D z).elim nL fun z => by rw [hD3] at z; cases z
    have nρ4 : D ∉ ρ4 := fun z => by
      obtain ⟨r, e, n⟩ := st4.pre
      rw [e] at z
      rcases List.mem_append.mp z with z | z
      · exact nρ z
      · rw [n D z] at hD3; cases hD3
    have racc4 := racc3.later rep3 st4
    cases b with
    | false => exact ⟨hlt, L4, ρ4, S3, acc, accV, (st2.trans st23).trans st4, repO4, nL4, nρ4, hD4, racc4, hb⟩
    | true =>
      refine ⟨g, L4, ρ4, δ2, S3, _, XF, rep4, hb, xok_F, fun c S5 hc v H5 L5 ρ5 st5 sr5 cr5 => ?_⟩
      obtain ⟨L5', st5', sr5', vr5, _⟩ := CR.fz sr5 cr5 st5
      have repO5 : Rep K g H5 L5' ρ5 σ δ S5 := repO4.step st5' sr5'
      have hD5 : H5 D = some (.lst accV) := st5'.keep D _ hD4 nρ4
      have nL5 : ¬ L5' D := fun z => (st5'.new D z).elim nL4 fun z => by rw [hD4] at z; cases z
      have nρ5 : D ∉ ρ5 := fun z => by
        obtain ⟨r, e, n⟩ := st5'.pre
        rw [e] at z
        rcases List.mem_append.mp z with z | z
        · exact nρ4 z
        · rw [n D z] at hD4; cases hD4
      have racc5 := racc4.later repO4 st5'
      have vr5' : VR K H5 (fun a => L5' a ∨ own σ δ a) ρ5 v (fz c) := vr5.mo (.sub fun a z => z.imp id fun z => own_wipe (own2 a z))
      have ntD : (∀ xs, H5 D ≠ some (.tup xs)) ∧ ∀ ob u, H5 D ≠ some (.frz ob u) := ⟨fun xs z => (by rw [hD5] at z; cases z), fun ob u z => (by rw [hD5] at z; cases z)⟩
      have mo5 : Mo K H5 (fun a => L5' a ∨ own σ δ a) ρ5 (upd H5 D (.lst (accV ++ [v]))) (fun a => L5' a ∨ own σ δ a) ρ5 := Mo.upd (fun z => z.elim nL5 nOD) ntD
      refine ⟨accV, hD5, by rw [racc5.length]; exact hc.1, hlt, L5', ρ5, S5, acc ++ [fz c], accV ++ [v], ?_, repO5.upd gD nL5 nρ5 nOD ntD, nL5, nρ5, upd_same, (racc5.snoc vr5').mo mo5, hc.2⟩
      exact (((st2.trans st23).trans st4).trans st5').upd hD
  · have e : i = items.length := by omega
    subst e
    rw [List.drop_length] at go
    exact .inl ⟨itStop (Nat.le_refl _), hP _ S2 go _ H2 L2 ρ2 (st1.trans st2) rep2.sr ⟨D, accV, rfl, st1.non hD, nL, nρ, hDv, racc⟩⟩
def wYes : WpT := fun _ S Q _ => Q true S
end
section
variable {X : Cx} {W : WX}
theorem dts_nil : PTs X [] (tDT X.K X.mg W wYes) :=
  ⟨fun pins s' σ H Q I hq => pts_nil.run pins s' σ H Q I (let ⟨g, L, ρ, δ, S, Q', Xq, r, hw, x, k⟩ := hq; k true S hw H L ρ .refl r)⟩
theorem dts_one {c : Expr} {wt : WpT} (h : PTD X W c wt) : PTs X [c] (tDT X.K X.mg W wt) := pts_one h
theorem d_lc {elt tgE iter : Expr} {ifs : List Expr} {scope : Scope} {own : List (Str × Nat)} {pos : Pos} {wi : WpI} {tg : Tg} {wt : WpT} {we : Wp} (hc : X.calm = true) (hN : X.N.Nodup) (hi : PID X W tgE iter wi) (ok : BlkOk X.N X.env.scope scope own)
    (hg : ∀ (s : Shared) (H : Hp) (C : Addr) (cl : List (Str × Addr)) (fp : List Addr), PG (X.blk s H scope (compEnvC scope cl C X.env) fp) tgE (tgOf X.K tg))
    (ht : ∀ (s : Shared) (H : Hp) (C : Addr) (cl : List (Str × Addr)) (fp : List Addr), PTs (X.blk s H scope (compEnvC scope cl C X.env) fp) ifs (tDT X.K X.mg WF wt))
    (he : ∀ (s : Shared) (H : Hp) (C : Addr) (cl : List (Str × Addr)) (fp : List Addr), PED (X.blk s H scope (compEnvC scope cl C X.env) fp) WF elt we) (hs : ∀ x, foldedSetIterable iter X.env x = pure x) (hv : ∀ i ∈ tgSlots tg, i ∈ own.map (·.2)) :
    PED X W (.ListComp elt [⟨tgE, iter, ifs, 0⟩] scope pos) (wLc wi tg wt we (own.map (·.2))) :=
  PE.toD (pe_lc hc hN hi ok hg ht he hs) (snd_lc hv)
theorem ds_setLc_pe {elt tgE iter : Expr} {ifs : List Expr} {scope : Scope} {own : List (Str × Nat)} {pos : Pos} {wi : WpI} {tg : Tg} {wt : WpT} {we : Wp} {i : Nat} {y : Str} {py spos : Pos} (hc : X.calm = true) (hN : X.N.Nodup) (hy : X.N[i]? = some y) (hyl : X.env.scope.names.lookup y = some .local)
    (hsw : swapsWith (.ListComp elt [⟨tgE, iter, ifs, 0⟩] scope pos) (some (.Name y py)) spos.line X.env = pure true) (hi : PID X W tgE iter wi) (ok : BlkOk X.N X.env.scope scope own)
    (hg : ∀ (s : Shared) (H : Hp) (C : Addr) (cl : List (Str × Addr)) (fp : List Addr), PG (X.blk s H scope (compEnvC scope cl C X.env) fp) tgE (tgOf X.K tg))
    (ht : ∀ (s : Shared) (H : Hp) (C : Addr) (cl : List (Str × Addr)) (fp : List Addr), PTs (X.blk s H scope (compEnvC scope cl C X.env) fp) ifs (tDT X.K X.mg WF wt))
    (he : ∀ (s : Shared) (H : Hp) (C : Addr) (cl : List (Str × Addr)) (fp : List Addr), PED (X.blk s H scope (compEnvC scope cl C X.env) fp) WF elt we) (hs : ∀ x, foldedSetIterable iter X.env x = pure x) (hv : ∀ i ∈ tgSlots tg, i ∈ own.map (·.2)) :
    ∃ te, Snd X.K X.mg W te (wLc wi tg wt we (own.map (·.2))) ∧ PS X (.Assign [.Name y py] (.ListComp elt [⟨tgE, iter, ifs, 0⟩] scope pos) spos) (tAsg te (gName i)) :=
  ⟨_, snd_lc hv, ps_setLc hc hN hy hyl hsw hi ok hg ht he hs⟩
end
end DL
/-! DL10: defs that run where no repr is under way; their calls. -/
namespace DL
open PySem PySem.Spec PyProof.Rows L2 RZ
/-- a def's promise, at places where no repr is under way -/
structure FnG (P : Program) (w : World) (K : PySem.W.Frag) (mg : Str → Option Value) (base : Heap) (k : Nat) (f : Addr) (fd : FuncData) (ps : List Str) (sp : Sp) : Prop where
  len : ∀ vs H Q E, sp vs H Q E → vs.length = ps.length
  run : ∀ (A : Around) (outer : List Env) (s : Shared) (H : Hp) (args : Args) (us : List Value) (vs : List V) (Q : VK) (E : XK), Room k A → A.guards = some [] → Env0 P w K mg base A outer s H →
    BindsTo s fd args (ps.zip us) → Vals vs us → sp vs H Q E → codeAny (model P w) A (.call (.ref f) args) (L2.CR (L2.CX P w) outer P w H s Q E) s
theorem FnG.mono {P : Program} {w : World} {K : PySem.W.Frag} {mg : Str → Option Value} {base : Heap} {j k : Nat} {f : Addr} {fd : FuncData} {ps : List Str} {sp : Sp} (F : FnG P w K mg base j f fd ps sp) (h : j ≤ k) : FnG P w K mg base k f fd ps sp :=
  ⟨F.len, fun A o s H a us vs Q E hr => F.run A o s H a us vs Q E (hr.mono h)⟩
section
variable {X : Cx} {k : Nat} {f : Addr} {fd : FuncData} {ps : List Str} {sp : Sp} {E : XK} {x : Str} {p pos : Pos} {e : Expr} {es : List Expr} {t : TA}
theorem run_fnG {pins : List (Addr × Obj)} {σ : Sg} {H : Hp} {s : Shared} {Q : VK} {us : List Value} {vs : List V} (F : FnG X.prog X.w X.K X.mg X.base k f fd ps sp) (hr : Room k X.A) (hG : X.A.guards = some []) (hb : Binds X.K fd ps [])
    (hx : PassesAt (L2.CX X.prog X.w) X σ E) (I : Inv X pins σ H s) (r : Vals vs us) (h : sp vs H Q E) : wpAny (model X.prog X.w) X.A (call (.ref f) us) (EP X pins σ Q) X.xe s := by
  have hl : (us ++ []).length = ps.length := by rw [List.append_nil, ← r.length]; exact F.len _ _ _ _ h
  have hbs := hb s us I.kIn hl
  rw [List.append_nil] at hbs
  refine wpAny_call (codeAny_mono (F.run X.A X.stack s H ⟨us, []⟩ us vs Q E hr hG I.env0 hbs r h) ?_)
  intro res s' hq
  match res, hq with
  | .error e, hq => exact hx pins H s e s' I hq
  | .ok (.ret u), hq => exact I.after hq
  | .ok .next, hq => exact hq.elim
  | .ok .brk, hq => exact hq.elim
  | .ok .cont, hq => exact hq.elim
theorem pe_callG {EE : Sg → XK} (F : FnG X.prog X.w X.K X.mg X.base k f fd ps sp) (hr : Room k X.A) (hG : X.A.guards = some []) (hg : Gl X x) (hm : X.mg x = some (.ref f)) (hk : PySem.W.keepIn X.K (.ref f) = true) (hb : Binds X.K fd ps [])
    (hx : ∀ σ, PassesAt (L2.CX X.prog X.w) X σ (EE σ)) (ha : PA X (e :: es) t) (hdb : (x == ("__debug__" : Str)) = false) (he : starEach (e :: es) X.env = (false, eval e X.env) :: starEach es X.env) (hpl : (backTo pos (starEach es X.env)).any (·.1) = false) :
    PE X (.Call (.Name x p) (e :: es) [] pos) (tCallS sp EE t) := by
  constructor
  intro pins s σ H Q I h
  refine wpAny_Call_Name_kw (ld_glob I hg hm ?_ hdb)
  refine PySem.W.callWith_K (h₀ := X.base) I.ok.mod.kin hk (thn (ha.run pos pins s σ H _ I h) ?_) he hpl
  rintro us s1 ⟨vs, H1, I1, r, q⟩
  exact ⟨I1.kIn, run_fnG F hr hG hb (hx σ) I1 r q⟩
end
/-- THE RULE for a def of the text, by its body -/
theorem fnG_of {P : Program} {w : World} {K : PySem.W.Frag} {mg : Str → Option Value} {base : Heap} {x qual : Str} {st : Stmt} {f : Addr} {fd : FuncData} {N ps : List Str} {k : Nat} {sp : Sp} (F : Fun K x qual st f fd) (S : FnScope N ps (defScope st)) (len : ∀ vs H Q E, sp vs H Q E → vs.length = ps.length)
    (hbody : ∀ (cdv : Value) (A : Around) (outer : List Env) (s : Shared) (H : Hp) (vs : List V) (Q : VK) (E : XK), Room k (A.deeper (envOfC qual (defScope st) s.heap.objs.size f cdv)) → A.guards = some [] → sp vs H Q E →
      ∃ t, PSs (cxOf (L2.CX P w) P w K mg base N qual (defScope st) f cdv A outer s H E) (defBody st) t ∧ t { nx := fun _ H' => Q .non H', rt := Q } (start N vs) H) : FnG P w K mg base (k + 1) f fd ps sp := by
  obtain ⟨oc, od, kV, doc, pm, an, cdv, ct, osl, rfl, lk, hcd⟩ := F.ex
  refine ⟨len, fun A outer s H args us vs Q E hr hG e0 hb r hsp => ?_⟩
  have hl := len _ _ _ _ hsp
  have KX : K.In s.heap := e0.mod.kin.keeps fun b o e => (e0.bs b o e).1
  have hkind : ∀ y ∈ ps.zip us, (defScope st).names.lookup y.1 = some .local ∨ ((defScope st).names.lookup y.1 = some .cell ∧ ((cellsFrom (s.heap.objs.size + 1) (defScope st).names []).lookup y.1).isSome = true) := by
    rintro ⟨n, v⟩ hy
    exact (S.par n (List.of_mem_zip hy).1).imp id fun q => ⟨q, PySem.W.cellsFrom_some _ _ _ (.inl q)⟩
  refine codeAny_call_function hr.depth (KX _ _ lk) rfl S.co S.gen rfl (PySem.W.codeRec_of KX hcd) (hb _ _ _ _ (wpAny_newFunctionEnv_cells S.kind hkind ?_))
  rintro env rfl s1 x1
  refine ⟨(e0.mod.nolimit.keeps fun b o e => (e0.bs b o e).1).keeps x1.toInCall.keep, codeAny_func ?_⟩
  obtain ⟨t, ht, hq⟩ := hbody cdv A outer s H vs Q E (hr.deeper _) hG hsp
  have I := inv_start (CX := L2.CX P w) (E := E) (cd := cdv) (f := f) (qual := qual) (outer := outer) S hr.hd e0 hl r x1
  refine wpAny_mono (ht.run [] s1 (start N vs) H _ I hq) ?_ fun e s' hs => hs
  intro fl s' hs
  match fl, hs with
  | .ret u, ⟨v, σ', H', J, rv, q⟩ => exact ⟨v, H', J.os, J.bare, J.base, J.hok, rv, q⟩
  | .next, ⟨σ', H', J, q⟩ => exact ⟨.non, H', J.os, J.bare, J.base, J.hok, rfl, q⟩
  | .brk, ⟨_, _, _, q⟩ => exact q.elim
  | .cont, ⟨_, _, _, q⟩ => exact q.elim
/-! ### promises in data -/
abbrev FSpec := List Val → Store → (Cell → Store → Prop) → (Xn → Store → Prop) → Prop
section
variable {K : PySem.W.Frag} {mg : Str → Option Value} {W : WX} {H H' H0 H1 H2 H3 : Hp} {L L' L0 L1 L2' : LP} {ρ ρ' ρ0 ρ1 ρ2 : List Addr} {σ σ' : Sg} {δ δ' : DEnv} {S S' : Store} {O : LP} {g : Gh} {D : Addr} {o : HO}
/-- a def's promise by its data-meaning -/
def spD (K : PySem.W.Frag) (mg : Str → Option Value) (n : Nat) (F : FSpec) : Sp := fun vs H Q E => ∃ L ρ ds S Qd Xd, ds.length = n ∧ SR K H L ρ S ∧ VRs K H L ρ vs ds ∧ F ds S Qd Xd ∧
  (∀ c S', Qd c S' → ∀ v H' L' ρ', Stp K H L ρ H' L' ρ' → SR K H' L' ρ' S' → DL.CR K H' L' ρ' H (fun _ => False) v c → Q v H') ∧
  ∀ x S', Xd x S' → ∀ H' L' ρ' cls d, Stp K H L ρ H' L' ρ' → SR K H' L' ρ' S' → XR K mg H H' L' ρ' x cls d → E cls d H'
theorem spD_len {n : Nat} {F : FSpec} {vs : List V} {Q : VK} {E : XK} (h : spD K mg n F vs H Q E) : vs.length = n := by
  obtain ⟨L, ρ, ds, S, Qd, Xd, hn, _, r, _⟩ := h
  rw [r.length, hn]
/-- a call, by meanings -/
def wCall (F : FSpec) (wr : WpA) : Wp := fun δ S Q X => wr δ S (fun ds S1 => F ds S1 Q fun x S2 => X x δ S2) X
theorem SR.more (sr : SR K H L ρ S) (hO : ∀ a, O a → a ∉ ρ ∧ ∃ o, H a = some o) : SR K H (fun a => L a ∨ O a) ρ S :=
  ⟨sr.len, sr.nd, fun a ha z => z.elim (sr.apart a ha) fun z => (hO a z).1 ha, sr.obj, fun a z => z.elim (sr.lthr a) fun z => (hO a z).2⟩
/-- behind a call whose L held O as well -/
theorem back_call (c : Ctx K H L ρ O S) (st : Stp K H (fun a => L a ∨ O a) ρ H' L' ρ') (sr : SR K H' L' ρ' S') :
    Stp K H L ρ H' (fun a => L' a ∧ ¬ O a) ρ' ∧ SR K H' (fun a => L' a ∧ ¬ O a) ρ' S' ∧ ∀ a, L' a → (L' a ∧ ¬ O a) ∨ O a := by
  refine ⟨⟨st.keep, fun a z => ⟨st.sub a (.inl z), fun q => (c.oo a q).1 z⟩, fun a z => (st.new a z.1).elim (fun q => q.elim .inl fun q => absurd q z.2) .inr, st.pre, st.tup, st.frz, fun a o z e => st.fro a o (.inl z) e, st.thr⟩,
    ⟨sr.len, sr.nd, fun a ha z => sr.apart a ha z.1, sr.obj, fun a z => sr.lthr a z.1⟩, fun a z => ?_⟩
  by_cases q : O a
  · exact .inr q
  · exact .inl ⟨z, q⟩
theorem CR.back {v : V} {cc : Cell} (hO : ∀ a, O a → ∃ o, H a = some o) (hL : ∀ a, L' a → (L' a ∧ ¬ O a) ∨ O a) (h : DL.CR K H' L' ρ' H (fun _ => False) v cc) : DL.CR K H' (fun a => L' a ∧ ¬ O a) ρ' H O v cc := by
  have m : Mo K H' (fun a => L' a ∨ False) ρ' H' (fun a => (L' a ∧ ¬ O a) ∨ O a) ρ' := .sub fun a z => z.elim (hL a) fun z => z.elim
  cases cc with
  | v d => exact VR.mo m h
  | l ds =>
    obtain ⟨a, vs, e, h1, h2, h3, h4, h5⟩ := h
    exact ⟨a, vs, e, h1, fun z => h2 z.1, h3, h4, h5.mo m⟩
  | m ds =>
    obtain ⟨a, vs, e, h1, h2, h3, h4, h5⟩ := h
    exact ⟨a, vs, e, h1, fun z => h2 z.1, h3, h4, h5.mo m⟩
theorem snd_call {n : Nat} {F : FSpec} {t : TA} {wr : WpA} (hF : ∀ ds S Q X, F ds S Q X → ds.length = n) (ha : SndA K mg W t wr) : Snd K mg W (tCallS (spD K mg n F) (WE W) t) (wCall F wr) := by
  intro g H L ρ σ δ S rep Q Xq hw hx P hP
  refine ha g H L ρ σ δ S rep _ Xq hw hx _ fun ds S1 hq vs H1 L1 ρ1 st1 rep1 v1 => ?_
  have c := rep1.ctx
  have hO : ∀ a, own σ δ a → ∃ o, H1 a = some o := fun a h => (c.oo a h).2.2
  refine ⟨_, ρ1, ds, S1, _, _, hF _ _ _ _ hq, rep1.sr.more (O := own σ δ) fun a h => ⟨(c.oo a h).2.1, hO a h⟩, v1, hq, fun cc S2 hc v H2 L2 ρ2 st2 sr2 cr2 => ?_, fun x S2 hxx H2 L2 ρ2 cls d st2 sr2 xr => ?_⟩
  · obtain ⟨st3, sr3, hL⟩ := back_call c st2 sr2
    exact hP cc S2 hc v H2 _ ρ2 (st1.trans st3) sr3 ((CR.back hO hL cr2).older st1)
  · obtain ⟨st3, sr3, hL⟩ := back_call c st2 sr2
    refine hx x δ S2 hxx σ H2 _ ρ2 cls d (rep1.step st3 sr3) ⟨xr.1, xr.2.imp id fun ⟨dd, fs, e1, e0, e2, e3, e4⟩ => ⟨dd, fs, e1, rep1.st.non e0, e2, e3, e4.mo (.sub hL)⟩⟩
end
section
variable {X : Cx} {W : WX} {k : Nat} {f : Addr} {fd : FuncData} {ps : List Str} {x : Str} {p pos : Pos} {e : Expr} {es : List Expr} {wr : WpA} {F : FSpec}
theorem d_call (FG : FnG X.prog X.w X.K X.mg X.base k f fd ps (spD X.K X.mg ps.length F)) (hF : ∀ ds S Q X, F ds S Q X → ds.length = ps.length) (tk : Takes X W) (hr : Room k X.A) (hG : X.A.guards = some []) (hg : Gl X x) (hm : X.mg x = some (.ref f)) (hk : PySem.W.keepIn X.K (.ref f) = true)
    (hb : Binds X.K fd ps []) (ha : PAD X W (e :: es) wr) (hdb : (x == ("__debug__" : Str)) = false) (he : starEach (e :: es) X.env = (false, eval e X.env) :: starEach es X.env) (hpl : (backTo pos (starEach es X.env)).any (·.1) = false) :
    PED X W (.Call (.Name x p) (e :: es) [] pos) (wCall F wr) := by
  obtain ⟨t, h1, h2⟩ := ha
  exact PE.toD (pe_callG (EE := WE W) FG hr hG hg hm hk hb (fun σ => passAt tk σ) h1 hdb he hpl) (snd_call hF h2)
end
end DL
/-! DL11: statements, by meanings. -/
namespace DL
open PySem PySem.Spec PyProof.Rows L2 RZ
structure DEnds where
  nx : DEnv → Store → Prop
  rt : Cell → Store → Prop
  bk : DEnv → Store → Prop := fun _ _ => False
  ct : DEnv → Store → Prop := fun _ _ => False
abbrev WpS := DEnds → DEnv → Store → XQ → Prop
section
variable {K : PySem.W.Frag} {mg : Str → Option Value} {W : WX} {H H' H0 H1 H2 H3 : Hp} {L L' L0 L1 LL : LP} {ρ ρ' ρ0 ρ1 ρ2 : List Addr} {σ σ' : Sg} {δ δ' : DEnv} {S S' : Store} {O : LP} {g : Gh} {D : Addr} {o : HO}
theorem Mo.refl : Mo K H L ρ H L ρ := ⟨fun _ _ h => h, fun _ _ _ h => h, fun _ h => ⟨h, fun _ e => e⟩, fun _ _ h => h⟩
theorem Mo.trans (a : Mo K H L ρ H1 L1 ρ1) (b : Mo K H1 L1 ρ1 H2 LL ρ2) : Mo K H L ρ H2 LL ρ2 :=
  ⟨fun p xs h => b.tup p xs (a.tup p xs h), fun p o u h => b.frz p o u (a.frz p o u h), fun p h => ⟨(b.lst p (a.lst p h).1).1, fun o e => (b.lst p (a.lst p h).1).2 o ((a.lst p h).2 o e)⟩, fun n p h => b.ref n p (a.ref n p h)⟩
/-- one way on: the frame at its data -/
def EndN (K : PySem.W.Frag) (g : Gh) (H : Hp) (L : LP) (ρ : List Addr) (Q : DEnv → Store → Prop) (P : Sg → Hp → Prop) : Prop :=
  ∀ δ' S', Q δ' S' → ∀ σ' H' L' ρ', Rep K g H' L' ρ' σ' δ' S' → Mo K H L ρ H' L' ρ' → P σ' H'
structure EndsOk (K : PySem.W.Frag) (g : Gh) (H : Hp) (L : LP) (ρ : List Addr) (Dd : DEnds) (D : Ends) : Prop where
  nx : EndN K g H L ρ Dd.nx D.nx
  bk : EndN K g H L ρ Dd.bk D.bk
  ct : EndN K g H L ρ Dd.ct D.ct
  rt : ∀ c S', Dd.rt c S' → ∀ v H' L' ρ', Stp K g.H g.L g.ρ H' L' ρ' → SR K H' L' ρ' S' → DL.CR K H' L' ρ' g.H (fun _ => False) v c → D.rt v H'
theorem EndN.mo {Q : DEnv → Store → Prop} {P : Sg → Hp → Prop} (h : EndN K g H L ρ Q P) (m : Mo K H L ρ H1 L1 ρ1) : EndN K g H1 L1 ρ1 Q P := fun δ' S' q σ' H' L' ρ' r m' => h δ' S' q σ' H' L' ρ' r (m.trans m')
theorem EndsOk.mo {Dd : DEnds} {D : Ends} (h : EndsOk K g H L ρ Dd D) (m : Mo K H L ρ H1 L1 ρ1) : EndsOk K g H1 L1 ρ1 Dd D := ⟨h.nx.mo m, h.bk.mo m, h.ct.mo m, h.rt⟩
def SndS (K : PySem.W.Frag) (mg : Str → Option Value) (W : WX) (t : TS) (ws : WpS) : Prop :=
  ∀ g H L ρ σ δ S, Rep K g H L ρ σ δ S → ∀ Dd Xq, ws Dd δ S Xq → XOK K mg W g Xq → ∀ D, EndsOk K g H L ρ Dd D → t D σ H
def tDS (K : PySem.W.Frag) (mg : Str → Option Value) (W : WX) (ws : WpS) : TS := fun D σ H =>
  ∃ g L ρ δ S Dd Xq, Rep K g H L ρ σ δ S ∧ ws Dd δ S Xq ∧ XOK K mg W g Xq ∧ EndsOk K g H L ρ Dd D
theorem snd_tDS {ws : WpS} : SndS K mg W (tDS K mg W ws) ws := fun g H L ρ σ δ S r Dd Xq h x D k => ⟨g, L, ρ, δ, S, Dd, Xq, r, h, x, k⟩
abbrev PSD (X : Cx) (W : WX) (st : Stmt) (ws : WpS) : Prop := PS X st (tDS X.K X.mg W ws)
abbrev PSsD (X : Cx) (W : WX) (st : List Stmt) (ws : WpS) : Prop := PSs X st (tDS X.K X.mg W ws)
theorem PS.toD {X : Cx} {st : Stmt} {t : TS} {ws : WpS} (h : PS X st t) (s : SndS X.K X.mg W t ws) : PSD X W st ws :=
  ⟨fun pins s' σ H D I hq => h.run pins s' σ H D I (let ⟨g, L, ρ, δ, S, Dd, Xq, r, hw, x, k⟩ := hq; s g H L ρ σ δ S r Dd Xq hw x D k)⟩
theorem PSs.toD {X : Cx} {st : List Stmt} {t : TS} {ws : WpS} (h : PSs X st t) (s : SndS X.K X.mg W t ws) : PSsD X W st ws :=
  ⟨fun pins s' σ H D I hq => h.run pins s' σ H D I (let ⟨g, L, ρ, δ, S, Dd, Xq, r, hw, x, k⟩ := hq; s g H L ρ σ δ S r Dd Xq hw x D k)⟩
/-! ### an expression in a statement -/
def mask (δ : DEnv) : DEnv := δ.map fun c => match c with
  | some (.v d) => some (.v d)
  | _ => none
theorem mask_get (i : Nat) : (mask δ)[i]? = (δ[i]?).map fun c => match c with
    | some (.v d) => some (.v d)
    | _ => none := by simp [mask]
theorem own_mask {a : Addr} : ¬ own σ (mask δ) a := fun ⟨i, c, h1, h2, _⟩ => by
  rw [mask_get] at h1
  cases e : δ[i]? with
  | none => rw [e] at h1; cases h1
  | some u =>
    rw [e] at h1
    match u, h1 with
    | some (.v d), h1 => cases h1; cases h2
theorem Rep.mask (r : Rep K g H L ρ σ δ S) : Rep K g H L ρ σ (mask δ) S := by
  refine ⟨r.sr, ⟨by rw [r.er.len]; simp [DL.mask], fun i c h => ?_, fun i j a h1 _ => absurd ⟨i, h1⟩ own_mask⟩, r.st⟩
  rw [mask_get] at h
  cases e : δ[i]? with
  | none => rw [e] at h; cases h
  | some u =>
    rw [e] at h
    have q := r.er.cell i u e
    match u, h, q with
    | some (.v d), h, q => cases h; exact q
    | some (.l d), h, q => cases h; trivial
    | some (.m d), h, q => cases h; trivial
    | none, h, q => cases h; trivial
def escC (δ : DEnv) : Cell → Bool
  | .v d => esc δ d
  | .l ds => escs δ ds
  | .m kvs => escs δ (kvs.map (·.2))
/-- an expression in a statement; m: it reads none of the lists that the frame alone holds -/
def wEv (m : Bool) (w : Wp) (δ : DEnv) (S : Store) (k : CQ) (X : XQ) : Prop :=
  if m = true then w (mask δ) S k X else w δ S (fun c S' => escC δ c = true ∧ k c S') X
abbrev NO : LP := fun _ => False
theorem VRk.vrs : ∀ {vs : List (Key × V)} {ds : List (Key × Val)}, VRk K H L ρ vs ds → VRs K H L ρ (vs.map (·.2)) (ds.map (·.2)) ∧ vs.map (·.1) = ds.map (·.1)
  | _, _, .nil => ⟨.nil, rfl⟩
  | _, _, .cons h r => let ⟨a, b⟩ := VRk.vrs r; ⟨.cons h a, by simp [b]⟩
theorem VRk.of : ∀ {vs : List (Key × V)} {ds : List (Key × Val)}, vs.map (·.1) = ds.map (·.1) → VRs K H L ρ (vs.map (·.2)) (ds.map (·.2)) → VRk K H L ρ vs ds
  | [], [], _, _ => .nil
  | [], _ :: _, e, _ => by simp at e
  | _ :: _, [], e, _ => by simp at e
  | (k, v) :: vs, (k', d) :: ds, e, r => by
    simp at e
    obtain ⟨rfl, e⟩ := e
    cases r with
    | cons h r => exact .cons h (VRk.of e r)
theorem CR.esc {v : V} {c : Cell} (h : DL.CR K H' L' ρ' H (own σ δ) v c) (e : escC δ c = true) : DL.CR K H' L' ρ' H NO v c := by
  have m : Mo K H' L' ρ' H' (fun a => L' a ∨ NO a) ρ' := .sub fun _ z => .inl z
  cases c with
  | v d => exact (VR.esc h e).mo m
  | l ds =>
    obtain ⟨a, vs, e1, h1, h2, h3, h4, h5⟩ := h
    exact ⟨a, vs, e1, h1, h2, h3, h4, (h5.esc e).mo m⟩
  | m ds =>
    obtain ⟨a, vs, e1, h1, h2, h3, h4, h5⟩ := h
    obtain ⟨a1, a2⟩ := h5.vrs
    exact ⟨a, vs, e1, h1, h2, h3, h4, .of a2 ((a1.esc e).mo m)⟩
theorem CR.subO {v : V} {c : Cell} {O1 O2 : LP} (h : DL.CR K H' L' ρ' H O1 v c) (s : ∀ a, O1 a → O2 a) : DL.CR K H' L' ρ' H O2 v c := by
  have m : Mo K H' (fun a => L' a ∨ O1 a) ρ' H' (fun a => L' a ∨ O2 a) ρ' := .sub fun a z => z.imp id (s a)
  cases c with
  | v d => exact VR.mo m h
  | l ds =>
    obtain ⟨a, vs, e1, h1, h2, h3, h4, h5⟩ := h
    exact ⟨a, vs, e1, h1, h2, h3, h4, h5.mo m⟩
  | m ds =>
    obtain ⟨a, vs, e1, h1, h2, h3, h4, h5⟩ := h
    exact ⟨a, vs, e1, h1, h2, h3, h4, h5.mo m⟩
theorem Snd.ev {t : TE} {w : Wp} (h : Snd K mg W t w) (rep : Rep K g H L ρ σ δ S) {m : Bool} {Xq : XQ} {k : CQ} (hw : wEv m w δ S k Xq) (hx : XOK K mg W g Xq) {P : VK}
    (hk : ∀ c S1, k c S1 → ∀ v H1 L1 ρ1, Stp K H L ρ H1 L1 ρ1 → Rep K g H1 L1 ρ1 σ δ S1 → DL.CR K H1 L1 ρ1 H NO v c → P v H1) : t σ H P := by
  cases m with
  | true =>
    rw [wEv, if_pos rfl] at hw
    exact h g H L ρ σ (DL.mask δ) S rep.mask _ Xq hw hx P fun c S1 hq v H1 L1 ρ1 st sr cr => hk c S1 hq v H1 L1 ρ1 st (rep.step st sr) (cr.subO fun a z => own_mask z)
  | false =>
    rw [wEv, if_neg Bool.false_ne_true] at hw
    exact h g H L ρ σ δ S rep _ Xq hw hx P fun c S1 hq v H1 L1 ρ1 st sr cr => hk c S1 hq.2 v H1 L1 ρ1 st (rep.step st sr) (cr.esc hq.1)
/-- frozen -/
theorem CR.fzN {v : V} {c : Cell} (rep1 : Rep K g H1 L1 ρ1 σ δ S) (st : Stp K H L ρ H1 L1 ρ1) (rep : Rep K g H L ρ σ δ S') (h : DL.CR K H1 L1 ρ1 H NO v c) : ∃ L1', Stp K H L ρ H1 L1' ρ1 ∧ Rep K g H1 L1' ρ1 σ δ S ∧ VR K H1 L1' ρ1 v (DL.fz c) := by
  obtain ⟨L', st', sr', vr, _⟩ := DL.CR.fz rep1.sr h st
  exact ⟨L', st', rep.step st' sr', vr.mo (.sub fun a z => z.elim id fun z => z.elim)⟩
theorem Snd.evV {t : TE} {w : Wp} (h : Snd K mg W t w) (rep : Rep K g H L ρ σ δ S) {m : Bool} {Xq : XQ} {k : VQ} (hw : wEv m w δ S (fun c S1 => k (fz c) S1) Xq) (hx : XOK K mg W g Xq) {P : VK}
    (hk : ∀ d S1, k d S1 → ∀ v H1 L1 ρ1, Stp K H L ρ H1 L1 ρ1 → Rep K g H1 L1 ρ1 σ δ S1 → VR K H1 L1 ρ1 v d → P v H1) : t σ H P := by
  refine h.ev rep hw hx fun c S1 hq v H1 L1 ρ1 st rep1 cr => ?_
  obtain ⟨L1', st', rep1', vr⟩ := cr.fzN rep1 st rep
  exact hk _ S1 hq v H1 L1' ρ1 st' rep1' vr
/-! ### simple statements -/
def wsSeq (a b : WpS) : WpS := fun Dd δ S X => a { Dd with nx := fun δ1 S1 => b Dd δ1 S1 X } δ S X
def wsNext : WpS := fun Dd δ S _ => Dd.nx δ S
def wsSet (m : Bool) (i : Nat) (w : Wp) : WpS := fun Dd δ S X => wEv m w δ S (fun c S1 => Dd.nx (δ.set i (some (.v (fz c)))) S1) X
def wsSetO (m : Bool) (i : Nat) (w : Wp) : WpS := fun Dd δ S X => wEv m w δ S (fun c S1 => c.owned = true ∧ Dd.nx (δ.set i (some c)) S1) X
def wsAsg (m : Bool) (tg : Tg) (w : Wp) : WpS := fun Dd δ S X => wEv m w δ S (fun c S1 => ∃ δ', tgSet tg (fz c) δ = some δ' ∧ Dd.nx δ' S1) X
def wsDrop (m : Bool) (w : Wp) : WpS := fun Dd δ S X => wEv m w δ S (fun _ S1 => Dd.nx δ S1) X
def wsRet (w : Wp) : WpS := fun Dd δ S X => w δ S (fun c S1 => Dd.rt c S1) X
def wsRetO (i : Nat) : WpS := fun Dd δ S _ => ∃ c, δ[i]? = some (some c) ∧ c.owned = true ∧ Dd.rt c S
def wsRetN : WpS := fun Dd _ S _ => Dd.rt (.v .non) S
def wsIf (wt : WpT) (a b : WpS) : WpS := fun Dd δ S X => wt δ S (fun k S1 => if k = true then a Dd δ S1 X else b Dd δ S1 X) X
def wsBreak : WpS := fun Dd δ S _ => Dd.bk δ S
def wsCont : WpS := fun Dd δ S _ => Dd.ct δ S
def wsWhile (wt : WpT) (b : WpS) : WpS := fun Dd δ S X => ∃ I : Nat → DEnv → Store → Prop, (∃ m, I m δ S) ∧ ∀ m δ S, I m δ S →
  wt δ S (fun k S1 => if k = true then b { Dd with nx := fun δ2 S2 => ∃ m', m' < m ∧ I m' δ2 S2, ct := fun δ2 S2 => ∃ m', m' < m ∧ I m' δ2 S2, bk := Dd.nx } δ S1 X else Dd.nx δ S1) X
def wsForGo (tg : Tg) (b : WpS) (Dd : DEnds) (X : XQ) : List Val → DEnv → Store → Prop
  | [], δ, S => Dd.nx δ S
  | x :: xs, δ, S => ∃ δ2, tgSet tg x δ = some δ2 ∧ b { Dd with nx := fun δ3 S3 => wsForGo tg b Dd X xs δ3 S3, ct := fun δ3 S3 => wsForGo tg b Dd X xs δ3 S3, bk := Dd.nx } δ2 S X
def wsFor (wi : WpI) (tg : Tg) (b : WpS) : WpS := fun Dd δ S X => wi (mask δ) S (fun items S1 => wsForGo tg b Dd X items δ S1) X
theorem sndS_next : SndS K mg W tNext wsNext := fun g H L ρ σ δ S rep Dd Xq h _ D k => k.nx δ S h σ H L ρ rep .refl
theorem sndS_seq {t u : TS} {a b : WpS} (h1 : SndS K mg W t a) (h2 : SndS K mg W u b) : SndS K mg W (tSeq t u) (wsSeq a b) := by
  intro g H L ρ σ δ S rep Dd Xq hw hx D k
  refine h1 g H L ρ σ δ S rep _ Xq hw hx _ ⟨fun δ1 S1 hq σ1 H1 L1 ρ1 r1 m1 => ?_, k.bk, k.ct, k.rt⟩
  exact h2 g H1 L1 ρ1 σ1 δ1 S1 r1 Dd Xq hq hx D (k.mo m1)
theorem sndS_set {te : TE} {w : Wp} {m : Bool} {i : Nat} (h : Snd K mg W te w) : SndS K mg W (tAsg te (gName i)) (wsSet m i w) := by
  intro g H L ρ σ δ S rep Dd Xq hw hx D k
  exact h.evV (k := fun d S1 => Dd.nx (δ.set i (some (.v d))) S1) rep hw hx fun d S1 hq v H1 L1 ρ1 st rep1 vr => k.nx _ S1 hq _ H1 L1 ρ1 (rep1.setV vr) st.mo
theorem sndS_setO {te : TE} {w : Wp} {m : Bool} {i : Nat} (h : Snd K mg W te w) : SndS K mg W (tAsg te (gName i)) (wsSetO m i w) := by
  intro g H L ρ σ δ S rep Dd Xq hw hx D k
  refine h.ev rep hw hx fun c S1 hq v H1 L1 ρ1 st rep1 cr => ?_
  have mm : Mo K H1 (fun a => L1 a ∨ NO a) ρ1 H1 L1 ρ1 := .sub fun a z => z.elim id fun z => z.elim
  have nOwn : ∀ a, H a = none → ¬ own σ δ a := fun a ha z => by
    obtain ⟨o, e, _⟩ := (rep.ownH z).2.2.2
    rw [ha] at e; cases e
  cases c with
  | v d => cases hq.1
  | l ds =>
    obtain ⟨a, vs, rfl, h1, h2, h3, h4, h5⟩ := cr
    exact k.nx _ S1 hq.2 _ H1 L1 ρ1 (rep1.setO rfl (nOwn a h1) ⟨a, vs, rfl, rep.st.non h1, h2, h3, h4, h5.mo mm⟩) st.mo
  | m ds =>
    obtain ⟨a, vs, rfl, h1, h2, h3, h4, h5⟩ := cr
    exact k.nx _ S1 hq.2 _ H1 L1 ρ1 (rep1.setO rfl (nOwn a h1) ⟨a, vs, rfl, rep.st.non h1, h2, h3, h4, h5.mo mm⟩) st.mo
theorem sndS_asg {te : TE} {w : Wp} {m : Bool} {tg : Tg} (h : Snd K mg W te w) : SndS K mg W (tAsg te (tgOf K tg)) (wsAsg m tg w) := by
  intro g H L ρ σ δ S rep Dd Xq hw hx D k
  refine h.evV (k := fun d S1 => ∃ δ', tgSet tg d δ = some δ' ∧ Dd.nx δ' S1) rep hw hx fun d S1 hq v H1 L1 ρ1 st rep1 vr => ?_
  obtain ⟨δ', e, hq⟩ := hq
  exact tg_ok tg rep1 vr e fun σ' rep' _ _ => k.nx _ S1 hq _ H1 L1 ρ1 rep' st.mo
theorem sndS_drop {te : TE} {w : Wp} {m : Bool} (h : Snd K mg W te w) : SndS K mg W (tDrop te) (wsDrop m w) := by
  intro g H L ρ σ δ S rep Dd Xq hw hx D k
  exact h.ev rep hw hx fun c S1 hq v H1 L1 ρ1 st rep1 _ => k.nx _ S1 hq _ H1 L1 ρ1 rep1 st.mo
theorem Rep.retStp (rep : Rep K g H L ρ σ δ S) : Stp K g.H g.L g.ρ H (fun a => L a ∨ own σ δ a) ρ :=
  ⟨rep.st.keep, fun a z => .inl (rep.st.sub a z), fun a z => z.elim (rep.st.new a) fun z => .inr (rep.ownH z).1, rep.st.pre, rep.st.tup, rep.st.frz, rep.st.fro, rep.st.thr⟩
theorem Rep.retSR (rep : Rep K g H L ρ σ δ S) : SR K H (fun a => L a ∨ own σ δ a) ρ S := rep.sr.more fun a z => ⟨(rep.ownH z).2.2.1, let ⟨o, e, _⟩ := (rep.ownH z).2.2.2; ⟨o, e⟩⟩
theorem sndS_ret {te : TE} {w : Wp} (h : Snd K mg W te w) : SndS K mg W (tRet te) (wsRet w) := by
  intro g H L ρ σ δ S rep Dd Xq hw hx D k
  refine h g H L ρ σ δ S rep _ Xq hw hx _ fun c S1 hq v H1 L1 ρ1 st sr cr => ?_
  have rep1 := rep.step st sr
  refine k.rt c S1 hq v H1 _ ρ1 rep1.retStp rep1.retSR ?_
  have mm : Mo K H1 (fun a => L1 a ∨ own σ δ a) ρ1 H1 (fun a => (L1 a ∨ own σ δ a) ∨ False) ρ1 := .sub fun a z => .inl z
  have nOwn : ∀ a, H a = none → ¬ own σ δ a := fun a ha z => by
    obtain ⟨o, e, _⟩ := (rep.ownH z).2.2.2
    rw [ha] at e; cases e
  cases c with
  | v d => exact VR.mo mm cr
  | l ds =>
    obtain ⟨a, vs, rfl, h1, h2, h3, h4, h5⟩ := cr
    exact ⟨a, vs, rfl, rep.st.non h1, fun z => z.elim h2 (nOwn a h1), h3, h4, h5.mo mm⟩
  | m ds =>
    obtain ⟨a, vs, rfl, h1, h2, h3, h4, h5⟩ := cr
    exact ⟨a, vs, rfl, rep.st.non h1, fun z => z.elim h2 (nOwn a h1), h3, h4, h5.mo mm⟩
theorem sndS_retO {i : Nat} : SndS K mg W (tRet (tVar i)) (wsRetO i) := by
  intro g H L ρ σ δ S rep Dd Xq hw hx D k
  obtain ⟨c, hc, ho, hq⟩ := hw
  have q := rep.er.cell i _ hc
  have mm : Mo K H L ρ H (fun a => L a ∨ False) ρ := .sub fun a z => .inl z
  have at_ : ∀ {v : V}, σ[i]?.join = some v → σ[i]? = some (some v) := fun {v} e => by
    cases e2 : σ[i]? with
    | none => rw [e2] at e; cases e
    | some o => rw [e2] at e; rw [show o = some v from e]
  cases c with
  | v d => cases ho
  | l ds =>
    obtain ⟨a, vs, e, h1, h2, h3, h4, h5⟩ := q
    exact ⟨.ref a, at_ e, k.rt _ S hq _ H L ρ rep.st rep.sr ⟨a, vs, rfl, h1, h2, h3, h4, h5.mo mm⟩⟩
  | m ds =>
    obtain ⟨a, vs, e, h1, h2, h3, h4, h5⟩ := q
    exact ⟨.ref a, at_ e, k.rt _ S hq _ H L ρ rep.st rep.sr ⟨a, vs, rfl, h1, h2, h3, h4, h5.mo mm⟩⟩
theorem sndS_if {t : TT} {ta tb : TS} {wt : WpT} {a b : WpS} (ht : SndT K mg W t wt) (ha : SndS K mg W ta a) (hb : SndS K mg W tb b) : SndS K mg W (tIfS t ta tb) (wsIf wt a b) := by
  intro g H L ρ σ δ S rep Dd Xq hw hx D k
  refine ht g H L ρ σ δ S rep _ Xq hw hx _ fun c S1 hq H1 L1 ρ1 st rep1 => ?_
  cases c with
  | true => exact ha g H1 L1 ρ1 σ δ S1 rep1 Dd Xq hq hx D (k.mo st.mo)
  | false => exact hb g H1 L1 ρ1 σ δ S1 rep1 Dd Xq hq hx D (k.mo st.mo)
theorem sndS_while {t : TT} {tb : TS} {wt : WpT} {b : WpS} (ht : SndT K mg W t wt) (hb : SndS K mg W tb b) : SndS K mg W (tWhile t tb) (wsWhile wt b) := by
  intro g H L ρ σ δ S rep Dd Xq hw hx D k
  obtain ⟨I, ⟨m0, i0⟩, turn⟩ := hw
  refine ⟨fun m σ' H' => ∃ L' ρ' δ' S', Rep K g H' L' ρ' σ' δ' S' ∧ Mo K H L ρ H' L' ρ' ∧ I m δ' S', ⟨m0, L, ρ, δ, S, rep, .refl, i0⟩, ?_⟩
  rintro m σ1 H1 ⟨L1, ρ1, δ1, S1, rep1, mo1, i1⟩
  refine ht g H1 L1 ρ1 σ1 δ1 S1 rep1 _ Xq (turn m δ1 S1 i1) hx _ fun c S2 hq H2 L2 ρ2 st rep2 => ?_
  have mo2 := mo1.trans st.mo
  cases c with
  | false => exact k.nx δ1 S2 hq σ1 H2 L2 ρ2 rep2 mo2
  | true =>
    rw [if_pos rfl]
    refine ⟨fun σ' H' => ∃ m', m' < m ∧ ∃ L' ρ' δ' S', Rep K g H' L' ρ' σ' δ' S' ∧ Mo K H L ρ H' L' ρ' ∧ I m' δ' S', fun σ' H' h => h, ?_⟩
    have nn : EndN K g H2 L2 ρ2 (fun δ2 S2 => ∃ m', m' < m ∧ I m' δ2 S2) (fun σ' H' => ∃ m', m' < m ∧ ∃ L' ρ' δ' S', Rep K g H' L' ρ' σ' δ' S' ∧ Mo K H L ρ H' L' ρ' ∧ I m' δ' S') :=
      fun δ3 S3 ⟨m', hm, hi⟩ σ3 H3 L3 ρ3 r3 m3 => ⟨m', hm, L3, ρ3, δ3, S3, r3, mo2.trans m3, hi⟩
    exact hb g H2 L2 ρ2 σ1 δ1 S2 rep2 _ Xq hq hx _ ⟨nn, k.nx.mo mo2, nn, k.rt⟩
theorem sndS_for {wi : WpI} {tg : Tg} {tb : TS} {b : WpS} (hb : SndS K mg W tb b) : SndS K mg W (tFor (iD K mg W wi) (tgOf K tg) tb) (wsFor wi tg b) := by
  intro g H L ρ σ δ S rep Dd Xq hw hx D k
  refine ⟨g, L, ρ, mask δ, S, _, Xq, rep.mask, hw, hx, fun items S1 hq J H1 L1 ρ1 st1 repM itok => ?_⟩
  have rep1 : Rep K g H1 L1 ρ1 σ δ S1 := rep.step st1 repM.sr
  have mo1 : Mo K H L ρ H1 L1 ρ1 := st1.mo
  refine ⟨fun i m σ' H' => m = items.length - i ∧ i ≤ items.length ∧ ∃ L' ρ' δ' S', Rep K g H' L' ρ' σ' δ' S' ∧ Mo K H1 L1 ρ1 H' L' ρ' ∧ wsForGo tg b Dd Xq (items.drop i) δ' S',
    ⟨items.length, by omega, Nat.zero_le _, L1, ρ1, δ, S1, rep1, .refl, hq⟩, ?_⟩
  rintro i m σ2 H2 ⟨rfl, hi, L2, ρ2, δ2, S2, rep2, mo2, go⟩
  have mo2' : Mo K H1 (fun a => L1 a ∨ own σ (mask δ) a) ρ1 H2 (fun a => L2 a ∨ own σ (mask δ) a) ρ2 :=
    ⟨mo2.tup, mo2.frz, fun a z => z.elim (fun z => ⟨.inl (mo2.lst a z).1, (mo2.lst a z).2⟩) fun z => absurd z own_mask, mo2.ref⟩
  obtain ⟨itStop, itGo⟩ := itok H2 L2 ρ2 mo2' i
  by_cases hlt : i < items.length
  · obtain ⟨jgo, jy⟩ := itGo _ (List.getElem?_eq_getElem hlt)
    rw [List.drop_eq_getElem_cons hlt] at go
    obtain ⟨δ3, hset, hbody⟩ := go
    refine .inr ⟨jgo, fun σ' H' => i + 1 ≤ items.length ∧ ∃ L' ρ' δ' S', Rep K g H' L' ρ' σ' δ' S' ∧ Mo K H1 L1 ρ1 H' L' ρ' ∧ wsForGo tg b Dd Xq (items.drop (i + 1)) δ' S',
      fun σ' H' hN => ⟨items.length - (i + 1), by omega, rfl, hN⟩, fun x H3 y => ?_⟩
    obtain ⟨hal, rx⟩ := jy x H3 y
    have st3 : Stp K H2 L2 ρ2 H3 L2 ρ2 := .allocs hal
    have rep3 : Rep K g H3 L2 ρ2 σ2 δ2 S2 := rep2.step st3 (rep2.sr.allocs hal)
    refine tg_ok tg rep3 (rx.mo (.sub fun a z => z.elim id fun z => absurd z own_mask)) hset fun σ4 rep4 _ _ => ?_
    have mo3 : Mo K H1 L1 ρ1 H3 L2 ρ2 := mo2.trans st3.mo
    have nn : EndN K g H3 L2 ρ2 (fun δ3 S3 => wsForGo tg b Dd Xq (items.drop (i + 1)) δ3 S3) (fun σ' H' => i + 1 ≤ items.length ∧ ∃ L' ρ' δ' S', Rep K g H' L' ρ' σ' δ' S' ∧ Mo K H1 L1 ρ1 H' L' ρ' ∧ wsForGo tg b Dd Xq (items.drop (i + 1)) δ' S') :=
      fun δ5 S5 hi5 σ5 H5 L5 ρ5 r5 m5 => ⟨hlt, L5, ρ5, δ5, S5, r5, mo3.trans m5, hi5⟩
    exact hb g H3 L2 ρ2 σ4 δ3 S2 rep4 _ Xq hbody hx _ ⟨nn, k.nx.mo (mo1.trans mo3), nn, k.rt⟩
  · have e : i = items.length := by omega
    subst e
    rw [List.drop_length] at go
    exact .inl ⟨itStop (Nat.le_refl _), k.nx δ2 S2 go σ2 H2 L2 ρ2 rep2 (mo1.trans mo2)⟩
/-! ### changes of a slot's own list or dict -/
theorem set_same_at {α : Type} {l : List α} {i : Nat} {x : α} (h : l[i]? = some x) : l.set i x = l := by
  obtain ⟨h1, h2⟩ := List.getElem?_eq_some_iff.mp h
  rw [← h2]
  exact List.set_getElem_self h1
theorem Rep.chg (rep : Rep K g H L ρ σ δ S) {i : Nat} {a : Addr} {c c' : Cell} {o' : HO} (hc : δ[i]? = some (some c)) (ho : c.owned = true) (ha : σ[i]? = some (some (.ref a))) (ho' : c'.owned = true)
    (h : CellR K (L2.upd H a o') L ρ g.H (some (.ref a)) (some c')) : Rep K g (L2.upd H a o') L ρ σ (δ.set i (some c')) S ∧ Mo K H L ρ (L2.upd H a o') L ρ := by
  have oa : OwnAt σ δ i a := ⟨c, hc, ho, ha⟩
  obtain ⟨h1, h2, h3, u, h4, h5⟩ := rep.ownH ⟨i, oa⟩
  have nt : (∀ xs, H a ≠ some (.tup xs)) ∧ ∀ ob u, H a ≠ some (.frz ob u) := ⟨fun xs z => by rw [h4] at z; exact h5.1 xs (Option.some.inj z), fun ob u z => by rw [h4] at z; exact h5.2 ob u (Option.some.inj z)⟩
  have rep1 : Rep K g H L ρ σ (δ.set i none) S := by
    have q := rep.setC (i := i) (v := σ[i]?.join) (c := none) (fun c' e => nomatch e) trivial
    have e : σ.set i σ[i]?.join = σ := by rw [ha]; exact set_same_at ha
    rw [e] at q
    exact q
  have no1 : ¬ own σ (δ.set i none) a := fun ⟨j, hj⟩ => by
    obtain ⟨c2, e1, e2, e3⟩ := hj
    rw [List.getElem?_set] at e1
    by_cases ej : i = j
    · subst ej
      simp at e1
    · simp [ej] at e1
      exact ej (rep.er.inj i j a oa ⟨c2, e1, e2, e3⟩)
  have rep2 := rep1.upd (o := o') h1 h2 h3 no1 nt
  refine ⟨?_, Mo.upd h2 nt⟩
  have q := rep2.setO (i := i) (c := c') ho' no1 h
  rw [List.set_set] at q
  have e : σ.set i (some (.ref a)) = σ := set_same_at ha
  rw [e] at q
  exact q
/-- the list at slot i -/
theorem Rep.slotL (rep : Rep K g H L ρ σ δ S) {i : Nat} {ds : List Val} (hc : δ[i]? = some (some (.l ds))) : ∃ a vs, σ[i]? = some (some (.ref a)) ∧ g.H a = none ∧ ¬ L a ∧ a ∉ ρ ∧ H a = some (.lst vs) ∧ VRs K H L ρ vs ds := by
  obtain ⟨a, vs, e, q⟩ := rep.er.cell i _ hc
  refine ⟨a, vs, ?_, q⟩
  cases e2 : σ[i]? with
  | none => rw [e2] at e; cases e
  | some o => rw [e2] at e; rw [show o = some (V.ref a) from e]
theorem Rep.chgL (rep : Rep K g H L ρ σ δ S) {i : Nat} {a : Addr} {ds ds' : List Val} {vs' : List V} (hc : δ[i]? = some (some (.l ds))) (ha : σ[i]? = some (some (.ref a))) (r : VRs K H L ρ vs' ds') :
    Rep K g (L2.upd H a (.lst vs')) L ρ σ (δ.set i (some (.l ds'))) S ∧ Mo K H L ρ (L2.upd H a (.lst vs')) L ρ := by
  obtain ⟨b, vs, hb, h1, h2, h3, h4, h5⟩ := rep.slotL hc
  rw [ha] at hb
  cases hb
  have nt : (∀ xs, H a ≠ some (.tup xs)) ∧ ∀ ob u, H a ≠ some (.frz ob u) := ⟨fun xs z => (by rw [h4] at z; cases z), fun ob u z => (by rw [h4] at z; cases z)⟩
  exact rep.chg hc rfl ha rfl ⟨a, vs', rfl, h1, h2, h3, upd_same, r.mo (Mo.upd h2 nt)⟩
def wsAppend (m : Bool) (i : Nat) (w : Wp) : WpS := fun Dd δ S X => ∃ ds, δ[i]? = some (some (.l ds)) ∧ ds.length < sizeLine ∧ wEv m w δ S (fun c S1 => Dd.nx (δ.set i (some (.l (ds ++ [fz c])))) S1) X
def wsExtend (m : Bool) (i : Nat) (w : Wp) : WpS := fun Dd δ S X => ∃ ds, δ[i]? = some (some (.l ds)) ∧ wEv m w δ S (fun c S1 => ∃ es, fz c = .lst es ∧ ds.length + es.length ≤ sizeLine ∧ Dd.nx (δ.set i (some (.l (ds ++ es)))) S1) X
theorem sndS_append {te : TE} {w : Wp} {m : Bool} {i : Nat} (h : Snd K mg W te w) : SndS K mg W (tDrop (tBM K "list" rAppend (tVar i) (tCons te tNil))) (wsAppend m i w) := by
  intro g H L ρ σ δ S rep Dd Xq hw hx D k
  obtain ⟨ds, hd, hz, hw⟩ := hw
  obtain ⟨a, vs, ha, h1, h2, h3, h4, h5⟩ := rep.slotL hd
  refine ⟨.ref a, ha, .inl ⟨rfl, _, SqL.of h4⟩, ?_⟩
  refine h.evV (k := fun d S1 => Dd.nx (δ.set i (some (.l (ds ++ [d])))) S1) rep hw hx fun d S1 hq v H1 L1 ρ1 st rep1 vr => ?_
  have h41 := st.keep a _ h4 h3
  refine ⟨a, vs, v, rfl, rfl, h41, by rw [h5.length]; exact hz, ?_⟩
  obtain ⟨r2, m2⟩ := rep1.chgL hd ha ((h5.mo st.mo).snoc vr)
  exact k.nx _ S1 hq _ _ L1 ρ1 r2 (st.mo.trans m2)
theorem sndS_extend {te : TE} {w : Wp} {m : Bool} {i : Nat} (h : Snd K mg W te w) : SndS K mg W (tDrop (tBM K "list" rExtend (tVar i) (tCons te tNil))) (wsExtend m i w) := by
  intro g H L ρ σ δ S rep Dd Xq hw hx D k
  obtain ⟨ds, hd, hw⟩ := hw
  obtain ⟨a, vs, ha, h1, h2, h3, h4, h5⟩ := rep.slotL hd
  refine ⟨.ref a, ha, .inl ⟨rfl, _, SqL.of h4⟩, ?_⟩
  refine h.evV (k := fun d S1 => ∃ es, d = .lst es ∧ ds.length + es.length ≤ sizeLine ∧ Dd.nx (δ.set i (some (.l (ds ++ es)))) S1) rep hw hx fun d S1 hq v H1 L1 ρ1 st rep1 vr => ?_
  obtain ⟨es, rfl, hz, hq⟩ := hq
  have h41 := st.keep a _ h4 h3
  cases vr with
  | @lst b ws _ hl hb rb =>
    refine ⟨a, b, vs, ws, rfl, rfl, h41, hb, by rw [h5.length, rb.length]; exact hz, ?_⟩
    obtain ⟨r2, m2⟩ := rep1.chgL hd ha ((h5.mo st.mo).append rb)
    exact k.nx _ S1 hq _ _ L1 ρ1 r2 (st.mo.trans m2)
theorem VRs.last {vs : List V} {ds : List Val} {d : Val} (r : VRs K H L ρ vs (ds ++ [d])) : ∃ v, vs[vs.length - 1]? = some v ∧ VR K H L ρ v d ∧ VRs K H L ρ vs.dropLast ds := by
  have hl := r.length
  rw [List.length_append, List.length_singleton] at hl
  obtain ⟨v, h1, h2⟩ := r.getD (i := ds.length) (d := d) (by simp)
  refine ⟨v, by rw [hl]; exact h1, h2, ?_⟩
  have q := r.take ds.length
  rw [List.take_left] at q
  rw [List.dropLast_eq_take, hl]
  exact q
/-- slot j := x.pop(), x at slot i -/
def wsPop (i j : Nat) : WpS := fun Dd δ S _ => ∃ ds d, δ[i]? = some (some (.l (ds ++ [d]))) ∧ Dd.nx ((δ.set i (some (.l ds))).set j (some (.v d))) S
theorem sndS_pop {i j : Nat} : SndS K mg W (tAsg (tBM0 K "list" rPop (tVar i)) (gName j)) (wsPop i j) := by
  intro g H L ρ σ δ S rep Dd Xq hw hx D k
  obtain ⟨ds, d, hd, hq⟩ := hw
  obtain ⟨a, vs, ha, h1, h2, h3, h4, h5⟩ := rep.slotL hd
  obtain ⟨v, hv, rv, rr⟩ := h5.last
  refine ⟨.ref a, ha, .inl ⟨rfl, _, SqL.of h4⟩, a, vs, v, rfl, rfl, h4, hv, ?_⟩
  obtain ⟨r2, m2⟩ := rep.chgL hd ha rr
  exact k.nx _ S hq _ _ L ρ (r2.setV (rv.mo m2)) m2
end
end DL
/-! DL12: lists of the store; statement rules. -/
namespace DL
open PySem PySem.Spec PyProof.Rows L2 RZ
section
variable {K : PySem.W.Frag} {mg : Str → Option Value} {W : WX} {H H' H0 H1 H2 H3 : Hp} {L L' L0 L1 LL : LP} {ρ ρ' ρ0 ρ1 ρ2 : List Addr} {σ σ' : Sg} {δ δ' : DEnv} {S S' : Store} {O : LP} {g : Gh} {D : Addr} {o : HO}
/-! ### a new list joins the store -/
def wShare (w : Wp) : Wp := fun δ S Q X => w δ S (fun c S1 => ∃ ds, c = .l ds ∧ noLs ds = true ∧ Q (.v (.ref S1.length)) (S1 ++ [.lst ds])) X
theorem snd_share {t : TE} {w : Wp} (h : Snd K mg W t w) : Snd K mg W t (wShare w) := by
  intro g H L ρ σ δ S rep Q Xq hw hx P hP
  refine h g H L ρ σ δ S rep _ Xq hw hx P fun c S1 hq v H1 L1 ρ1 st sr cr => ?_
  obtain ⟨ds, rfl, hn, hq⟩ := hq
  obtain ⟨a, vs, rfl, h1, h2, h3, h4, h5⟩ := cr
  have hlen := sr.len
  have up : Mo K H1 NO ρ1 H1 NO (ρ1 ++ [a]) := ⟨fun _ _ e => e, fun _ _ _ e => e, fun _ z => z.elim, fun n p e => by
    rw [List.getElem?_append_left (List.getElem?_eq_some_iff.mp e).1]; exact e⟩
  refine hP _ _ hq _ H1 L1 (ρ1 ++ [a]) ⟨st.keep, st.sub, st.new, ?_, st.tup, st.frz, st.fro, st.thr⟩ ⟨?_, ?_, ?_, ?_, sr.lthr⟩ (.ref ?_)
  · obtain ⟨r, e, n⟩ := st.pre
    refine ⟨r ++ [a], by rw [e, List.append_assoc], fun b hb => ?_⟩
    rcases List.mem_append.mp hb with hb | hb
    · exact n b hb
    · rw [List.mem_singleton.mp hb]; exact h1
  · rw [List.length_append, List.length_append, hlen]; rfl
  · refine List.nodup_append.mpr ⟨sr.nd, by simp, fun x hx y hy e => ?_⟩
    rw [List.mem_singleton.mp hy] at e
    subst e
    exact h3 hx
  · intro b hb
    rcases List.mem_append.mp hb with hb | hb
    · exact sr.apart b hb
    · rw [List.mem_singleton.mp hb]; exact h2
  · intro n b o e1 e2
    by_cases hn2 : n < ρ1.length
    · rw [List.getElem?_append_left hn2] at e1
      rw [List.getElem?_append_left (by rw [← hlen]; exact hn2)] at e2
      have q := sr.obj n b o e1 e2
      cases o with
      | lst es =>
        obtain ⟨ws, q1, q2⟩ := q
        exact ⟨ws, q1, q2.mo up⟩
    · have hn3 : n = ρ1.length := by
        have := (List.getElem?_eq_some_iff.mp e1).1
        rw [List.length_append, List.length_singleton] at this
        omega
      subst hn3
      rw [List.getElem?_concat_length] at e1
      rw [hlen, List.getElem?_concat_length] at e2
      cases e1; cases e2
      exact ⟨vs, h4, (h5.noL hn).mo up⟩
  · rw [← hlen, List.getElem?_concat_length]
/-! ### a list of the store is written -/
theorem Stp.mo0 (s : Stp K H L ρ H1 L1 ρ1) : Mo K H NO ρ H1 NO ρ1 := ⟨s.mo.tup, s.mo.frz, fun _ z => z.elim, s.mo.ref⟩
theorem SR.look (sr : SR K H L ρ S) {n : Nat} {ds : List Val} (hS : S[n]? = some (.lst ds)) : ∃ a vs, ρ[n]? = some a ∧ H a = some (.lst vs) ∧ VRs K H NO ρ vs ds := by
  have hn : n < ρ.length := by rw [sr.len]; exact (List.getElem?_eq_some_iff.mp hS).1
  have e := List.getElem?_eq_getElem hn
  obtain ⟨vs, e1, r⟩ := sr.obj n _ _ e hS
  exact ⟨_, vs, e, e1, r⟩
theorem Stp.stW {a : Addr} {vs vs' : List V} (sr : SR K H L ρ S) (ha : a ∈ ρ) (e : H a = some (.lst vs)) : Stp K H L ρ (L2.upd H a (.lst vs')) L ρ := by
  have ne : ∀ b u, H b = some u → u ≠ .lst vs → b ≠ a := fun b u h1 h2 z => by rw [z, e] at h1; exact h2 (Option.some.inj h1).symm
  refine ⟨fun b u hb hn => upk hb fun z => by rw [z] at hn; exact hn ha, fun _ z => z, fun _ z => .inl z, ⟨[], by simp, by simp⟩, fun b xs hb => upk hb (ne b _ hb (by simp)), fun b u w hb => upk hb (ne b _ hb (by simp)),
    fun b u hl hb => upk hb fun z => by rw [z] at hl; exact sr.apart a ha hl, fun b u hb => ?_⟩
  by_cases z : b = a
  · subst z; exact ⟨_, upd_same⟩
  · exact ⟨u, upk hb z⟩
theorem SR.stW {n : Nat} {a : Addr} {vs vs' : List V} {ds' : List Val} (sr : SR K H L ρ S) (hρ : ρ[n]? = some a) (e : H a = some (.lst vs)) (r : VRs K H NO ρ vs' ds') : SR K (L2.upd H a (.lst vs')) L ρ (S.set n (.lst ds')) := by
  have ha : a ∈ ρ := List.mem_of_getElem? hρ
  have nt : (∀ xs, H a ≠ some (.tup xs)) ∧ ∀ ob u, H a ≠ some (.frz ob u) := ⟨fun xs z => (by rw [e] at z; cases z), fun ob u z => (by rw [e] at z; cases z)⟩
  have m0 : Mo K H NO ρ (L2.upd H a (.lst vs')) NO ρ := Mo.upd (fun z => z) nt
  refine ⟨by rw [List.length_set]; exact sr.len, sr.nd, sr.apart, fun k b o h1 h2 => ?_, fun b hb => ?_⟩
  · by_cases hk : k = n
    · subst hk
      rw [hρ] at h1
      cases h1
      rw [List.getElem?_set] at h2
      simp at h2
      obtain ⟨_, rfl⟩ := h2
      exact ⟨vs', upd_same, r.mo m0⟩
    · rw [List.getElem?_set_ne (Ne.symm hk)] at h2
      have q := sr.obj k b o h1 h2
      have hb : b ≠ a := fun z => by
        subst z
        obtain ⟨k1, e1⟩ := List.getElem?_eq_some_iff.mp h1
        obtain ⟨n1, e2⟩ := List.getElem?_eq_some_iff.mp hρ
        exact hk ((List.getElem_inj sr.nd).mp (e1.trans e2.symm))
      cases o with
      | lst es =>
        obtain ⟨ws, q1, q2⟩ := q
        exact ⟨ws, upk q1 hb, q2.mo m0⟩
  · obtain ⟨u, hu⟩ := sr.lthr b hb
    exact ⟨u, upk hu fun z => by rw [z] at hb; exact sr.apart a ha hb⟩
/-- o[i] = e, o a list of the store -/
def wsStSet (wo wi we : Wp) : WpS := fun Dd δ S X => wV we δ S (fun d S1 => wV wo δ S1 (fun x S2 => wV wi δ S2 (fun y S3 => ∃ n ds k j, x = .ref n ∧ y = .int k ∧ S3[n]? = some (.lst ds) ∧ ixN ds.length k = some j ∧ noL d = true ∧ Dd.nx δ (S3.set n (.lst (ds.set j d)))) X) X) X
theorem sndS_stSet {to ti te : TE} {wo wi we : Wp} (ho : Snd K mg W to wo) (hi : Snd K mg W ti wi) (he : Snd K mg W te we) : SndS K mg W (tAsg te (L2.gSub to ti rSetL)) (wsStSet wo wi we) := by
  intro g H L ρ σ δ S rep Dd Xq hw hx D k
  refine he.seq rep hw hx fun d S1 hq v H1 L1 ρ1 st1 rep1 rv => ?_
  refine ho.seq rep1 hq hx fun x S2 hq u H2 L2 ρ2 st2 rep2 ru => ?_
  refine hi.seq rep2 hq hx fun y S3 hq z H3 L3 ρ3 st3 rep3 rz => ?_
  obtain ⟨n, ds, kk, j, rfl, rfl, hS, hj, hn, hq⟩ := hq
  obtain ⟨a, vs, hρ, e, r⟩ := rep3.sr.look hS
  have ru3 := ru.later rep2 st3
  have rv3 := (rv.later rep1 st2).later rep2 st3
  cases ru3 with
  | ref hρ2 =>
    rw [hρ] at hρ2
    cases hρ2
    rw [rz.int_inv]
    refine ⟨a, vs, kk, j, rfl, rfl, e, by rw [r.length]; exact hj, ?_⟩
    have st4 : Stp K H3 L3 ρ3 (_root_.L2.upd H3 a (.lst (vs.set j v))) L3 ρ3 := Stp.stW rep3.sr (List.mem_of_getElem? hρ) e
    exact k.nx _ _ hq σ _ L3 ρ3 (rep3.step st4 (rep3.sr.stW hρ e (VRs.set (rv3.noL hn) j r))) (((st1.trans st2).trans st3).trans st4).mo
/-- o.append(e), o a list of the store -/
def wsStApp (wo we : Wp) : WpS := fun Dd δ S X => wV wo δ S (fun x S1 => ∃ n ds0, x = .ref n ∧ S1[n]? = some (.lst ds0) ∧ wV we δ S1 (fun d S2 => ∃ ds, S2[n]? = some (.lst ds) ∧ ds.length < sizeLine ∧ noL d = true ∧ Dd.nx δ (S2.set n (.lst (ds ++ [d])))) X) X
theorem VR.refH (sr : SR K H L ρ S) {u : V} {n : Nat} {ds : List Val} (ru : VR K H O ρ u (.ref n)) (hS : S[n]? = some (.lst ds)) : ∃ a vs, u = .ref a ∧ ρ[n]? = some a ∧ H a = some (.lst vs) ∧ VRs K H NO ρ vs ds := by
  obtain ⟨a, vs, hρ, e, r⟩ := sr.look hS
  cases ru with
  | ref h =>
    rw [hρ] at h
    cases h
    exact ⟨a, vs, rfl, hρ, e, r⟩
/-- o.pop(i) as a value, o a list of the store -/
def wPopAt (wo wi : Wp) : Wp := fun δ S Q X => wV wo δ S (fun x S1 => ∃ n ds0, x = .ref n ∧ S1[n]? = some (.lst ds0) ∧ wV wi δ S1 (fun y S2 => ∃ ds i k d, y = .int i ∧ S2[n]? = some (.lst ds) ∧ -(2 ^ 63) ≤ i ∧ i < 2 ^ 63 ∧ seqIndex? i ds.length = some k ∧ ds[k]? = some d ∧ Q (.v d) (S2.set n (.lst (ds.eraseIdx k)))) X) X
theorem snd_popAt {to ti : TE} {wo wi : Wp} (ho : Snd K mg W to wo) (hi : Snd K mg W ti wi) : Snd K mg W (tBM K "list" rPopAt to (tCons ti tNil)) (wPopAt wo wi) := by
  intro g H L ρ σ δ S rep Q Xq hw hx P hP
  refine ho.seq rep hw hx fun x S1 hq u H1 L1 ρ1 st1 rep1 ru => ?_
  obtain ⟨n, ds0, rfl, hS0, hq⟩ := hq
  obtain ⟨a0, vs0, rfl, hρ0, e0, _⟩ := ru.refH rep1.sr hS0
  refine ⟨.inl ⟨rfl, _, SqL.of e0⟩, ?_⟩
  refine hi.seq rep1 hq hx fun y S2 hq v H2 L2 ρ2 st2 rep2 rv => ?_
  obtain ⟨ds, i, kk, d, rfl, hS, hi1, hi2, hk, hd, hq⟩ := hq
  obtain ⟨a, vs, ea, hρ, e, r⟩ := (ru.later rep1 st2).refH rep2.sr hS
  cases ea
  rw [rv.int_inv]
  obtain ⟨w, hw1, rw1⟩ := r.getD hd
  refine ⟨a0, vs, i, kk, w, rfl, rfl, e, hi1, hi2, by rw [r.length]; exact hk, hw1, ?_⟩
  have st4 : Stp K H2 L2 ρ2 (_root_.L2.upd H2 a0 (.lst (vs.eraseIdx kk))) L2 ρ2 := Stp.stW rep2.sr (List.mem_of_getElem? hρ) e
  refine hP _ _ hq _ _ L2 ρ2 ((st1.trans st2).trans st4) (rep2.sr.stW hρ e (r.eraseIdx kk)) ?_
  exact (rw1.mo st4.mo0).mo (.sub fun _ z => z.elim)
end
end DL
/-! DL13: the rules in short, for printed texts. -/
namespace DL
open PySem PySem.Spec PyProof.Rows L2 RZ
/-- what a def's body leans on -/
structure Bd (X : Cx) (W : WX) (k : Nat) : Prop where
  nd : X.N.Nodup
  calm : X.calm = true
  tk : Takes X W
  room : Room k X.A
  g : X.A.guards = some []
theorem Bd.un {X : Cx} {W : WX} {k : Nat} (b : Bd X W k) : X.A.units + 66 < cLine := by have := b.room.un; omega
theorem takes_F {X : Cx} : Takes X WF := fun u s' ⟨a, B, sI, pins, σ, H, cls, d, e, I, nb, up, sky, na, os, ag, h⟩ => h.elim
theorem Bd.blk {X : Cx} {W : WX} {k : Nat} (b : Bd X W k) {s : Shared} {H : Hp} {scope : Scope} {env : Env} {fp : List Addr} : Bd (X.blk s H scope env fp) WF k := ⟨b.nd, b.calm, takes_F, b.room, b.g⟩
def blkB (N : List Str) (sc scope : Scope) (own : List (Str × Nat)) : Bool :=
  decide (scope.kind = .function) && scope.names.all (fun y => decide (scope.names.lookup y.1 = some y.2)) && own.all (fun p => decide (N[p.2]? = some p.1)) &&
  scope.names.all (fun y => !decide (y.2 = .free) || (decide (sc.names.lookup y.1 = some .cell) || decide (sc.names.lookup y.1 = some .free))) &&
  scope.names.all (fun y => !(decide (y.2 = .local) || decide (y.2 = .cell)) || (decide (y.1 ∈ own.map (·.1)) || !decide (y.1 ∈ N)))
theorem blk_of {N : List Str} {sc scope : Scope} {own : List (Str × Nat)} (h : blkB N sc scope own = true) : BlkOk N sc scope own := by
  simp only [blkB, Bool.and_eq_true, Bool.or_eq_true, Bool.not_eq_true', List.all_eq_true, decide_eq_true_eq, decide_eq_false_iff_not, Bool.or_eq_false_iff] at h
  obtain ⟨⟨⟨⟨h1, h2⟩, h3⟩, h4⟩, h5⟩ := h
  refine ⟨h1, h2, h3, fun y hy e => (h4 y hy).resolve_left fun q => q e, fun y hy e => ?_⟩
  rcases h5 y hy with q | q
  · exact absurd e fun z => z.elim q.1 q.2
  · exact q
/-- a def that may be called by its name -/
structure Cal (P : Program) (w : World) (K : PySem.W.Frag) (mg : Str → Option Value) (base : Heap) (k : Nat) (x : Str) (ps : List Str) (F : FSpec) : Prop where
  ex : ∃ f fd, mg x = some (.ref f) ∧ FnG P w K mg base k f fd ps (spD K mg ps.length F) ∧ PySem.W.keepIn K (.ref f) = true ∧ Binds K fd ps []
theorem Cal.mono {P : Program} {w : World} {K : PySem.W.Frag} {mg : Str → Option Value} {base : Heap} {j k : Nat} {x : Str} {ps : List Str} {F : FSpec} (c : Cal P w K mg base j x ps F) (h : j ≤ k) : Cal P w K mg base k x ps F :=
  let ⟨f, fd, h1, h2, h3, h4⟩ := c.ex; ⟨f, fd, h1, h2.mono h, h3, h4⟩
section
variable {X : Cx} {W : WX} {k j : Nat} {a b c e e2 iter tgE : Expr} {es : List Expr} {pos p py : Pos} {wa wb wc w : Wp} {wr : WpA} {wt wt2 : WpT} {x : Str}
/-! ### expressions -/
theorem e_var (i : Nat) (hN : X.N[i]? = some x := by rfl) (hv : Vis X.env.scope x := by first | exact Or.inl rfl | exact Or.inr (Or.inl rfl) | exact Or.inr (Or.inr rfl)) (hd : (x == ("__debug__" : Str)) = false := by decide)
    (hcd : (x == ("__classdict__" : Str)) = false := by decide) : PED X W (.Name x pos) (wVar i) := d_var hN hv hd hcd
theorem e_add (ha : PED X W a wa) (hb : PED X W b wb) : PED X W (.BinOp a .Add b pos) (w2 (by2 gAdd) wa wb) := d_bin or_add ha hb
theorem e_sub (ha : PED X W a wa) (hb : PED X W b wb) : PED X W (.BinOp a .Sub b pos) (w2 (by2 gSub) wa wb) := d_bin or_sub ha hb
theorem e_mod (ha : PED X W a wa) (hb : PED X W b wb) : PED X W (.BinOp a .Mod b pos) (w2 (by2 gMod) wa wb) := d_bin or_mod ha hb
theorem e_fdv (ha : PED X W a wa) (hb : PED X W b wb) : PED X W (.BinOp a .FloorDiv b pos) (w2 (by2 gFdv) wa wb) := d_bin or_fdv ha hb
theorem e_pow (ha : PED X W a wa) (hb : PED X W b wb) : PED X W (.BinOp a .Pow b pos) (w2 (by2 gPow) wa wb) := d_bin or_pow ha hb
theorem e_mul (ha : PED X W a wa) (hb : PED X W b wb) : PED X W (.BinOp a .Mult b pos) (w2 (by2 gMul) wa wb) := d_bin or_mul ha hb
theorem e_is (ha : PED X W a wa) (hb : PED X W b wb) : PED X W (.Compare a [.Is] [b] pos) (w2 (by2 (gIs false)) wa wb) := d_cmp or_is ha hb (nomark _)
theorem e_ix (ha : PED X W a wa) (hb : PED X W b wb) (hs : PlainIx b := by intro _ _; rfl) : PED X W (.Subscript a b pos) (w2 (by2 gIx) wa wb) := d_ix ha hb hs
theorem e_cons (ha : PED X W e wa) (hr : PAD X W es wr) (hs : starEach (e :: es) X.env = (false, eval e X.env) :: starEach es X.env := by rfl) : PAD X W (e :: es) (wCons wa wr) := da_cons ha hr hs
/-! a builtin's call -/
theorem e_blt {id : String} {f : FN} (hc : CallR X (.builtin id) (rDN X.K f)) (hm : X.mg x = none) (hv : bootBuiltins x = some (.builtin id)) (ha : PAD X W (e :: es) wr) (hg : Gl X x := by rfl) (hn : x ≠ "__name__" := by decide) (hdb : (x == ("__debug__" : Str)) = false := by decide)
    (he : starEach (e :: es) X.env = (false, eval e X.env) :: starEach es X.env := by rfl) (hpl : (backTo pos (starEach es X.env)).any (·.1) = false := by rfl) : PED X W (.Call (.Name x p) (e :: es) [] pos) (wN f wr) := d_callB hc hg hm hv ha hn hdb he hpl
theorem e_tyc {T : String} {f : FN} (hc : CallR X (.type T) (rDN X.K f)) (hm : X.mg x = none) (hv : bootBuiltins x = some (.type T)) (ha : PAD X W (e :: es) wr) (hg : Gl X x := by rfl) (hn : x ≠ "__name__" := by decide) (hdb : (x == ("__debug__" : Str)) = false := by decide)
    (he : starEach (e :: es) X.env = (false, eval e X.env) :: starEach es X.env := by rfl) (hpl : (backTo pos (starEach es X.env)).any (·.1) = false := by rfl) : PED X W (.Call (.Name x p) (e :: es) [] pos) (wN f wr) := d_callT hc hg hm hv ha hn hdb he hpl
theorem e_tyn {n : String} (hm : X.mg x = none) (hv : bootBuiltins x = some (.type n)) (hg : Gl X x := by rfl) (hn : x ≠ "__name__" := by decide) (hd : (x == ("__debug__" : Str)) = false := by decide) : PED X W (.Name x pos) (wC (.opq (.ty n))) := d_ty hg hm hv hn hd
theorem e_call {ps : List Str} {F : FSpec} (bd : Bd X W k) (c : Cal X.prog X.w X.K X.mg X.base j x ps F) (hj : j ≤ k) (ha : PAD X W (e :: es) wr) (hg : Gl X x := by rfl) (hdb : (x == ("__debug__" : Str)) = false := by decide)
    (he : starEach (e :: es) X.env = (false, eval e X.env) :: starEach es X.env := by rfl) (hpl : (backTo pos (starEach es X.env)).any (·.1) = false := by rfl) : PED X W (.Call (.Name x p) (e :: es) [] pos) (wCall (fun ds S Q Xq => ds.length = ps.length ∧ F ds S Q Xq) wr) := by
  obtain ⟨f, fd, h1, h2, h3, h4⟩ := c.ex
  have FG : FnG X.prog X.w X.K X.mg X.base k f fd ps (spD X.K X.mg ps.length (fun ds S Q Xq => ds.length = ps.length ∧ F ds S Q Xq)) := by
    refine ⟨fun vs H Q E h => h2.len vs H Q E ?_, fun A o s H a us vs Q E hr hG he hb hv h => h2.run A o s H a us vs Q E (hr.mono hj) hG he hb hv ?_⟩
    all_goals
      obtain ⟨L, ρ, ds, S, Qd, Xd, q1, q2, q3, q4, q5⟩ := h
      exact ⟨L, ρ, ds, S, Qd, Xd, q1, q2, q3, q4.2, q5⟩
  exact d_call FG (fun ds S Q X h => h.1) bd.tk bd.room bd.g hg h1 h3 h4 ha hdb he hpl
/-! comprehensions -/
theorem e_lc {elt : Expr} {ifs : List Expr} {scope : Scope} {wi : WpI} {tg : Tg} {we : Wp} (own : List (Str × Nat)) (bd : Bd X W k) (hi : PID X W tgE iter wi)
    (hg : ∀ (s : Shared) (H : Hp) (C : Addr) (cl : List (Str × Addr)) (fp : List Addr), PG (X.blk s H scope (compEnvC scope cl C X.env) fp) tgE (tgOf X.K tg))
    (ht : ∀ (s : Shared) (H : Hp) (C : Addr) (cl : List (Str × Addr)) (fp : List Addr), PTs (X.blk s H scope (compEnvC scope cl C X.env) fp) ifs (tDT X.K X.mg WF wt))
    (he : ∀ (s : Shared) (H : Hp) (C : Addr) (cl : List (Str × Addr)) (fp : List Addr), PED (X.blk s H scope (compEnvC scope cl C X.env) fp) WF elt we)
    (ok : blkB X.N X.env.scope scope own = true := by kernel_rfl)
    (hs : ∀ x, foldedSetIterable iter X.env x = pure x := by intro _; rfl) (hv : ∀ i ∈ tgSlots tg, i ∈ own.map (·.2) := by decide +kernel) :
    PED X W (.ListComp elt [⟨tgE, iter, ifs, 0⟩] scope pos) (wLc wi tg wt we (own.map (·.2))) := d_lc bd.calm bd.nd hi (blk_of ok) hg ht he hs hv
/-! targets -/
theorem g_nm (bd : Bd X W k) (i : Nat) (hi : X.N[i]? = some x := by rfl) (hx : Loc X.env.scope x := by first | exact Or.inl rfl | exact Or.inr rfl) (hf : X.fn x = true ∨ X.env.scope.names.lookup x = some .local := by first | exact .inl rfl | exact .inr rfl) : PG X (.Name x pos) (tgOf X.K (.nm i)) := pg_name bd.nd hi hx hf
theorem g_nil : PGs X [] (tgsOf X.K .nil) := pgs_nil
theorem g_cons {t : Tg} {ts : Tgs} (h1 : PG X e (tgOf X.K t)) (h2 : PGs X es (tgsOf X.K ts)) (hs : (assignEach (e :: es) X.env).map (·.2) = assign e X.env :: (assignEach es X.env).map (·.2) := by rfl) : PGs X (e :: es) (tgsOf X.K (.cons t ts)) := pgs_cons h1 h2 hs
theorem g_tup {ts : Tgs} {n : Nat} (bd : Bd X W k) (h : PGs X es (tgsOf X.K ts)) (hn : (assignEach es X.env).length = ts.len := by rfl) (hst : (assignEach es X.env).findIdx? (·.1) = none := by rfl) : PG X (.Tuple es n pos) (tgOf X.K (.tp ts)) := pg_sq bd.calm h hn hst
/-! iterables -/
theorem i_rng1 (hm : X.mg "range" = none) (ha : PAD X W [e] wr) (hg : Gl X "range" := by rfl) (hs : starEach [e] X.env = [(false, eval e X.env)] := by rfl) : PID X W tgE (.Call (.Name "range" p) [e] [] pos) (wRng1 wr) := di_rng1 hg hm ha hs
theorem i_rng2 (hm : X.mg "range" = none) (ha : PAD X W [e, e2] wr) (hg : Gl X "range" := by rfl) (hs : starEach [e, e2] X.env = [(false, eval e X.env), (false, eval e2 X.env)] := by rfl) (hs2 : starEach [e2] X.env = [(false, eval e2 X.env)] := by rfl) : PID X W tgE (.Call (.Name "range" p) [e, e2] [] pos) (wRng2 wr) := di_rng2 hg hm ha hs hs2
theorem i_zip {elts : List Expr} {kk : Nat} {tpos : Pos} (hm : X.mg "zip" = none) (ha : PAD X W [e, e2] wr) (hg : Gl X "zip" := by rfl)
    (hs : starEach [e, e2] X.env = (false, eval e X.env) :: starEach [e2] X.env := by rfl) (hpl : (backTo pos (starEach [e2] X.env)).any (·.1) = false := by rfl) : PID X W (.Tuple elts kk tpos) (.Call (.Name "zip" p) [e, e2] [] pos) (wZip wr) := di_zip hg hm ha hs hpl
/-! tests -/
theorem t_lt (ha : PED X W a wa) (hb : PED X W b wb) : PTD X W (.Compare a [.Lt] [b] pos) (wTst (w2 (by2 gLt) wa wb)) := dt_cmp or_lt ha hb (nomark _)
theorem t_gt (ha : PED X W a wa) (hb : PED X W b wb) : PTD X W (.Compare a [.Gt] [b] pos) (wTst (w2 (by2 gGt) wa wb)) := dt_cmp or_gt ha hb (nomark _)
theorem t_ge (ha : PED X W a wa) (hb : PED X W b wb) : PTD X W (.Compare a [.GtE] [b] pos) (wTst (w2 (by2 gGe) wa wb)) := dt_cmp or_ge ha hb (nomark _)
theorem t_eq (bd : Bd X W k) (ha : PED X W a wa) (hb : PED X W b wb) : PTD X W (.Compare a [.Eq] [b] pos) (wTst (w2 (by2 gEq) wa wb)) := dt_cmp (or_eq (by have := bd.un; omega)) ha hb (nomark _)
theorem t_ne (bd : Bd X W k) (ha : PED X W a wa) (hb : PED X W b wb) : PTD X W (.Compare a [.NotEq] [b] pos) (wTst (w2 (by2 gNe) wa wb)) := dt_cmp (or_ne (by have := bd.un; omega)) ha hb (nomark _)
theorem t_isNot (ha : PED X W a wa) (hb : PED X W b wb) : PTD X W (.Compare a [.IsNot] [b] pos) (wTst (w2 (by2 (gIs true)) wa wb)) := dt_cmp or_isNot ha hb (nomark _)
theorem t_in (bd : Bd X W k) (ha : PED X W a wa) (hb : PED X W b wb) (hm : behindInMarks .In b = false := by with_unfolding_all rfl) : PTD X W (.Compare a [.In] [b] pos) (wTst (w2 (by2 (gIn false)) wa wb)) := dt_cmp (or_in (by have := bd.un; omega)) ha hb hm
theorem t_notIn (bd : Bd X W k) (ha : PED X W a wa) (hb : PED X W b wb) (hm : behindInMarks .NotIn b = false := by with_unfolding_all rfl) : PTD X W (.Compare a [.NotIn] [b] pos) (wTst (w2 (by2 (gIn true)) wa wb)) := dt_cmp (or_notIn (by have := bd.un; omega)) ha hb hm
theorem t_tru (ha : PED X W a wa) (he : ∀ whole, isTrue a X.env whole = (do let v ← whole; standAt a.pos; holding [v] (truthy v)) := by intro _; rfl) : PTD X W a (wTru (byT truV) wa) := dt_tru ha he
theorem t_w (h : PWD X W e wt) : PTD X W e wt := h.pt
/-! ### statements -/
variable {st : Stmt} {ss rest : List Stmt} {s1 s2 : WpS} {m : Bool}
theorem dss_nil : PSsD X W [] wsNext := PSs.toD pss_nil sndS_next
theorem dss_cons (h1 : PSD X W st s1) (h2 : PSsD X W rest s2) : PSsD X W (st :: rest) (wsSeq s1 s2) := PSs.toD (pss_cons h1 h2) (sndS_seq snd_tDS snd_tDS)
theorem dss_one (h : PSD X W st s1) : PSsD X W [st] s1 := pss_one h
theorem ds_expr (m : Bool) (he : PED X W e w) (hs : swapsWith e none pos.line X.env = pure false := by rfl) : PSD X W (.Expr e pos) (wsDrop m w) := PS.toD (ps_expr he hs) (sndS_drop snd_tD)
theorem ds_ret (he : PED X W e w) : PSD X W (.Return (some e) pos) (wsRet w) := PS.toD (ps_ret he) (sndS_ret snd_tD)
theorem ds_retO (i : Nat) (hN : X.N[i]? = some x := by rfl) (hv : Vis X.env.scope x := by first | exact Or.inl rfl | exact Or.inr (Or.inl rfl) | exact Or.inr (Or.inr rfl)) (hd : (x == ("__debug__" : Str)) = false := by decide)
    (hcd : (x == ("__classdict__" : Str)) = false := by decide) : PSD X W (.Return (some (.Name x py)) pos) (wsRetO i) := PS.toD (ps_ret (pe_var hN hv hd hcd)) sndS_retO
theorem ds_if (hc : PTD X W c wt) (ha : PSsD X W ss s1) (hb : PSsD X W rest s2) : PSD X W (.If c ss rest pos) (wsIf wt s1 s2) := PS.toD (ps_if hc ha hb) (sndS_if snd_tDT snd_tDS snd_tDS)
theorem ds_while (po : PassesOwn (model X.prog X.w) X.A X.env X.xe) (hc : PTD X W c wt) (hb : PSsD X W ss s1) : PSD X W (.While c ss [] pos) (wsWhile wt s1) := PS.toD (ps_while po hc hb) (sndS_while snd_tDT snd_tDS)
theorem ds_for {wi : WpI} {tg : Tg} (po : PassesOwn (model X.prog X.w) X.A X.env X.xe) (bd : Bd X W k) (hi : PID X W tgE iter wi) (hg : PG X tgE (tgOf X.K tg)) (hb : PSsD X W ss s1) (hs : ∀ x, foldedSetIterable iter X.env x = pure x := by intro _; rfl) :
    PSD X W (.For tgE iter ss [] pos) (wsFor wi tg s1) := PS.toD (ps_for po bd.calm hi hg hb hs) (sndS_for snd_tDS)
theorem ds_set (m : Bool) (i : Nat) (bd : Bd X W k) (he : PED X W e w) (hi : X.N[i]? = some x := by rfl) (hx : Loc X.env.scope x := by first | exact Or.inl rfl | exact Or.inr rfl) (hs : swapsWith e (some (.Name x py)) pos.line X.env = pure false := by rfl)
    (hf : X.fn x = true ∨ X.env.scope.names.lookup x = some .local := by first | exact .inl rfl | exact .inr rfl) : PSD X W (.Assign [.Name x py] e pos) (wsSet m i w) := PS.toD (ps_set bd.nd hi hx he hs hf) (sndS_set snd_tD)
theorem ds_setO (m : Bool) (i : Nat) (bd : Bd X W k) (he : PED X W e w) (hi : X.N[i]? = some x := by rfl) (hx : Loc X.env.scope x := by first | exact Or.inl rfl | exact Or.inr rfl) (hs : swapsWith e (some (.Name x py)) pos.line X.env = pure false := by rfl)
    (hf : X.fn x = true ∨ X.env.scope.names.lookup x = some .local := by first | exact .inl rfl | exact .inr rfl) : PSD X W (.Assign [.Name x py] e pos) (wsSetO m i w) := PS.toD (ps_set bd.nd hi hx he hs hf) (sndS_setO snd_tD)
/-- name = [..] on one line -/
theorem ds_setLc {elt : Expr} {ifs : List Expr} {scope : Scope} {wi : WpI} {tg : Tg} {we : Wp} {lp : Pos} (m : Bool) (i : Nat) (own : List (Str × Nat)) (bd : Bd X W k) (hi : PID X W tgE iter wi)
    (hg : ∀ (s : Shared) (H : Hp) (C : Addr) (cl : List (Str × Addr)) (fp : List Addr), PG (X.blk s H scope (compEnvC scope cl C X.env) fp) tgE (tgOf X.K tg))
    (ht : ∀ (s : Shared) (H : Hp) (C : Addr) (cl : List (Str × Addr)) (fp : List Addr), PTs (X.blk s H scope (compEnvC scope cl C X.env) fp) ifs (tDT X.K X.mg WF wt))
    (he : ∀ (s : Shared) (H : Hp) (C : Addr) (cl : List (Str × Addr)) (fp : List Addr), PED (X.blk s H scope (compEnvC scope cl C X.env) fp) WF elt we)
    (hy : X.N[i]? = some x := by rfl) (hyl : X.env.scope.names.lookup x = some .local := by rfl) (hsw : swapsWith (.ListComp elt [⟨tgE, iter, ifs, 0⟩] scope lp) (some (.Name x py)) pos.line X.env = pure true := by rfl)
    (ok : blkB X.N X.env.scope scope own = true := by kernel_rfl)
    (hs : ∀ x, foldedSetIterable iter X.env x = pure x := by intro _; rfl) (hv : ∀ i ∈ tgSlots tg, i ∈ own.map (·.2) := by decide +kernel) :
    PSD X W (.Assign [.Name x py] (.ListComp elt [⟨tgE, iter, ifs, 0⟩] scope lp) pos) (wsSet m i (wLc wi tg wt we (own.map (·.2)))) := by
  obtain ⟨te, s, h⟩ := ds_setLc_pe bd.calm bd.nd hy hyl hsw hi (blk_of ok) hg ht he hs hv
  exact PS.toD h (sndS_set s)
theorem ds_asg {tg : Tg} {elts : List Expr} {kk : Nat} (m : Bool) (he : PED X W e w) (hg : PG X (.Tuple elts kk py) (tgOf X.K tg)) (hs : swapsWithSole [.Tuple elts kk py] e pos.line X.env = pure false := by rfl) (hw : swappedStores [.Tuple elts kk py] e X.env = pure none := by rfl)
    (h1 : (assignEach [.Tuple elts kk py] X.env).map (·.2) = [assign (.Tuple elts kk py) X.env] := by rfl) : PSD X W (.Assign [.Tuple elts kk py] e pos) (wsAsg m tg w) := PS.toD (ps_asg he hg hs hw h1) (sndS_asg snd_tD)
/-! lists -/
theorem ds_append (m : Bool) (i : Nat) {ap : Pos} (he : PED X W e w) (hN : X.N[i]? = some x := by rfl) (hv : Vis X.env.scope x := by first | exact Or.inl rfl | exact Or.inr (Or.inl rfl) | exact Or.inr (Or.inr rfl)) (hd : (x == ("__debug__" : Str)) = false := by decide)
    (hcd : (x == ("__classdict__" : Str)) = false := by decide) (hse : starEach [e] X.env = [(false, eval e X.env)] := by rfl) (hbase : attributeBase (.Name x p) "append" X.env (eval (.Name x p) X.env) = eval (.Name x p) X.env := by rfl)
    (hfew : ((backTo pos (starEach [e] X.env)).all (fun x => !x.1) && (backToKw pos (keywordEach [] X.env)).all (fun x => x.1.isSome) && decide (([e] : List Expr).length + ([] : List Keyword).length + (if ([] : List Keyword).isEmpty then 0 else 1) < 30)) = true := by rfl)
    (hline : (ap.endLine == pos.line) = true := by rfl) (hs : swapsWith (.Call (.Attribute (.Name x p) "append" ap) [e] [] pos) none py.line X.env = pure false := by rfl) :
    PSD X W (.Expr (.Call (.Attribute (.Name x p) "append" ap) [e] [] pos) py) (wsAppend m i w) :=
  PS.toD (ps_expr (pe_bm PySem.F.plainAttrs_list PySem.F.slot_list_append PySem.F.type_list_append mt_append (pe_var hN hv hd hcd) (pa_cons he pa_nil hse) hbase hfew hline hse rfl) hs) (sndS_append snd_tD)
theorem ds_extend (m : Bool) (i : Nat) {ap : Pos} (he : PED X W e w) (hN : X.N[i]? = some x := by rfl) (hv : Vis X.env.scope x := by first | exact Or.inl rfl | exact Or.inr (Or.inl rfl) | exact Or.inr (Or.inr rfl)) (hd : (x == ("__debug__" : Str)) = false := by decide)
    (hcd : (x == ("__classdict__" : Str)) = false := by decide) (hse : starEach [e] X.env = [(false, eval e X.env)] := by rfl) (hbase : attributeBase (.Name x p) "extend" X.env (eval (.Name x p) X.env) = eval (.Name x p) X.env := by rfl)
    (hfew : ((backTo pos (starEach [e] X.env)).all (fun x => !x.1) && (backToKw pos (keywordEach [] X.env)).all (fun x => x.1.isSome) && decide (([e] : List Expr).length + ([] : List Keyword).length + (if ([] : List Keyword).isEmpty then 0 else 1) < 30)) = true := by rfl)
    (hline : (ap.endLine == pos.line) = true := by rfl) (hs : swapsWith (.Call (.Attribute (.Name x p) "extend" ap) [e] [] pos) none py.line X.env = pure false := by rfl) :
    PSD X W (.Expr (.Call (.Attribute (.Name x p) "extend" ap) [e] [] pos) py) (wsExtend m i w) :=
  PS.toD (ps_expr (pe_bm PySem.F.plainAttrs_list PySem.F.slot_list_extend PySem.F.type_list_extend mt_extend (pe_var hN hv hd hcd) (pa_cons he pa_nil hse) hbase hfew hline hse rfl) hs) (sndS_extend snd_tD)
theorem ds_pop {y : Str} {p2 : Pos} (i j : Nat) {ap : Pos} (bd : Bd X W k) (hN : X.N[i]? = some x := by rfl) (hv : Vis X.env.scope x := by first | exact Or.inl rfl | exact Or.inr (Or.inl rfl) | exact Or.inr (Or.inr rfl)) (hd : (x == ("__debug__" : Str)) = false := by decide)
    (hcd : (x == ("__classdict__" : Str)) = false := by decide) (hbase : attributeBase (.Name x p) "pop" X.env (eval (.Name x p) X.env) = eval (.Name x p) X.env := by rfl)
    (hline : (ap.endLine == pos.line) = true := by rfl) (hi : X.N[j]? = some y := by rfl) (hx : Loc X.env.scope y := by first | exact Or.inl rfl | exact Or.inr rfl) (hs : swapsWith (.Call (.Attribute (.Name x p) "pop" ap) [] [] pos) (some (.Name y p2)) py.line X.env = pure false := by rfl)
    (hf : X.fn y = true ∨ X.env.scope.names.lookup y = some .local := by first | exact .inl rfl | exact .inr rfl) : PSD X W (.Assign [.Name y p2] (.Call (.Attribute (.Name x p) "pop" ap) [] [] pos) py) (wsPop i j) :=
  PS.toD (ps_set bd.nd hi hx (pe_bm0 PySem.F.plainAttrs_list PySem.F.slot_list_pop PySem.F.type_list_pop mt_pop (pe_var hN hv hd hcd) hbase hline) hs hf) sndS_pop
/-! lists of the store -/
theorem e_share (h : PED X W e w) : PED X W e (wShare w) := PE.toD h (snd_share snd_tD)
theorem e_popAt {ap : Pos} (ho : PED X W a wa) (he : PED X W e w) (hse : starEach [e] X.env = [(false, eval e X.env)] := by rfl) (hbase : attributeBase a "pop" X.env (eval a X.env) = eval a X.env := by rfl)
    (hfew : ((backTo pos (starEach [e] X.env)).all (fun x => !x.1) && (backToKw pos (keywordEach [] X.env)).all (fun x => x.1.isSome) && decide (([e] : List Expr).length + ([] : List Keyword).length + (if ([] : List Keyword).isEmpty then 0 else 1) < 30)) = true := by rfl)
    (hline : (ap.endLine == pos.line) = true := by rfl) : PED X W (.Call (.Attribute a "pop" ap) [e] [] pos) (wPopAt wa w) :=
  PE.toD (pe_bm PySem.F.plainAttrs_list PySem.F.slot_list_pop PySem.F.type_list_pop mt_popAt ho (pa_cons he pa_nil hse) hbase hfew hline hse rfl) (snd_popAt snd_tD snd_tD)
theorem ds_stSet (ho : PED X W a wa) (hi : PED X W b wb) (he : PED X W e w)
    (ha : ∀ v, assign (.Subscript a b p) X.env v = (do
      let ov ← holding [v] (eval a X.env)
      let iv ← holding [v, ov] (eval b X.env)
      standAt p
      holding [v, ov, iv] (setItem ov iv v)
      release [v, ov, iv] []) := by intro _; rfl)
    (hs : swapsWithSole [.Subscript a b p] e pos.line X.env = pure false := by rfl) (hw : swappedStores [.Subscript a b p] e X.env = pure none := by rfl)
    (h1 : (assignEach [.Subscript a b p] X.env).map (·.2) = [assign (.Subscript a b p) X.env] := by rfl) : PSD X W (.Assign [.Subscript a b p] e pos) (wsStSet wa wb w) :=
  PS.toD (ps_asg he (pg_sub ho hi set_list ha) hs hw h1) (sndS_stSet snd_tD snd_tD snd_tD)
end
/-! ### a def by its body -/
def startD (N : List Str) (ds : List Val) : DEnv := ds.map (fun d => some (.v d)) ++ List.replicate (N.length - ds.length) none
abbrev EW (E : XK) : WX := fun cls d _ H => E cls d H
theorem vrs_start {K : PySem.W.Frag} {H : Hp} {L : LP} {ρ : List Addr} (G : Hp) (n : Nat) : ∀ {vs : List V} {ds : List Val}, VRs K H L ρ vs ds → ∀ (i : Nat) c, (ds.map (fun d => some (Cell.v d)) ++ List.replicate n none)[i]? = some c → CellR K H L ρ G ((vs.map some ++ List.replicate n none)[i]?.join) c
  | _, _, .nil, i, c, h => by
    rw [List.map_nil, List.nil_append, List.getElem?_replicate] at h
    split at h
    · cases h; trivial
    · cases h
  | _, _, .cons hd r, 0, c, h => by
    cases h
    exact ⟨_, rfl, hd⟩
  | _, _, .cons hd r, i + 1, c, h => vrs_start G n r i c h
theorem rep_start {K : PySem.W.Frag} {H : Hp} {L : LP} {ρ : List Addr} {S : Store} {N : List Str} {vs : List V} {ds : List Val} (sr : SR K H L ρ S) (r : VRs K H L ρ vs ds) : Rep K ⟨H, L, ρ⟩ H L ρ (start N vs) (startD N ds) S := by
  have nown : ∀ i a, ¬ OwnAt (start N vs) (startD N ds) i a := fun i a ⟨c, h1, h2, _⟩ => by
    have hm := List.mem_of_getElem? h1
    rcases List.mem_append.mp hm with hm | hm
    · obtain ⟨d, _, e⟩ := List.mem_map.mp hm
      cases e; cases h2
    · cases (List.mem_replicate.mp hm).2
  refine ⟨sr, ⟨?_, ?_, fun i j a h _ => absurd h (nown i a)⟩, .refl⟩
  · show (start N vs).length = (startD N ds).length
    simp [L2.start, startD, r.length]
  · intro i c h
    unfold L2.start
    rw [r.length]
    exact vrs_start H _ r i c h
theorem fnG_D {P : Program} {w : World} {K : PySem.W.Frag} {mg : Str → Option Value} {base : Heap} {x qual : Str} {st : Stmt} {f : Addr} {fd : FuncData} {N ps : List Str} {k : Nat} {F : FSpec} {ws : WpS} (Fn : Fun K x qual st f fd) (S : FnScope N ps (defScope st))
    (hb : ∀ (X : Cx) (E : XK) (cd : Value) (A : Around) (outer : List Env) (s : Shared) (H : Hp), X = cxOf (L2.CX P w) P w K mg base N qual (defScope st) f cd A outer s H E → Bd X (EW E) k → PassesOwn (model X.prog X.w) X.A X.env X.xe → PSsD X (EW E) (defBody st) ws)
    (hp : ∀ ds S Qd Xd, ds.length = ps.length → F ds S Qd Xd → ws { nx := fun _ S' => Qd (.v .non) S', rt := Qd } (startD N ds) S (fun x _ S' => Xd x S')) : FnG P w K mg base (k + 1) f fd ps (spD K mg ps.length F) := by
  refine fnG_of Fn S (fun vs H Q E h => spD_len h) fun cdv A outer s H vs Q E hr hG hsp => ?_
  have bd : Bd (cxOf (L2.CX P w) P w K mg base N qual (defScope st) f cdv A outer s H E) (EW E) k := ⟨S.nd, rfl, takes_of rfl rfl rfl rfl, hr, hG⟩
  refine ⟨_, hb _ E cdv A outer s H rfl bd (passes_of (K := fun e s'' => L2.CX P w outer H s E e s'') rfl), ?_⟩
  obtain ⟨L, ρ, ds, S0, Qd, Xd, hn, sr, r, hF, hq, hx⟩ := hsp
  refine ⟨⟨H, L, ρ⟩, L, ρ, startD N ds, S0, _, _, rep_start sr r, hp ds S0 Qd Xd hn hF, ?_, ?_⟩
  · intro xn δ S1 hxd σ H1 L1 ρ1 cls d rep xr
    exact hx xn S1 hxd H1 _ ρ1 cls d rep.retStp rep.retSR xr
  · refine ⟨fun δ' S' q σ' H' L' ρ' rep m => ?_, fun δ' S' q => q.elim, fun δ' S' q => q.elim, fun c S' q v H' L' ρ' st sr' cr => ?_⟩
    · exact hq _ S' q .non H' L' ρ' rep.st rep.sr .non
    · exact hq c S' q v H' L' ρ' st sr' cr
theorem cal_D {P : Program} {w : World} {K : PySem.W.Frag} {mg : Str → Option Value} {base : Heap} {x qual : Str} {st : Stmt} {f : Addr} {fd : FuncData} {N ps : List Str} {k : Nat} {F : FSpec} {ws : WpS} (Fn : FunD K x qual (defArgs st) (defBody st) (defScope st) [] [] f fd) (gx : mg x = some (.ref f)) (S : FnScope N ps (defScope st)) (bi : Binds K fd ps [])
    (hb : ∀ (X : Cx) (E : XK) (cd : Value) (A : Around) (outer : List Env) (s : Shared) (H : Hp), X = cxOf (L2.CX P w) P w K mg base N qual (defScope st) f cd A outer s H E → Bd X (EW E) k → PassesOwn (model X.prog X.w) X.A X.env X.xe → PSsD X (EW E) (defBody st) ws)
    (hp : ∀ ds S Qd Xd, ds.length = ps.length → F ds S Qd Xd → ws { nx := fun _ S' => Qd (.v .non) S', rt := Qd } (startD N ds) S (fun x _ S' => Xd x S')) : Cal P w K mg base (k + 1) x ps F :=
  ⟨f, fd, gx, fnG_D (He5.fun_of Fn) S hb hp, Fn.kp, bi⟩
end DL
/-! DL14: dicts; several names at once. -/
namespace DL
open PySem PySem.Spec PyProof.Rows L2 RZ
def keyV : Key → Val
  | .inl i => .int i
  | .inr x => .str x
theorem getKey_keyV {d : Val} {k : Key} (h : getKey d = some k) : d = keyV k := by
  cases d <;> simp [getKey] at h <;> subst h <;> rfl
def dPut (kvs : List (Key × Val)) (k : Key) (v : Val) : List (Key × Val) :=
  if (kvs.any fun kv => decide (kv.1 = k)) = true then kvs.map fun kv => if kv.1 = k then (kv.1, v) else kv else kvs ++ [(k, v)]
section
variable {K : PySem.W.Frag} {mg : Str → Option Value} {W : WX} {H H' H0 H1 H2 H3 : Hp} {L L' L0 L1 LL : LP} {ρ ρ' ρ0 ρ1 ρ2 : List Addr} {σ σ' : Sg} {δ δ' : DEnv} {S S' : Store} {O : LP} {g : Gh} {D : Addr} {o : HO}
theorem VR.key {y : V} {k : Key} (h : VR K H L ρ y (keyV k)) : y = kV k := by
  cases k with
  | inl i => exact h.int_inv
  | inr x => exact h.str_inv
theorem VRk.length : ∀ {vs : List (Key × V)} {ds : List (Key × Val)}, VRk K H L ρ vs ds → vs.length = ds.length
  | _, _, .nil => rfl
  | _, _, .cons _ r => congrArg Nat.succ (VRk.length r)
theorem VRk.look : ∀ {vs : List (Key × V)} {ds : List (Key × Val)} (k : Key), VRk K H L ρ vs ds → (∀ d, dLook ds k = some d → ∃ v, valV vs k = some v ∧ VR K H L ρ v d) ∧ (dLook ds k = none → valV vs k = none)
  | _, _, k, .nil => ⟨fun d h => by simp [dLook] at h, fun _ => rfl⟩
  | _, _, k, @VRk.cons _ _ _ _ k' v d vs ds h r => by
    have ih := VRk.look k r
    by_cases e : k' = k
    · subst e
      refine ⟨fun d' h' => ?_, fun h' => ?_⟩
      · simp [dLook] at h'
        subst h'
        exact ⟨v, valV_pos rfl, h⟩
      · simp [dLook] at h'
    · have e1 : dLook ((k', d) :: ds) k = dLook ds k := by simp [dLook, List.find?_cons, e]
      rw [e1, valV_neg e]
      exact ih
theorem VRk.any : ∀ {vs : List (Key × V)} {ds : List (Key × Val)} (k : Key), VRk K H L ρ vs ds → (vs.any fun kv => decide (kv.1 = k)) = ds.any fun kv => decide (kv.1 = k)
  | _, _, k, .nil => rfl
  | _, _, k, .cons h r => by simp only [List.any_cons, VRk.any k r]
theorem VRk.snoc : ∀ {vs : List (Key × V)} {ds : List (Key × Val)} (k : Key) {v : V} {d : Val}, VRk K H L ρ vs ds → VR K H L ρ v d → VRk K H L ρ (vs ++ [(k, v)]) (ds ++ [(k, d)])
  | _, _, k, _, _, .nil, h => .cons h .nil
  | _, _, k, _, _, .cons h0 r, h => .cons h0 (VRk.snoc k r h)
theorem VRk.repl : ∀ {vs : List (Key × V)} {ds : List (Key × Val)} (k : Key) {v : V} {d : Val}, VRk K H L ρ vs ds → VR K H L ρ v d → VRk K H L ρ (vs.map fun kv => if kv.1 = k then (kv.1, v) else kv) (ds.map fun kv => if kv.1 = k then (kv.1, d) else kv)
  | _, _, k, _, _, .nil, h => .nil
  | _, _, k, v, d, @VRk.cons _ _ _ _ k' v' d' vs ds h0 r, h => by
    have ih := VRk.repl k r h
    rw [List.map_cons, List.map_cons]
    by_cases e : k' = k
    · rw [if_pos e, if_pos e]; exact .cons h ih
    · rw [if_neg e, if_neg e]; exact .cons h0 ih
theorem VRk.put {vs : List (Key × V)} {ds : List (Key × Val)} (k : Key) {v : V} {d : Val} (r : VRk K H L ρ vs ds) (h : VR K H L ρ v d) : VRk K H L ρ (putK vs k v) (dPut ds k d) := by
  unfold putK dPut
  rw [r.any k]
  split
  · exact r.repl k h
  · exact r.snoc k h
theorem VR.dct_inv {x : V} {kvs : List (Key × Val)} (h : VR K H L ρ x (.dct kvs)) : ∃ a vs, x = .ref a ∧ H a = some (.dK vs) ∧ VRk K H L ρ vs kvs := by
  cases h with
  | dct _ h1 r => exact ⟨_, _, rfl, h1, r⟩
/-! ### reads -/
def wDGet (wd wk : Wp) : Wp := fun δ S Q X => wV wd δ S (fun x S1 => wV wk δ S1 (fun y S2 => ∃ kvs k d, x = .dct kvs ∧ getKey y = some k ∧ dLook kvs k = some d ∧ Q (.v d) S2) X) X
theorem snd_dget {td tk : TE} {wd wk : Wp} (hd : Snd K mg W td wd) (hk : Snd K mg W tk wk) : Snd K mg W (tDGet td tk) (wDGet wd wk) := by
  intro g H L ρ σ δ S rep Q Xq hw hx P hP
  refine hd.seq rep hw hx fun x S1 hq u H1 L1 ρ1 st1 rep1 ru => ?_
  refine hk.seq rep1 hq hx fun y S2 hq v H2 L2 ρ2 st2 rep2 rv => ?_
  obtain ⟨kvs, k, d, rfl, hy, hl, hq⟩ := hq
  rw [getKey_keyV hy] at rv
  obtain ⟨a, vs, rfl, e, r⟩ := (ru.later rep1 st2).dct_inv
  obtain ⟨w, hw1, rw1⟩ := (r.look k).1 d hl
  rw [rv.key]
  exact ⟨a, w, rfl, by rw [← hw1]; exact .k e, hP _ S2 hq w H2 L2 ρ2 (st1.trans st2) rep2.sr rw1⟩
def wDIn (neg : Bool) (wk wd : Wp) : Wp := fun δ S Q X => wV wk δ S (fun y S1 => wV wd δ S1 (fun x S2 => ∃ kvs k, x = .dct kvs ∧ getKey y = some k ∧ Q (.v (.bl (neg != (dLook kvs k).isSome))) S2) X) X
theorem VRk.isSome {vs : List (Key × V)} {ds : List (Key × Val)} (r : VRk K H L ρ vs ds) (k : Key) : (valV vs k).isSome = (dLook ds k).isSome := by
  cases e : dLook ds k with
  | none => rw [(r.look k).2 e]; rfl
  | some d => obtain ⟨v, h, _⟩ := (r.look k).1 d e; rw [h]; rfl
theorem snd_dnotin {td tk : TE} {wd wk : Wp} (hk : Snd K mg W tk wk) (hd : Snd K mg W td wd) : Snd K mg W (tDNotIn tk td) (wDIn true wk wd) := by
  intro g H L ρ σ δ S rep Q Xq hw hx P hP
  refine hk.seq rep hw hx fun y S1 hq v H1 L1 ρ1 st1 rep1 rv => ?_
  refine hd.seq rep1 hq hx fun x S2 hq u H2 L2 ρ2 st2 rep2 ru => ?_
  obtain ⟨kvs, k, rfl, hy, hq⟩ := hq
  rw [getKey_keyV hy] at rv
  obtain ⟨a, vs, rfl, e, r⟩ := ru.dct_inv
  rw [rv.key]
  refine ⟨a, _, rfl, .k e, ?_⟩
  rw [r.isSome k]
  have e0 : (true != (dLook kvs k).isSome) = !(dLook kvs k).isSome := by cases (dLook kvs k).isSome <;> rfl
  rw [e0] at hq
  exact hP _ S2 hq _ H2 L2 ρ2 (st1.trans st2) rep2.sr (VR.bl _)
theorem VRk.getDV {vs : List (Key × V)} {ds : List (Key × Val)} (r : VRk K H L ρ vs ds) (k : Key) {z : V} {d : Val} (h : VR K H L ρ z d) : VR K H L ρ ((valV vs k).getD z) ((dLook ds k).getD d) := by
  cases e : dLook ds k with
  | none => rw [(r.look k).2 e]; exact h
  | some d' => obtain ⟨v, h1, h2⟩ := (r.look k).1 d' e; rw [h1]; exact h2
def wDGet1 (wd wk : Wp) : Wp := fun δ S Q X => wV wd δ S (fun x S1 => ∃ kvs, x = .dct kvs ∧ wV wk δ S1 (fun y S2 => ∃ k, getKey y = some k ∧ Q (.v ((dLook kvs k).getD .non)) S2) X) X
theorem snd_dget1 {td tk : TE} {wd wk : Wp} (hd : Snd K mg W td wd) (hk : Snd K mg W tk wk) : Snd K mg W (tDGet1 td tk) (wDGet1 wd wk) := by
  intro g H L ρ σ δ S rep Q Xq hw hx P hP
  refine hd.seq rep hw hx fun x S1 hq u H1 L1 ρ1 st1 rep1 ru => ?_
  obtain ⟨kvs, rfl, hq⟩ := hq
  obtain ⟨a0, vs0, rfl, e0, r0⟩ := ru.dct_inv
  refine ⟨a0, rfl, .inl ⟨_, .inl e0⟩, ?_⟩
  refine hk.seq rep1 hq hx fun y S2 hq v H2 L2 ρ2 st2 rep2 rv => ?_
  obtain ⟨k, hy, hq⟩ := hq
  rw [getKey_keyV hy] at rv
  obtain ⟨a, vs, ea, e, r⟩ := (ru.later rep1 st2).dct_inv
  cases ea
  rw [rv.key]
  exact ⟨_, .k e, hP _ S2 hq _ H2 L2 ρ2 (st1.trans st2) rep2.sr (r.getDV k .non)⟩
def wDGet2 (wd wk wz : Wp) : Wp := fun δ S Q X => wV wd δ S (fun x S1 => ∃ kvs, x = .dct kvs ∧ wV wk δ S1 (fun y S2 => wV wz δ S2 (fun z S3 => ∃ k, getKey y = some k ∧ Q (.v ((dLook kvs k).getD z)) S3) X) X) X
/-! ### writes -/
theorem Rep.slotM (rep : Rep K g H L ρ σ δ S) {i : Nat} {ds : List (Key × Val)} (hc : δ[i]? = some (some (.m ds))) : ∃ a vs, σ[i]? = some (some (.ref a)) ∧ g.H a = none ∧ ¬ L a ∧ a ∉ ρ ∧ H a = some (.dK vs) ∧ VRk K H L ρ vs ds := by
  obtain ⟨a, vs, e, q⟩ := rep.er.cell i _ hc
  refine ⟨a, vs, ?_, q⟩
  cases e2 : σ[i]? with
  | none => rw [e2] at e; cases e
  | some o => rw [e2] at e; rw [show o = some (V.ref a) from e]
def wsDPut (m : Bool) (i : Nat) (wk we : Wp) : WpS := fun Dd δ S X => wEv m we δ S (fun c S1 => ∃ kvs, δ[i]? = some (some (.m kvs)) ∧ wV wk δ S1 (fun y S2 => ∃ k, getKey y = some k ∧ kvs.length < sizeLine ∧ Dd.nx (δ.set i (some (.m (dPut kvs k (fz c))))) S2) X) X
theorem sndS_dput {tk te : TE} {wk we : Wp} {m : Bool} {i : Nat} (hk : Snd K mg W tk wk) (he : Snd K mg W te we) : SndS K mg W (sDPut (tVar i) tk te) (wsDPut m i wk we) := by
  intro g H L ρ σ δ S rep Dd Xq hw hx D k
  refine he.evV (k := fun d S1 => ∃ kvs, δ[i]? = some (some (.m kvs)) ∧ wV wk δ S1 (fun y S2 => ∃ k, getKey y = some k ∧ kvs.length < sizeLine ∧ Dd.nx (δ.set i (some (.m (dPut kvs k d)))) S2) Xq) rep hw hx fun d S1 hq v H1 L1 ρ1 st1 rep1 vr => ?_
  obtain ⟨kvs, hc, hq⟩ := hq
  obtain ⟨a, vs, ha, _⟩ := rep1.slotM hc
  refine ⟨.ref a, ha, ?_⟩
  refine hk.seq rep1 hq hx fun y S2 hq u H2 L2 ρ2 st2 rep2 ru => ?_
  obtain ⟨kk, hy, hz, hq⟩ := hq
  rw [getKey_keyV hy] at ru
  obtain ⟨a2, vs2, ha2, h1, h2, h3, h4, h5⟩ := rep2.slotM hc
  rw [ha] at ha2
  cases ha2
  rw [ru.key]
  refine ⟨a, _, rfl, .k h4 (by rw [h5.length]; exact hz), ?_⟩
  have nt : (∀ xs, H2 a ≠ some (.tup xs)) ∧ ∀ ob u, H2 a ≠ some (.frz ob u) := ⟨fun xs z => (by rw [h4] at z; cases z), fun ob u z => (by rw [h4] at z; cases z)⟩
  have vr2 : VR K H2 L2 ρ2 v d := vr.mo st2.mo
  obtain ⟨r2, m2⟩ := rep2.chg (o' := .dK (putK vs2 kk v)) (c' := .m (dPut kvs kk d)) hc rfl ha rfl ⟨a, _, rfl, h1, h2, h3, upd_same, (h5.put kk vr2).mo (Mo.upd h2 nt)⟩
  exact k.nx _ S2 hq _ _ L2 ρ2 r2 ((st1.trans st2).mo.trans m2)
/-! ### displays -/
def wDNew : Wp := fun _ S Q _ => Q (.m []) S
theorem snd_dnew : Snd K mg W tDNewK wDNew := by
  intro g H L ρ σ δ S rep Q Xq hw hx P hP
  exact (Rep.fin rep .refl hP).dct rep.ctx hw .nil
def wPairs : List (Wp × Wp) → DEnv → Store → (List (Val × Val) → Store → Prop) → XQ → Prop
  | [], _, S, Q, _ => Q [] S
  | (wk, wv) :: r, δ, S, Q, X => wV wk δ S (fun x S1 => wV wv δ S1 (fun y S2 => wPairs r δ S2 (fun ps S3 => Q ((x, y) :: ps) S3) X) X) X
def SndP (K : PySem.W.Frag) (mg : Str → Option Value) (W : WX) (trs : List (TE × TE)) (prs : List (Wp × Wp)) : Prop :=
  ∀ g H L ρ σ δ S, Rep K g H L ρ σ δ S → ∀ Q Xq, wPairs prs δ S Q Xq → XOK K mg W g Xq → ∀ P : List (V × V) → Hp → Prop,
    (∀ ds S', Q ds S' → ∀ ps H' L' ρ', Stp K H L ρ H' L' ρ' → Rep K g H' L' ρ' σ δ S' → VRs K H' (fun a => L' a ∨ own σ δ a) ρ' (ps.map (·.1)) (ds.map (·.1)) → VRs K H' (fun a => L' a ∨ own σ δ a) ρ' (ps.map (·.2)) (ds.map (·.2)) → P ps H') → tPairs trs σ H P
theorem sndP_nil : SndP K mg W [] [] := fun g H L ρ σ δ S rep Q Xq hw _ P hP => hP [] S hw [] H L ρ .refl rep .nil .nil
theorem sndP_cons {tk tv : TE} {wk wv : Wp} {trs : List (TE × TE)} {prs : List (Wp × Wp)} (hk : Snd K mg W tk wk) (hv : Snd K mg W tv wv) (hr : SndP K mg W trs prs) : SndP K mg W ((tk, tv) :: trs) ((wk, wv) :: prs) := by
  intro g H L ρ σ δ S rep Q Xq hw hx P hP
  refine hk.seq rep hw hx fun x S1 hq u H1 L1 ρ1 st1 rep1 ru => ?_
  refine hv.seq rep1 hq hx fun y S2 hq v H2 L2 ρ2 st2 rep2 rv => ?_
  refine hr g H2 L2 ρ2 σ δ S2 rep2 _ Xq hq hx _ fun ds S3 hq ps H3 L3 ρ3 st3 rep3 r1 r2 => ?_
  exact hP _ S3 hq ((u, v) :: ps) H3 L3 ρ3 ((st1.trans st2).trans st3) rep3 (.cons ((ru.later rep1 st2).later rep2 st3) r1) (.cons (rv.later rep2 st3) r2)
def keysOf : List (Val × Val) → Option (List (Key × Val))
  | [] => some []
  | (x, y) :: r => (getKey x).bind fun k => (keysOf r).map fun kvs => (k, y) :: kvs
def mergeD (kvs more : List (Key × Val)) : List (Key × Val) := more.foldl (fun acc kv => dPut acc kv.1 kv.2) kvs
theorem VRk.merge : ∀ {more : List (Key × V)} {moreD : List (Key × Val)} {kvs : List (Key × V)} {kvsD : List (Key × Val)}, VRk K H L ρ more moreD → VRk K H L ρ kvs kvsD → VRk K H L ρ (mergeK kvs more) (mergeD kvsD moreD)
  | _, _, _, _, .nil, r => r
  | _, _, _, _, .cons (k := k) h t, r => by
    have q := VRk.merge t (r.put k h)
    exact q
theorem pairs_keys : ∀ {ps : List (V × V)} {ds : List (Val × Val)} {kvs : List (Key × Val)}, VRs K H L ρ (ps.map (·.1)) (ds.map (·.1)) → VRs K H L ρ (ps.map (·.2)) (ds.map (·.2)) → keysOf ds = some kvs → ∃ kvs' : List (Key × V), ps = kvs'.map (fun kv => (kV kv.1, kv.2)) ∧ VRk K H L ρ kvs' kvs
  | [], [], kvs, _, _, e => by cases e; exact ⟨[], rfl, .nil⟩
  | [], _ :: _, _, h, _, _ => nomatch h
  | _ :: _, [], _, h, _, _ => nomatch h
  | (u, v) :: ps, (x, y) :: ds, kvs, h1, h2, e => by
    simp only [keysOf] at e
    obtain ⟨k, ek, e⟩ := Option.bind_eq_some_iff.mp e
    obtain ⟨kv2, e2, rfl⟩ := Option.map_eq_some_iff.mp e
    cases h1 with
    | cons a1 a2 =>
      cases h2 with
      | cons b1 b2 =>
        obtain ⟨kvs', rfl, r⟩ := pairs_keys a2 b2 e2
        have a1' : VR K H L ρ u x := a1
        rw [getKey_keyV ek] at a1'
        refine ⟨(k, v) :: kvs', ?_, .cons b1 r⟩
        rw [a1'.key]; rfl
def wDisp (prs : List (Wp × Wp)) : Wp := fun δ S Q X => wPairs prs δ S (fun ps S1 => ∃ kvs, keysOf ps = some kvs ∧ kvs.length ≤ 15 ∧ Q (.m (mergeD [] kvs)) S1) X
theorem snd_disp {trs : List (TE × TE)} {prs : List (Wp × Wp)} (h : SndP K mg W trs prs) : Snd K mg W (tDisp trs) (wDisp prs) := by
  intro g H L ρ σ δ S rep Q Xq hw hx P hP p hp
  have st0 : Stp K H L ρ (L2.upd H p (.dK [])) L ρ := Stp.alloc hp
  have rep0 := rep.step st0 (rep.sr.alloc hp)
  refine h g _ L ρ σ δ S rep0 _ Xq hw hx _ fun ds S1 hq ps H1 L1 ρ1 st1 rep1 r1 r2 => ?_
  obtain ⟨kvs, hk, hl, hq⟩ := hq
  have nρ := rep.sr.notin hp
  have e1 : H1 p = some (.dK []) := st1.keep p _ upd_same nρ
  obtain ⟨kvs', rfl, r⟩ := pairs_keys r1 r2 hk
  refine ⟨e1, kvs', rfl, by rw [r.length]; exact hl, ?_⟩
  have some0 : (L2.upd H p (.dK [])) p = some (.dK []) := upd_same
  have nL1 : ¬ L1 p := fun z => (st1.new p z).elim (rep.sr.notL hp) fun z => by rw [some0] at z; cases z
  have nρ1 : p ∉ ρ1 := fun z => by
    obtain ⟨r, e, n⟩ := st1.pre
    rw [e] at z
    rcases List.mem_append.mp z with z | z
    · exact nρ z
    · have := n p z; rw [some0] at this; cases this
  have nt : (∀ xs, H1 p ≠ some (.tup xs)) ∧ ∀ ob u, H1 p ≠ some (.frz ob u) := ⟨fun xs z => (by rw [e1] at z; cases z), fun ob u z => (by rw [e1] at z; cases z)⟩
  have nO : ¬ own σ δ p := fun z => by
    obtain ⟨o, e, _⟩ := (rep.ownH z).2.2.2
    rw [hp] at e; cases e
  refine hP _ S1 hq _ _ L1 ρ1 ((st0.trans st1).upd hp) (rep1.sr.upd nL1 nρ1 nt) ⟨p, _, rfl, hp, nL1, nρ1, upd_same, (r.merge .nil).mo (Mo.upd (fun z => z.elim nL1 nO) nt)⟩
/-! ### several names at once -/
theorem CR.later {v : V} {c : Cell} (st : Stp K H1 L1 ρ1 H2 LL ρ2) (h : DL.CR K H1 L1 ρ1 H NO v c) : DL.CR K H2 LL ρ2 H NO v c := by
  have m : Mo K H1 (fun a => L1 a ∨ NO a) ρ1 H2 (fun a => LL a ∨ NO a) ρ2 := st.moO fun _ z => z.elim
  have key : ∀ a u, H1 a = some u → ¬ L1 a → a ∉ ρ1 → ¬ LL a ∧ a ∉ ρ2 := fun a u e n1 n2 => ⟨fun z => (st.new a z).elim n1 fun z => (by rw [e] at z; cases z), fun z => by
    obtain ⟨r, e2, n⟩ := st.pre
    rw [e2] at z
    rcases List.mem_append.mp z with z | z
    · exact n2 z
    · have := n a z; rw [e] at this; cases this⟩
  cases c with
  | v d => exact VR.mo m h
  | l ds =>
    obtain ⟨a, vs, e, h1, h2, h3, h4, h5⟩ := h
    exact ⟨a, vs, e, h1, (key a _ h4 h2 h3).1, (key a _ h4 h2 h3).2, st.keep a _ h4 h3, h5.mo m⟩
  | m ds =>
    obtain ⟨a, vs, e, h1, h2, h3, h4, h5⟩ := h
    exact ⟨a, vs, e, h1, (key a _ h4 h2 h3).1, (key a _ h4 h2 h3).2, st.keep a _ h4 h3, h5.mo m⟩
/-- a slot takes what an expression handed back -/
theorem Rep.setCR (rep : Rep K g H L ρ σ δ S) {i : Nat} {v : V} {c : Cell} (cr : DL.CR K H L ρ H0 NO v c) (fr : ∀ a, H0 a = none → ¬ own σ δ a) (g0 : ∀ a, H0 a = none → g.H a = none) : Rep K g H L ρ (σ.set i (some v)) (δ.set i (some c)) S := by
  have mm : Mo K H (fun a => L a ∨ NO a) ρ H L ρ := .sub fun a z => z.elim id fun z => z.elim
  cases c with
  | v d => exact rep.setV (VR.mo mm cr)
  | l ds =>
    obtain ⟨a, vs, rfl, h1, h2, h3, h4, h5⟩ := cr
    exact rep.setO rfl (fr a h1) ⟨a, vs, rfl, g0 a h1, h2, h3, h4, h5.mo mm⟩
  | m ds =>
    obtain ⟨a, vs, rfl, h1, h2, h3, h4, h5⟩ := cr
    exact rep.setO rfl (fr a h1) ⟨a, vs, rfl, g0 a h1, h2, h3, h4, h5.mo mm⟩
theorem Rep.fresh (rep : Rep K g H L ρ σ δ S) : ∀ a, H a = none → ¬ own σ δ a := fun a h z => by
  obtain ⟨o, e, _⟩ := (rep.ownH z).2.2.2
  rw [h] at e; cases e
def wsPar2 (m : Bool) (i j : Nat) (wa wb : Wp) : WpS := fun Dd δ S X => wEv m wa δ S (fun c1 S1 => wEv m wb δ S1 (fun c2 S2 => Dd.nx ((δ.set i (some c1)).set j (some c2)) S2) X) X
theorem sndS_par2 {ta tb : TE} {wa wb : Wp} {m : Bool} {i j : Nat} (ha : Snd K mg W ta wa) (hb : Snd K mg W tb wb) : SndS K mg W (tPar i j (tCons ta (tCons tb tNil))) (wsPar2 m i j wa wb) := by
  intro g H L ρ σ δ S rep Dd Xq hw hx D k
  refine ha.ev rep hw hx fun c1 S1 hq v1 H1 L1 ρ1 st1 rep1 cr1 => ?_
  have rep1' := rep1.setCR (i := i) cr1 (fun a h => rep.fresh a h) fun a h => rep.st.non h
  refine hb.ev rep1 hq hx fun c2 S2 hq v2 H2 L2 ρ2 st2 rep2 cr2 => ?_
  have rep2' := rep1'.step st2 rep2.sr
  exact ⟨v1, v2, rfl, k.nx _ S2 hq _ H2 L2 ρ2 (rep2'.setCR (i := j) cr2 (fun a h => rep1'.fresh a h) fun a h => rep1.st.non h) (st1.trans st2).mo⟩
def wsPar3 (m : Bool) (i j l : Nat) (wa wb wc : Wp) : WpS := fun Dd δ S X => wEv m wa δ S (fun c1 S1 => wEv m wb δ S1 (fun c2 S2 => wEv m wc δ S2 (fun c3 S3 => Dd.nx (((δ.set i (some c1)).set j (some c2)).set l (some c3)) S3) X) X) X
theorem sndS_par3 {ta tb tc : TE} {wa wb wc : Wp} {m : Bool} {i j l : Nat} (ha : Snd K mg W ta wa) (hb : Snd K mg W tb wb) (hc : Snd K mg W tc wc) : SndS K mg W (tPar3 i j l (tCons ta (tCons tb (tCons tc tNil)))) (wsPar3 m i j l wa wb wc) := by
  intro g H L ρ σ δ S rep Dd Xq hw hx D k
  refine ha.ev rep hw hx fun c1 S1 hq v1 H1 L1 ρ1 st1 rep1 cr1 => ?_
  have rep1' := rep1.setCR (i := i) cr1 (fun a h => rep.fresh a h) fun a h => rep.st.non h
  refine hb.ev rep1 hq hx fun c2 S2 hq v2 H2 L2 ρ2 st2 rep2 cr2 => ?_
  have rep2' := (rep1'.step st2 rep2.sr).setCR (i := j) cr2 (fun a h => rep1'.fresh a h) fun a h => rep1.st.non h
  refine hc.ev rep2 hq hx fun c3 S3 hq v3 H3 L3 ρ3 st3 rep3 cr3 => ?_
  have rep3' := rep2'.step st3 rep3.sr
  exact ⟨v1, v2, v3, rfl, k.nx _ S3 hq _ H3 L3 ρ3 (rep3'.setCR (i := l) cr3 (fun a h => rep2'.fresh a h) fun a h => rep2.st.non h) ((st1.trans st2).trans st3).mo⟩
/-- ghost: a slot's own list or dict is never changed again -/
def wsFrz (i : Nat) (b : WpS) : WpS := fun Dd δ S X => ∃ c, δ[i]? = some (some c) ∧ b Dd (δ.set i (some (.v (fz c)))) S X
theorem Rep.frz (rep : Rep K g H L ρ σ δ S) {i : Nat} {c : Cell} (hc : δ[i]? = some (some c)) : ∃ L', Rep K g H L' ρ σ (δ.set i (some (.v (fz c)))) S ∧ Mo K H L ρ H L' ρ := by
  have q := rep.er.cell i _ hc
  have same : ∀ v, σ[i]?.join = some v → σ.set i (some v) = σ := fun v e => set_same_at (by
    cases e2 : σ[i]? with
    | none => rw [e2] at e; cases e
    | some o => rw [e2] at e; rw [show o = some v from e])
  cases c with
  | v d => exact ⟨L, by rw [show fz (.v d) = d from rfl, set_same_at hc]; exact rep, .refl⟩
  | l ds =>
    obtain ⟨a, vs, e, h1, h2, h3, h4, h5⟩ := q
    have rep1 : Rep K g H L ρ σ (δ.set i none) S := by
      have z := rep.setC (i := i) (v := σ[i]?.join) (c := none) (fun c' e => nomatch e) trivial
      rw [e, same _ e] at z
      exact z
    have st : Stp K H L ρ H (fun b => L b ∨ b = a) ρ → True := fun _ => trivial
    have m : Mo K H L ρ H (fun b => L b ∨ b = a) ρ := .sub fun _ z => .inl z
    have no : ∀ b, own σ (δ.set i none) b → b ≠ a := fun b z z2 => by
      subst z2
      obtain ⟨j, c2, e1, e2, e3⟩ := z
      rw [List.getElem?_set] at e1
      by_cases ej : i = j
      · subst ej; simp at e1
      · simp [ej] at e1
        have oa : OwnAt σ δ i b := ⟨_, hc, rfl, by
          cases e4 : σ[i]? with
          | none => rw [e4] at e; cases e
          | some o => rw [e4] at e; rw [show o = some (V.ref b) from e]⟩
        exact ej (rep.er.inj i j b oa ⟨c2, e1, e2, e3⟩)
    have rep2 : Rep K g H (fun b => L b ∨ b = a) ρ σ (δ.set i none) S := by
      refine ⟨rep1.sr.freeze h4 h3, ⟨rep1.er.len, fun j c hj => ?_, rep1.er.inj⟩, ⟨rep1.st.keep, fun b z => .inl (rep1.st.sub b z), fun b z => z.elim (rep1.st.new b) fun z => .inr (z ▸ h1), rep1.st.pre, rep1.st.tup, rep1.st.frz, rep1.st.fro, rep1.st.thr⟩⟩
      have q2 := rep1.er.cell j c hj
      have nn : ∀ c', c = some c' → c'.owned = true → ∀ b, σ[j]?.join = some (.ref b) → b ≠ a := fun c' z1 z2 b z3 => no b ⟨j, c', by rw [hj, z1], z2, by
        cases e4 : σ[j]? with
        | none => rw [e4] at z3; cases z3
        | some o => rw [e4] at z3; rw [show o = some (V.ref b) from z3]⟩
      cases c with
      | none => trivial
      | some c =>
        cases c with
        | v d => obtain ⟨u, e5, r5⟩ := q2; exact ⟨u, e5, r5.mo m⟩
        | l es =>
          obtain ⟨b, ws, e5, b1, b2, b3, b4, b5⟩ := q2
          exact ⟨b, ws, e5, b1, fun z => z.elim b2 (nn _ rfl rfl b e5), b3, b4, b5.mo m⟩
        | m es =>
          obtain ⟨b, ws, e5, b1, b2, b3, b4, b5⟩ := q2
          exact ⟨b, ws, e5, b1, fun z => z.elim b2 (nn _ rfl rfl b e5), b3, b4, b5.mo m⟩
    refine ⟨_, ?_, m⟩
    have z := rep2.setV (i := i) (v := .ref a) (d := .lst ds) (.lst (.inr rfl) h4 (h5.mo m))
    rw [List.set_set, same _ e] at z
    exact z
  | m ds =>
    obtain ⟨a, vs, e, h1, h2, h3, h4, h5⟩ := q
    have rep1 : Rep K g H L ρ σ (δ.set i none) S := by
      have z := rep.setC (i := i) (v := σ[i]?.join) (c := none) (fun c' e => nomatch e) trivial
      rw [e, same _ e] at z
      exact z
    have m : Mo K H L ρ H (fun b => L b ∨ b = a) ρ := .sub fun _ z => .inl z
    have no : ∀ b, own σ (δ.set i none) b → b ≠ a := fun b z z2 => by
      subst z2
      obtain ⟨j, c2, e1, e2, e3⟩ := z
      rw [List.getElem?_set] at e1
      by_cases ej : i = j
      · subst ej; simp at e1
      · simp [ej] at e1
        have oa : OwnAt σ δ i b := ⟨_, hc, rfl, by
          cases e4 : σ[i]? with
          | none => rw [e4] at e; cases e
          | some o => rw [e4] at e; rw [show o = some (V.ref b) from e]⟩
        exact ej (rep.er.inj i j b oa ⟨c2, e1, e2, e3⟩)
    have rep2 : Rep K g H (fun b => L b ∨ b = a) ρ σ (δ.set i none) S := by
      refine ⟨rep1.sr.freeze h4 h3, ⟨rep1.er.len, fun j c hj => ?_, rep1.er.inj⟩, ⟨rep1.st.keep, fun b z => .inl (rep1.st.sub b z), fun b z => z.elim (rep1.st.new b) fun z => .inr (z ▸ h1), rep1.st.pre, rep1.st.tup, rep1.st.frz, rep1.st.fro, rep1.st.thr⟩⟩
      have q2 := rep1.er.cell j c hj
      have nn : ∀ c', c = some c' → c'.owned = true → ∀ b, σ[j]?.join = some (.ref b) → b ≠ a := fun c' z1 z2 b z3 => no b ⟨j, c', by rw [hj, z1], z2, by
        cases e4 : σ[j]? with
        | none => rw [e4] at z3; cases z3
        | some o => rw [e4] at z3; rw [show o = some (V.ref b) from z3]⟩
      cases c with
      | none => trivial
      | some c =>
        cases c with
        | v d => obtain ⟨u, e5, r5⟩ := q2; exact ⟨u, e5, r5.mo m⟩
        | l es =>
          obtain ⟨b, ws, e5, b1, b2, b3, b4, b5⟩ := q2
          exact ⟨b, ws, e5, b1, fun z => z.elim b2 (nn _ rfl rfl b e5), b3, b4, b5.mo m⟩
        | m es =>
          obtain ⟨b, ws, e5, b1, b2, b3, b4, b5⟩ := q2
          exact ⟨b, ws, e5, b1, fun z => z.elim b2 (nn _ rfl rfl b e5), b3, b4, b5.mo m⟩
    refine ⟨_, ?_, m⟩
    have z := rep2.setV (i := i) (v := .ref a) (d := .dct ds) (.dct (.inr rfl) h4 (h5.mo m))
    rw [List.set_set, same _ e] at z
    exact z
theorem sndS_frz {t : TS} {b : WpS} {i : Nat} (h : SndS K mg W t b) : SndS K mg W t (wsFrz i b) := by
  intro g H L ρ σ δ S rep Dd Xq hw hx D k
  obtain ⟨c, hc, hw⟩ := hw
  obtain ⟨L', rep', m⟩ := rep.frz hc
  exact h g H L' ρ σ _ S rep' Dd Xq hw hx D (k.mo m)
end
section
variable {X : Cx} {W : WX} {k : Nat} {a b c e e2 : Expr} {pos p py : Pos} {wa wb wc w : Wp} {x y z : Str} {ks : List (Option Expr)} {vs : List Expr} {prs : List (Wp × Wp)} {ss : List Stmt} {s1 : WpS}
theorem e_dget (bd : Bd X W k) (ha : PED X W a wa) (hb : PED X W b wb) (hs : NoSl b := by intro _ _; rfl) : PED X W (.Subscript a b pos) (wDGet wa wb) := PE.toD (pe_dget (by have := bd.un; omega) ha hb hs) (snd_dget snd_tD snd_tD)
theorem t_dnotin (bd : Bd X W k) (ha : PED X W a wa) (hb : PED X W b wb) (hm : behindInMarks .NotIn b = false := by with_unfolding_all rfl) : PTD X W (.Compare a [.NotIn] [b] pos) (wTst (wDIn true wa wb)) := PT.toD (pt_cmp (pc_dnotin (by have := bd.un; omega) ha hb) hm) (sndT_tst (snd_dnotin snd_tD snd_tD))
theorem e_dget1 {ap : Pos} (bd : Bd X W k) (ha : PED X W a wa) (hb : PED X W b wb) (m : M1 X a "get" ap b pos := by exact ⟨rfl, rfl, rfl, rfl⟩) : PED X W (.Call (.Attribute a "get" ap) [b] [] pos) (wDGet1 wa wb) := PE.toD (pe_dget1 (by have := bd.un; omega) ha hb m) (snd_dget1 snd_tD snd_tD)
theorem e_dnew : PED X W (.Dict [] [] pos) wDNew := PE.toD pe_dnewK snd_dnew
def PPD (X : Cx) (W : WX) (pos : Pos) (ks : List (Option Expr)) (vs : List Expr) (prs : List (Wp × Wp)) : Prop := ∃ trs, PPs X pos ks vs trs ∧ SndP X.K X.mg W trs prs
theorem p_nil : PPD X W pos [] [] [] := ⟨_, pps_nil, sndP_nil⟩
theorem p_cons (ha : PED X W a wa) (hb : PED X W b wb) (hr : PPD X W pos ks vs prs) : PPD X W pos (some a :: ks) (b :: vs) ((wa, wb) :: prs) := let ⟨_, h1, h2⟩ := hr; ⟨_, pps_cons ha hb h1, sndP_cons snd_tD snd_tD h2⟩
theorem e_disp (h : PPD X W pos ks vs prs) (hall : ks.all (·.isSome) = true := by rfl) (hl : ks.length = vs.length := by rfl) (h0 : ks ≠ [] := by simp) (h15 : ks.length ≤ 15 := by decide) : PED X W (.Dict ks vs pos) (wDisp prs) :=
  let ⟨_, h1, h2⟩ := h; PE.toD (pe_disp h1 hall hl h0 h15) (snd_disp h2)
theorem ds_dput (m : Bool) (i : Nat) (bd : Bd X W k) (hb : PED X W b wb) (he : PED X W e w) (hN : X.N[i]? = some x := by rfl) (hv : Vis X.env.scope x := by first | exact Or.inl rfl | exact Or.inr (Or.inl rfl) | exact Or.inr (Or.inr rfl)) (hd : (x == ("__debug__" : Str)) = false := by decide)
    (hcd : (x == ("__classdict__" : Str)) = false := by decide) (hs : swapsWith e (some (.Subscript (.Name x p) b py)) pos.line X.env = pure false := by rfl) : PSD X W (.Assign [.Subscript (.Name x p) b py] e pos) (wsDPut m i wb w) :=
  PS.toD (ps_dput (by have := bd.un; omega) (pe_var hN hv hd hcd) hb he hs) (sndS_dput snd_tD snd_tD)
theorem ds_par2 {px p1 pt : Pos} {kt k2 : Nat} {pt2 : Pos} (m : Bool) (i j : Nat) (bd : Bd X W k) (ha : PED X W a wa) (hb : PED X W b wb) (hi : X.N[i]? = some x := by rfl) (hj : X.N[j]? = some y := by rfl) (hij : i ≠ j := by decide)
    (hx : X.env.scope.names.lookup x = some .local := by rfl) (hy : X.env.scope.names.lookup y = some .local := by rfl) (hse : starEach [a, b] X.env = (false, eval a X.env) :: starEach [b] X.env := by rfl) (hse2 : starEach [b] X.env = [(false, eval b X.env)] := by rfl)
    (hw : swappedStores [.Tuple [.Name x px, .Name y p1] kt pt] (.Tuple [a, b] k2 pt2) X.env = pure (some [x, y]) := by rfl)
    (hs : swapsWithSole [.Tuple [.Name x px, .Name y p1] kt pt] (.Tuple [a, b] k2 pt2) pos.line X.env = pure false := by rfl) :
    PSD X W (.Assign [.Tuple [.Name x px, .Name y p1] kt pt] (.Tuple [a, b] k2 pt2) pos) (wsPar2 m i j wa wb) :=
  PS.toD (ps_par bd.calm bd.nd hi hj hij hx hy (pa_cons ha (pa_cons hb pa_nil hse2) hse) hw hs) (sndS_par2 snd_tD snd_tD)
theorem ds_par3 {px p1 p2 pt : Pos} {kt k2 : Nat} {pt2 : Pos} (m : Bool) (i j l : Nat) (bd : Bd X W k) (ha : PED X W a wa) (hb : PED X W b wb) (hc : PED X W c wc) (hi : X.N[i]? = some x := by rfl) (hj : X.N[j]? = some y := by rfl) (hl : X.N[l]? = some z := by rfl) (hij : i ≠ j := by decide) (hil : i ≠ l := by decide) (hjl : j ≠ l := by decide)
    (hx : X.env.scope.names.lookup x = some .local := by rfl) (hy : X.env.scope.names.lookup y = some .local := by rfl) (hz : X.env.scope.names.lookup z = some .local := by rfl) (hse : starEach [a, b, c] X.env = (false, eval a X.env) :: starEach [b, c] X.env := by rfl) (hse2 : starEach [b, c] X.env = (false, eval b X.env) :: starEach [c] X.env := by rfl) (hse3 : starEach [c] X.env = [(false, eval c X.env)] := by rfl)
    (hw : swappedStores [.Tuple [.Name x px, .Name y p1, .Name z p2] kt pt] (.Tuple [a, b, c] k2 pt2) X.env = pure (some [x, y, z]) := by rfl)
    (hs : swapsWithSole [.Tuple [.Name x px, .Name y p1, .Name z p2] kt pt] (.Tuple [a, b, c] k2 pt2) pos.line X.env = pure false := by rfl) :
    PSD X W (.Assign [.Tuple [.Name x px, .Name y p1, .Name z p2] kt pt] (.Tuple [a, b, c] k2 pt2) pos) (wsPar3 m i j l wa wb wc) :=
  PS.toD (ps_par3 bd.calm bd.nd hi hj hl hij hil hjl hx hy hz (pa_cons ha (pa_cons hb (pa_cons hc pa_nil hse3) hse2) hse) hw hs) (sndS_par3 snd_tD snd_tD snd_tD)
theorem dss_frz (i : Nat) (h : PSsD X W ss s1) : PSsD X W ss (wsFrz i s1) := PSs.toD h (sndS_frz snd_tDS)
end
end DL
/-! DL15: the law's own call, by a def that keeps a promise in data. -/
namespace DL
open PySem PySem.Spec PyProof.Rows L2 RZ
/-- the script's list, as it lies -/
abbrev scO (vs : List Value) : Obj := { cls := .type "list", data := .seq vs.toArray }
/-- the abstract heap at the law's call: the script alone, if K does not hold it -/
def scH (yes : Bool) (a : Addr) (vs : List Value) (ns : List Int) : Hp := fun b => match yes, decide (b = a) with
  | true, true => some (.frz (scO vs) (.lst (ns.map V.int)))
  | _, _ => none
section
variable {yes : Bool} {a b : Addr} {vs : List Value} {ns : List Int}
theorem scH_at : scH true a vs ns a = some (.frz (scO vs) (.lst (ns.map V.int))) := by simp [scH]
theorem scH_some {u : HO} (h : scH yes a vs ns b = some u) : yes = true ∧ b = a ∧ u = .frz (scO vs) (.lst (ns.map V.int)) := by
  cases yes with
  | false => simp [scH] at h
  | true =>
    by_cases e : b = a
    · simp [scH, e] at h; exact ⟨rfl, e, h.symm⟩
    · simp [scH, e] at h
theorem scH_none (h : yes = true → b ≠ a) : scH yes a vs ns b = none := by
  cases e : scH yes a vs ns b with
  | none => rfl
  | some u => obtain ⟨h1, h2, _⟩ := scH_some e; exact absurd h2 (h h1)
end
theorem law_callG {P : Program} {w : World} {K : PySem.W.Frag} {mg mb : Str → Option Value} {k : Nat} {fa a : Addr} {fd : FuncData} {x : Str} {F : FSpec} {s : Shared} {vs : List Value} {ns : List Int} (hk : K.In s.heap) (hm : s.heap.Ns mainGlobals mg) (hbn : s.heap.Ns builtinsNs mb)
    (hbb : ∀ y : Str, y ≠ "__name__" → mb y = bootBuiltins y) (hlim : s.heap.NoLimit) (hg : s.gens = #[]) (ha : s.heap.get? a = some (scO vs)) (hi : IntsAre vs ns) (hl : ns.length ≤ sizeLine) (hr : Room k callerA)
    (FG : ∀ base : Heap, K.In base → base.Ns mainGlobals mg → FnG P w K mg base k fa fd [x] (spD K mg 1 F)) (hbind : ∀ (t : Shared) (u : Value), BindsTo t fd ⟨[u], []⟩ [(x, u)]) (hF : F [.scr ns] [] (fun c _ => c = .v (.bl true)) fun _ _ => False) :
    codeAny (model P w) callerA (.call (.ref fa) ⟨[.ref a], []⟩) (fun r t => r = .ok (.ret (.bool true)) ∧ OldK s.heap t.heap ∧ t.os = s.os ∧ AllBare t.gens) s := by
  have rv := vals_ints hi
  have lenV := hi.length
  -- a yes: the script is tracked
  obtain ⟨yes, hyes, hno⟩ : ∃ yes : Bool, (yes = true → K.lookup a = none) ∧ (yes = false → K.lookup a = some (scO vs)) := by
    cases e : K.lookup a with
    | none => exact ⟨true, fun _ => rfl, fun z => nomatch z⟩
    | some o =>
      have q := hk a o e
      rw [ha] at q
      cases q
      exact ⟨false, fun z => (nomatch z), fun _ => rfl⟩
  obtain ⟨H, eH⟩ : ∃ H : Hp, H = scH yes a vs ns := ⟨_, rfl⟩
  have some_of : ∀ {b : Addr} {u : HO}, H b = some u → yes = true ∧ b = a ∧ u = .frz (scO vs) (.lst (ns.map V.int)) := fun {b u} e => scH_some (eH ▸ e)
  have none_of : ∀ {b : Addr}, (yes = true → b ≠ a) → H b = none := fun h => by rw [eH]; exact scH_none h
  have hok : HOk P w H s.heap := fun b u e => by
    obtain ⟨_, rfl, rfl⟩ := some_of e
    exact ⟨ha, by rw [List.length_map]; exact hl, vs, _, rv, ha⟩
  have keepN : ∀ {b : Addr} {o : Obj}, s.heap.get? b = some o → (b = a → yes = false) → (hidT s.heap H).get? b = some o := fun e n => hidT_get e (none_of fun y z => by rw [n z] at y; cases y)
  have nsK : ∀ {b : Addr} {m : Str → Option Value}, s.heap.Ns b m → (hidT s.heap H).Ns b m := fun {b m} ⟨o, es, ep, e, d, r⟩ => by
    refine ⟨o, es, ep, keepN e fun z => ?_, d, r⟩
    subst z
    rw [ha] at e
    cases e
    have d' : Data.seq vs.toArray _ = Data.dict es ep := d
    cases d'
  have hkb : K.In (hidT s.heap H) := fun b o e => keepN (hk b o e) fun z => by
    subst z
    cases yes with
    | false => rfl
    | true => rw [hyes rfl] at e; cases e
  have md : Mod K mg (hidT s.heap H) := by
    obtain ⟨mc, h1, h2⟩ := hlim
    exact ⟨hkb, nsK hm, ⟨mb, nsK hbn, hbb⟩, ⟨mc, nsK h1, h2⟩⟩
  have e0 : Env0 P w K mg (hidT s.heap H) callerA [] s H := by
    refine ⟨rfl, md, fun b o e => of_hidT e, Nat.le_of_eq (hidT_size _ _), trivial, ?_, hok, .of_eq hg⟩
    intro b hb
    exact absurd (show b ∈ ([] : List Addr) from hb) (by simp)
  have sp : spD K mg 1 F [.ref a] H (fun v _ => v = .bl true) fun _ _ _ => False := by
    refine ⟨fun b => yes = true ∧ b = a, [], [.scr ns], [], _, _, rfl, ⟨rfl, List.nodup_nil, fun b hb => absurd hb (by simp), fun n b o h1 _ => by simp at h1, fun b hb => ?_⟩, .cons ?_ .nil, hF, fun c S' hc v H' L' ρ' _ _ cr => ?_, fun y S' hy => hy.elim⟩
    · obtain ⟨h1, rfl⟩ := hb
      subst h1
      exact ⟨_, by rw [eH]; exact scH_at⟩
    · cases yes with
      | true => exact .scrL ⟨rfl, rfl⟩ (.inr ⟨scO vs, by rw [eH]; exact scH_at⟩)
      | false => exact .scrK fun H' => .inr ⟨_, vs.toArray, _, hno rfl, rfl, rfl, rfl, by rw [List.size_toArray, lenV]; exact hl, by simpa using rv⟩
    · have hc' : c = .v (.bl true) := hc
      subst hc'
      cases cr
      rfl
  refine codeAny_mono ((FG _ hkb (nsK hm)).run callerA [] s H ⟨[.ref a], []⟩ [.ref a] [.ref a] _ _ hr rfl e0 (hbind s (.ref a)) (.cons rfl .nil) sp) fun r t q => ?_
  match r, q with
  | .error e, ⟨_, _, _, _, _, _, _, _, _, _, _, _, z⟩ => exact z.elim
  | .ok .next, q => exact q.elim
  | .ok .brk, q => exact q.elim
  | .ok .cont, q => exact q.elim
  | .ok (.ret u), ⟨v, H', os, bare, un, hok', rel, z⟩ =>
    have z' : v = .bl true := z
    subst z'
    have ru : u = Value.bool true := rel
    subst ru
    refine ⟨rfl, OldK.of_keep fun b o e => ?_, os, bare⟩
    cases eb : H b with
    | none => exact un.keep b o e eb (by intro q; exact absurd (show b ∈ ([] : List Addr) from q) (by simp)) (by simp)
    | some u =>
      obtain ⟨_, rfl, rfl⟩ := some_of eb
      obtain ⟨f1, _⟩ := hok _ _ eb
      obtain ⟨f2, _⟩ := hok' _ _ (un.frzs _ _ _ eb)
      rw [e] at f1
      cases f1
      exact f2
theorem walk_D {l : PySem.W.OpenLaw} {n k : Nat} {q : Program} {loose : List Str} {XP : (Str → Option Value) → Heap → Prop} {YP : World → Heap → Prop} {d : DefRec} {x : Str} (hn : l.most = some n) (hn2 : n ≤ sizeLine) (hdf : d.params.defaults = []) (hr : Room k callerA)
    (F : ∀ (w : World) (mg : Str → Option Value) (fa : Addr) (h : Heap), YP w h → h.Ns mainGlobals mg → mg d.name = some (.ref fa) → ∃ (K : PySem.W.Frag) (fd : FuncData) (Fs : FSpec), K.In h ∧ (∀ (s : Shared) (u : Value), BindsTo s fd ⟨[u], []⟩ [(x, u)]) ∧
      (∀ base : Heap, K.In base → base.Ns mainGlobals mg → FnG l.prog w K mg base k fa fd [x] (spD K mg 1 Fs)) ∧ ∀ ns : List Int, ns.length ≤ n → (∀ z ∈ ns, Builtin.Int.intBits z ≤ 1048576) → Fs [.scr ns] [] (fun c _ => c = .v (.bl true)) fun _ _ => False) :
    PySem.W.WalkO q loose XP YP l.row.toRowW d [] (fun f vs => PySem.call f vs) := by
  refine Att.attach_callB hn hdf ?_
  intro w s0 s1 mg mb fa o pm cd doc a vs ns G Y ho hd hcd hmg hobj hints hlen hbits hg
  obtain ⟨K, fd, Fs, KX, hb, hF, hs⟩ := F w mg fa _ Y G.T.g hmg
  exact law_callG KX G.T.g G.T.b G.T.builtins G.T.nolimit hg hobj hints (Nat.le_trans hlen hn2) hr hF hb (hs ns hlen hbits)
end DL
namespace DL
open PySem PySem.Spec PyProof.Rows L2 RZ
/-- a def of which nothing is promised yet -/
theorem cal_F {P : Program} {w : World} {K : PySem.W.Frag} {mg : Str → Option Value} {base : Heap} {x qual : Str} {st : Stmt} {f : Addr} {fd : FuncData} {ps : List Str} {k : Nat} {F : FSpec} (Fn : FunD K x qual (defArgs st) (defBody st) (defScope st) [] [] f fd) (gx : mg x = some (.ref f)) (bi : Binds K fd ps [])
    (hF : ∀ ds S Q X, ¬ F ds S Q X) : Cal P w K mg base k x ps F := by
  have no : ∀ vs H Q E, ¬ spD K mg ps.length F vs H Q E := fun vs H Q E h => by
    obtain ⟨L, ρ, ds, S, Qd, Xd, _, _, _, q, _⟩ := h
    exact hF _ _ _ _ q
  exact ⟨f, fd, gx, ⟨fun vs H Q E h => absurd h (no _ _ _ _), fun A o s H a us vs Q E _ _ _ _ _ h => absurd h (no _ _ _ _)⟩, Fn.kp, bi⟩
end DL
/-! DL16: more expressions. -/
namespace DL
open PySem PySem.Spec PyProof.Rows L2 RZ
section
variable {K : PySem.W.Frag} {mg : Str → Option Value} {W : WX} {H H' H0 H1 H2 H3 : Hp} {L L' L0 L1 LL : LP} {ρ ρ' ρ0 ρ1 ρ2 : List Addr} {σ σ' : Sg} {δ δ' : DEnv} {S S' : Store} {O : LP} {g : Gh} {D : Addr} {o : HO}
/-! list(range(..)), tuple(range(..)) -/
def rgOk (a b : Int) : Prop := -(2 ^ 62) ≤ a ∧ a < 2 ^ 62 ∧ -(2 ^ 62) ≤ b ∧ b < 2 ^ 62 ∧ (b - a).toNat ≤ 2 ^ 24
theorem rgV_ok {a b : Int} : VRs K H L ρ (rgV a b) (rngD a (b - a).toNat) := by
  unfold rgV rngD
  induction List.range (b - a).toNat with
  | nil => exact .nil
  | cons i is ih => exact .cons (.int _) ih
/-- how the bounds come -/
abbrev WpG := DEnv → Store → (Int → Int → Store → Prop) → XQ → Prop
def wG1 (wa : Wp) : WpG := fun δ S Q X => wV wa δ S (fun x S1 => ∃ j, x = .int j ∧ Q 0 j S1) X
def wG2 (wa wb : Wp) : WpG := fun δ S Q X => wV wa δ S (fun x S1 => wV wb δ S1 (fun y S2 => ∃ i j, x = .int i ∧ y = .int j ∧ Q i j S2) X) X
def SndG (K : PySem.W.Frag) (mg : Str → Option Value) (W : WX) (t : L2.St → Hp → (Int → Int → Hp → Prop) → Prop) (wg : WpG) : Prop :=
  ∀ g H L ρ σ δ S, Rep K g H L ρ σ δ S → ∀ Q Xq, wg δ S Q Xq → XOK K mg W g Xq → ∀ P : Int → Int → Hp → Prop, (∀ a b S', Q a b S' → ∀ H' L' ρ', Stp K H L ρ H' L' ρ' → Rep K g H' L' ρ' σ δ S' → P a b H') → t σ H P
theorem sndG_1 {ta : TE} {wa : Wp} (ha : Snd K mg W ta wa) : SndG K mg W (tRg1 ta) (wG1 wa) := by
  intro g H L ρ σ δ S rep Q Xq hw hx P hP
  refine ha.seq rep hw hx fun x S1 hq u H1 L1 ρ1 st1 rep1 ru => ?_
  obtain ⟨j, rfl, hq⟩ := hq
  exact ⟨j, ru.int_inv, hP 0 j S1 hq H1 L1 ρ1 st1 rep1⟩
def wLRg (wg : WpG) : Wp := fun δ S Q X => wg δ S (fun a b S1 => rgOk a b ∧ Q (.l (rngD a (b - a).toNat)) S1) X
def wTRg (wg : WpG) : Wp := fun δ S Q X => wg δ S (fun a b S1 => rgOk a b ∧ Q (.v (.tup (rngD a (b - a).toNat))) S1) X
theorem snd_lrg {t : L2.St → Hp → (Int → Int → Hp → Prop) → Prop} {wg : WpG} (h : SndG K mg W t wg) : Snd K mg W (tLstRg t) (wLRg wg) := by
  intro g H L ρ σ δ S rep Q Xq hw hx P hP
  refine h g H L ρ σ δ S rep _ Xq hw hx _ fun a b S1 hq H1 L1 ρ1 st1 rep1 => ?_
  exact ⟨hq.1, (rep1.fin st1 hP).lst rep1.ctx hq.2 rgV_ok⟩
end
section
variable {X : Cx} {W : WX} {k : Nat} {a b c e e2 : Expr} {pos p py p2 : Pos} {wa wb wc w : Wp} {x y z : Str}
def PGD (X : Cx) (W : WX) (e : Expr) (wg : WpG) : Prop := ∃ t, PRg X e t ∧ SndG X.K X.mg W t wg
theorem r_1 (hm : X.mg "range" = none) (ha : PED X W a wa) (hg : Gl X "range" := by rfl) (na : starEach [a] X.env = (false, eval a X.env) :: starEach [] X.env := by rfl) : PGD X W (.Call (.Name "range" p) [a] [] pos) (wG1 wa) := ⟨_, prg_1 hg hm ha na, sndG_1 snd_tD⟩
theorem e_lrg {wg : WpG} (bd : Bd X W k) (hm : X.mg "list" = none) (h : PGD X W e wg) (hg : Gl X "list" := by rfl) (na : starEach [e] X.env = (false, eval e X.env) :: starEach [] X.env := by rfl) : PED X W (.Call (.Name "list" p) [e] [] pos) (wLRg wg) :=
  let ⟨_, h1, h2⟩ := h; PE.toD (pe_listRg bd.calm hg hm h1 na) (snd_lrg h2)
end
end DL
/-! DL17: meanings, computed by simp. -/
namespace DL
open PySem PySem.Spec PyProof.Rows L2 RZ
section
variable {δ : DEnv} {S : Store} {Q : CQ} {X : XQ} {k : VQ} {w wa wb wc wi wo we wk wz wd : Wp} {wr : WpA} {wt wt2 : WpT} {i j l : Nat} {d e : Val} {f f' : F2} {f1 : F1} {fn : FN} {ft : FT} {q : Cell → Prop} {Dd : DEnds} {a b c ws : WpS} {m : Bool} {tg : Tg} {wit : WpI} {QT : Bool → Store → Prop} {QA : List Val → Store → Prop} {T : Nat → Prop}
@[simp] theorem fz_v : fz (.v d) = d := rfl
@[simp] theorem fz_l {xs : List Val} : fz (.l xs) = .lst xs := rfl
@[simp] theorem fz_m {xs : List (Key × Val)} : fz (.m xs) = .dct xs := rfl
@[simp ↓] theorem s_wV : wV w δ S k X = w δ S (fun c S' => k (fz c) S') X := rfl
@[simp ↓] theorem s_var : wVar i δ S Q X = (match δ[i]? with | some (some c) => Q (.v (fz c)) S | _ => False) := by
  unfold wVar
  cases δ[i]? with
  | none => simp
  | some u => cases u <;> simp
@[simp ↓] theorem s_c : wC d δ S Q X = Q (.v d) S := rfl
@[simp ↓] theorem s_w1 : w1 f1 wa δ S Q X = wa δ S (fun c S1 => f1 (fz c) S1 fun r => Q r S1) X := rfl
@[simp ↓] theorem s_w2 : w2 f wa wb δ S Q X = wa δ S (fun c S1 => wb δ S1 (fun c2 S2 => f (fz c) (fz c2) S2 fun r => Q r S2) X) X := rfl
@[simp ↓] theorem s_nil : wNil δ S QA X = QA [] S := rfl
@[simp ↓] theorem s_cons : wCons wa wr δ S QA X = wa δ S (fun c S1 => wr δ S1 (fun xs S2 => QA (fz c :: xs) S2) X) X := rfl
@[simp ↓] theorem s_wN : wN fn wr δ S Q X = wr δ S (fun xs S1 => fn xs S1 fun r => Q r S1) X := rfl
@[simp ↓] theorem s_call {F : FSpec} : wCall F wr δ S Q X = wr δ S (fun ds S1 => F ds S1 Q fun x S2 => X x δ S2) X := rfl
@[simp ↓] theorem s_tup : wTup wr δ S Q X = wr δ S (fun ds S1 => ds.length ≤ sizeLine ∧ Q (.v (.tup ds)) S1) X := rfl
@[simp ↓] theorem s_lst : wLst wr δ S Q X = wr δ S (fun ds S1 => ds.length ≤ sizeLine ∧ Q (.l ds) S1) X := rfl
@[simp ↓] theorem s_or : wOr wa wb δ S Q X = wa δ S (fun c S1 => match truV S1 (fz c) with | some true => Q (.v (fz c)) S1 | some false => wb δ S1 Q X | none => False) X := by
  unfold wOr wV
  congr 1; funext c S1; (try dsimp only)
  cases truV S1 (fz c) with
  | none => simp
  | some b => cases b <;> simp
@[simp ↓] theorem s_and : wAnd wa wb δ S Q X = wa δ S (fun c S1 => match truV S1 (fz c) with | some false => Q (.v (fz c)) S1 | some true => wb δ S1 Q X | none => False) X := by
  unfold wAnd wV
  congr 1; funext c S1; (try dsimp only)
  cases truV S1 (fz c) with
  | none => simp
  | some b => cases b <;> simp
@[simp ↓] theorem s_by1 {g : G1} : by1 g d S q = (match g S d with | some c => q c | none => False) := by
  unfold by1; cases g S d <;> simp
@[simp ↓] theorem s_by2 {g : G2} : by2 g d e S q = (match g S d e with | some c => q c | none => False) := by
  unfold by2; cases g S d e <;> simp
@[simp ↓] theorem s_byN {g : GN} {ds : List Val} : byN g ds S q = (match g S ds with | some c => q c | none => False) := by
  unfold byN; cases g S ds <;> simp
@[simp ↓] theorem s_byT {g : Store → Val → Option Bool} {q : Bool → Prop} : byT g d S q = (match g S d with | some c => q c | none => False) := by
  unfold byT; cases g S d <;> simp
@[simp ↓] theorem s_chain : wChain f f' wa wb wc δ S Q X = wa δ S (fun c1 S1 => wb δ S1 (fun c2 S2 => f (fz c1) (fz c2) S2 fun r => match r with | .v (.bl true) => wc δ S2 (fun c3 S3 => f' (fz c2) (fz c3) S3 fun c => Q c S3) X | .v (.bl false) => Q (.v (.bl false)) S2 | _ => False) X) X := by
  unfold wChain wV
  congr 1; funext c1 S1; (try dsimp only); congr 1; funext c2 S2; (try dsimp only); congr 1; funext r; (try dsimp only)
  cases r with
  | v d =>
    cases d with
    | bl b => cases b <;> simp
    | _ => simp
  | _ => simp
@[simp ↓] theorem s_tst : wTst w δ S QT X = w δ S (fun c S1 => match c with | .v (.bl k) => QT k S1 | _ => False) X := by
  unfold wTst
  congr 1; funext c S1; (try dsimp only)
  cases c with
  | v d => cases d <;> simp
  | _ => simp
@[simp ↓] theorem s_tru : wTru ft wa δ S QT X = wa δ S (fun c S1 => ft (fz c) S1 fun b => QT b S1) X := rfl
@[simp ↓] theorem s_andT : wAndT wt wt2 δ S QT X = wt δ S (fun b S1 => if b = true then wt2 δ S1 QT X else QT false S1) X := rfl
@[simp ↓] theorem s_orT : wOrT wt wt2 δ S QT X = wt δ S (fun b S1 => if b = true then QT true S1 else wt2 δ S1 QT X) X := rfl
@[simp ↓] theorem s_notT : wNotT wt δ S QT X = wt δ S (fun b S1 => QT (!b) S1) X := rfl
@[simp ↓] theorem s_yes : wYes δ S QT X = QT true S := rfl
@[simp ↓] theorem s_evT : wEv true w δ S Q X = w (mask δ) S Q X := rfl
@[simp ↓] theorem s_evF : wEv false w δ S Q X = w δ S (fun c S' => escC δ c = true ∧ Q c S') X := rfl
@[simp] theorem mask_nil : mask [] = [] := rfl
@[simp] theorem mask_v : mask (some (.v d) :: δ) = some (.v d) :: mask δ := rfl
@[simp] theorem mask_l {xs : List Val} : mask (some (.l xs) :: δ) = none :: mask δ := rfl
@[simp] theorem mask_m {xs : List (Key × Val)} : mask (some (.m xs) :: δ) = none :: mask δ := rfl
@[simp] theorem mask_n : mask (none :: δ) = none :: mask δ := rfl
@[simp] theorem escC_v : escC δ (.v d) = (noOwn δ || noL d) := rfl
@[simp] theorem escC_l {xs : List Val} : escC δ (.l xs) = (noOwn δ || noLs xs) := rfl
@[simp] theorem escC_m {xs : List (Key × Val)} : escC δ (.m xs) = (noOwn δ || noLs (xs.map (·.2))) := rfl
@[simp] theorem esc_eq : esc δ d = (noOwn δ || noL d) := rfl
@[simp] theorem noOwn_nil : noOwn [] = true := rfl
@[simp] theorem noOwn_v : noOwn (some (.v d) :: δ) = noOwn δ := rfl
@[simp] theorem noOwn_n : noOwn (none :: δ) = noOwn δ := rfl
@[simp] theorem noOwn_l {xs : List Val} : noOwn (some (.l xs) :: δ) = false := rfl
@[simp] theorem noOwn_m {xs : List (Key × Val)} : noOwn (some (.m xs) :: δ) = false := rfl
/-! statements -/
@[simp ↓] theorem q_seq : wsSeq (wsSeq a b) c Dd δ S X = wsSeq a (wsSeq b c) Dd δ S X := rfl
@[simp ↓] theorem q_next : wsSeq wsNext c Dd δ S X = c Dd δ S X := rfl
@[simp ↓] theorem q_set : wsSeq (wsSet m i w) c Dd δ S X = wEv m w δ S (fun r S1 => c Dd (δ.set i (some (.v (fz r)))) S1 X) X := rfl
@[simp ↓] theorem q_setO : wsSeq (wsSetO m i w) c Dd δ S X = wEv m w δ S (fun r S1 => r.owned = true ∧ c Dd (δ.set i (some r)) S1 X) X := rfl
@[simp ↓] theorem q_asg : wsSeq (wsAsg m tg w) c Dd δ S X = wEv m w δ S (fun r S1 => match tgSet tg (fz r) δ with | some δ' => c Dd δ' S1 X | none => False) X := by
  unfold wsSeq wsAsg
  congr 1; funext r S1; (try dsimp only)
  cases tgSet tg (fz r) δ <;> simp
@[simp ↓] theorem q_drop : wsSeq (wsDrop m w) c Dd δ S X = wEv m w δ S (fun r S1 => c Dd δ S1 X) X := rfl
@[simp ↓] theorem q_ret : wsSeq (wsRet w) c Dd δ S X = w δ S (fun r S1 => Dd.rt r S1) X := rfl
@[simp ↓] theorem q_retN : wsSeq wsRetN c Dd δ S X = Dd.rt (.v .non) S := rfl
@[simp ↓] theorem q_if : wsSeq (wsIf wt a b) c Dd δ S X = wt δ S (fun k S1 => if k = true then wsSeq a c Dd δ S1 X else wsSeq b c Dd δ S1 X) X := rfl
@[simp ↓] theorem q_break : wsSeq wsBreak c Dd δ S X = Dd.bk δ S := rfl
@[simp ↓] theorem q_cont : wsSeq wsCont c Dd δ S X = Dd.ct δ S := rfl
@[simp ↓] theorem q_append : wsSeq (wsAppend m i w) c Dd δ S X = (match δ[i]? with | some (some (.l ds)) => ds.length < sizeLine ∧ wEv m w δ S (fun r S1 => c Dd (δ.set i (some (.l (ds ++ [fz r])))) S1 X) X | _ => False) := by
  unfold wsSeq wsAppend
  cases δ[i]? with
  | none => simp
  | some u =>
    cases u with
    | none => simp
    | some u => cases u <;> simp
@[simp ↓] theorem s_append : wsAppend m i w Dd δ S X = (match δ[i]? with | some (some (.l ds)) => ds.length < sizeLine ∧ wEv m w δ S (fun r S1 => Dd.nx (δ.set i (some (.l (ds ++ [fz r])))) S1) X | _ => False) := by
  unfold wsAppend
  cases δ[i]? with
  | none => simp
  | some u =>
    cases u with
    | none => simp
    | some u => cases u <;> simp
@[simp ↓] theorem q_dput : wsSeq (wsDPut m i wk we) c Dd δ S X = wEv m we δ S (fun r S1 => match δ[i]? with | some (some (.m kvs)) => wk δ S1 (fun y S2 => match getKey (fz y) with | some kk => kvs.length < sizeLine ∧ c Dd (δ.set i (some (.m (dPut kvs kk (fz r))))) S2 X | none => False) X | _ => False) X := by
  unfold wsSeq wsDPut wV
  congr 1; funext r S1; (try dsimp only)
  cases δ[i]? with
  | none => simp
  | some u =>
    cases u with
    | none => simp
    | some u =>
      cases u with
      | m kvs =>
        apply propext
        refine ⟨fun ⟨kvs', e, h⟩ => ?_, fun h => ⟨kvs, rfl, ?_⟩⟩
        · cases e
          dsimp only at h ⊢
          refine (congrArg (fun K => wk δ S1 K X) ?_).mp h
          funext y S2; (try dsimp only)
          cases getKey (fz y) <;> simp
        · dsimp only at h ⊢
          refine (congrArg (fun K => wk δ S1 K X) ?_).mp h
          funext y S2; (try dsimp only)
          cases getKey (fz y) <;> simp
      | _ => simp
@[simp ↓] theorem q_stSet : wsSeq (wsStSet wo wi we) c Dd δ S X = we δ S (fun r S1 => wo δ S1 (fun x S2 => wi δ S2 (fun y S3 => match fz x, fz y with
    | .ref n, .int kk => (match S3[n]? with | some (.lst ds) => (match ixN ds.length kk with | some jj => noL (fz r) = true ∧ c Dd δ (S3.set n (.lst (ds.set jj (fz r)))) X | none => False) | none => False)
    | _, _ => False) X) X) X := by
  unfold wsSeq wsStSet wV
  congr 1; funext r S1; (try dsimp only); congr 1; funext x S2; (try dsimp only); congr 1; funext y S3; (try dsimp only)
  cases fz x <;> cases fz y <;> simp
  rename_i n kk
  cases S3[n]? with
  | none => simp
  | some o =>
    cases o with
    | lst ds =>
      simp
      cases ixN ds.length kk <;> simp
@[simp ↓] theorem q_stApp : wsSeq (wsStApp wo we) c Dd δ S X = wsStApp wo we { Dd with nx := fun δ1 S1 => c Dd δ1 S1 X } δ S X := rfl
@[simp ↓] theorem s_next : wsNext Dd δ S X = Dd.nx δ S := rfl
@[simp ↓] theorem s_set : wsSet m i w Dd δ S X = wEv m w δ S (fun r S1 => Dd.nx (δ.set i (some (.v (fz r)))) S1) X := rfl
@[simp ↓] theorem s_setO : wsSetO m i w Dd δ S X = wEv m w δ S (fun r S1 => r.owned = true ∧ Dd.nx (δ.set i (some r)) S1) X := rfl
@[simp ↓] theorem s_drop : wsDrop m w Dd δ S X = wEv m w δ S (fun r S1 => Dd.nx δ S1) X := rfl
@[simp ↓] theorem s_ret : wsRet w Dd δ S X = w δ S (fun r S1 => Dd.rt r S1) X := rfl
@[simp ↓] theorem s_retN : wsRetN Dd δ S X = Dd.rt (.v .non) S := rfl
@[simp ↓] theorem s_retO : wsRetO i Dd δ S X = (match δ[i]? with | some (some c) => c.owned = true ∧ Dd.rt c S | _ => False) := by
  unfold wsRetO
  cases δ[i]? with
  | none => simp
  | some u => cases u <;> simp
@[simp ↓] theorem s_ifS : wsIf wt a b Dd δ S X = wt δ S (fun k S1 => if k = true then a Dd δ S1 X else b Dd δ S1 X) X := rfl
@[simp ↓] theorem s_break : wsBreak Dd δ S X = Dd.bk δ S := rfl
@[simp ↓] theorem s_cont : wsCont Dd δ S X = Dd.ct δ S := rfl
@[simp ↓] theorem q_pop : wsSeq (wsPop i j) c Dd δ S X = wsPop i j { Dd with nx := fun δ1 S1 => c Dd δ1 S1 X } δ S X := rfl
@[simp ↓] theorem q_par2 : wsSeq (wsPar2 m i j wa wb) c Dd δ S X = wEv m wa δ S (fun c1 S1 => wEv m wb δ S1 (fun c2 S2 => c Dd ((δ.set i (some c1)).set j (some c2)) S2 X) X) X := rfl
@[simp ↓] theorem q_par3 : wsSeq (wsPar3 m i j l wa wb wc) c Dd δ S X = wEv m wa δ S (fun c1 S1 => wEv m wb δ S1 (fun c2 S2 => wEv m wc δ S2 (fun c3 S3 => c Dd (((δ.set i (some c1)).set j (some c2)).set l (some c3)) S3 X) X) X) X := rfl
@[simp ↓] theorem s_for : wsFor wit tg b Dd δ S X = wit (mask δ) S (fun items S1 => wsForGo tg b Dd X items δ S1) X := rfl
@[simp ↓] theorem q_for : wsSeq (wsFor wit tg b) c Dd δ S X = wit (mask δ) S (fun items S1 => wsForGo tg b { Dd with nx := fun δ1 S1 => c Dd δ1 S1 X } X items δ S1) X := rfl
@[simp ↓] theorem s_seqI {QL : List Val → Store → Prop} : wSeq w δ S QL X = w δ S (fun c S1 => match seqOf (fz c) with | some ds => QL ds S1 | none => False) X := by
  unfold wSeq wV
  congr 1; funext c S1; (try dsimp only)
  cases seqOf (fz c) <;> simp
@[simp ↓] theorem s_rng1 {QL : List Val → Store → Prop} : wRng1 wr δ S QL X = wr δ S (fun ds S1 => match ds with | [.int j] => inR j ∧ QL (rngD 0 j.toNat) S1 | _ => False) X := by
  unfold wRng1
  congr 1; funext ds S1; (try dsimp only)
  split
  · simp
  · rename_i h
    apply propext
    refine ⟨fun ⟨j, e, _⟩ => h j e, fun h => h.elim⟩
@[simp ↓] theorem s_rng2 {QL : List Val → Store → Prop} : wRng2 wr δ S QL X = wr δ S (fun ds S1 => match ds with | [.int i, .int j] => inR i ∧ inR j ∧ QL (rngD i (j - i).toNat) S1 | _ => False) X := by
  unfold wRng2
  congr 1; funext ds S1; (try dsimp only)
  split
  · apply propext
    constructor
    · rintro ⟨i, j, e, h⟩
      cases e
      exact h
    · exact fun h => ⟨_, _, rfl, h⟩
  · rename_i h
    apply propext
    refine ⟨fun ⟨i, j, e, _⟩ => h i j e, fun h => h.elim⟩
@[simp ↓] theorem s_share : wShare w δ S Q X = w δ S (fun c S1 => match c with | .l ds => noLs ds = true ∧ Q (.v (.ref S1.length)) (S1 ++ [.lst ds]) | _ => False) X := by
  unfold wShare
  congr 1; funext c S1; (try dsimp only)
  cases c <;> simp
@[simp ↓] theorem s_lrg {wg : WpG} : wLRg wg δ S Q X = wg δ S (fun a b S1 => rgOk a b ∧ Q (.l (rngD a (b - a).toNat)) S1) X := rfl
@[simp ↓] theorem s_g1 {QG : Int → Int → Store → Prop} : wG1 wa δ S QG X = wa δ S (fun c S1 => match fz c with | .int j => QG 0 j S1 | _ => False) X := by
  unfold wG1 wV
  congr 1; funext c S1; (try dsimp only)
  cases fz c <;> simp
theorem s_popAt : wPopAt wo wi δ S Q X = wo δ S (fun x S1 => match fz x with
    | .ref n => (match S1[n]? with
      | some (.lst _) => wi δ S1 (fun y S2 => match fz y, S2[n]? with
        | .int ii, some (.lst ds) => -(2 ^ 63) ≤ ii ∧ ii < 2 ^ 63 ∧ (match seqIndex? ii ds.length with | some kk => (match ds[kk]? with | some d => Q (.v d) (S2.set n (.lst (ds.eraseIdx kk))) | none => False) | none => False)
        | _, _ => False) X
      | none => False)
    | _ => False) X := by
  unfold wPopAt wV
  congr 1; funext x S1; (try dsimp only)
  cases fz x with
  | ref n =>
    cases e : S1[n]? with
    | none => simp [e]
    | some o =>
      cases o with
      | lst ds0 =>
        have h1 : (∃ n_1 ds0_1, Val.ref n = Val.ref n_1 ∧ S1[n_1]? = some (Obj1.lst ds0_1) ∧ wi δ S1 (fun c S' => ∃ ds i k d, fz c = .int i ∧ S'[n_1]? = some (.lst ds) ∧ -(2 ^ 63) ≤ i ∧ i < 2 ^ 63 ∧ seqIndex? i ds.length = some k ∧ ds[k]? = some d ∧ Q (.v d) (S'.set n_1 (.lst (ds.eraseIdx k)))) X) = wi δ S1 (fun c S' => ∃ ds i k d, fz c = .int i ∧ S'[n]? = some (.lst ds) ∧ -(2 ^ 63) ≤ i ∧ i < 2 ^ 63 ∧ seqIndex? i ds.length = some k ∧ ds[k]? = some d ∧ Q (.v d) (S'.set n (.lst (ds.eraseIdx k)))) X :=
          propext ⟨fun ⟨n1, d1, e1, e2, h⟩ => by cases e1; exact h, fun h => ⟨n, ds0, rfl, e, h⟩⟩
        refine h1.trans ?_
        simp only [e]
        refine congrArg (fun K => wi δ S1 K X) ?_
        funext y S2; (try dsimp only)
        cases S2[n]? with
        | none => cases fz y <;> simp
        | some o =>
          cases o with
          | lst ds =>
            cases fz y with
            | int ii =>
              apply propext
              constructor
              · rintro ⟨ds', i', k', d', e1, e2, h1, h2, h3, h4, h5⟩
                cases e1; cases e2
                refine ⟨h1, h2, ?_⟩
                rw [h3]; dsimp only; rw [h4]; exact h5
              · rintro ⟨h1, h2, h3⟩
                cases e3 : seqIndex? ii ds.length with
                | none => rw [e3] at h3; exact h3.elim
                | some kk =>
                  rw [e3] at h3; dsimp only at h3
                  cases e4 : ds[kk]? with
                  | none => rw [e4] at h3; exact h3.elim
                  | some d => rw [e4] at h3; exact ⟨ds, ii, kk, d, rfl, rfl, h1, h2, e3, e4, h3⟩
            | _ => simp
  | _ => simp
@[simp ↓] theorem s_dget : wDGet wd wk δ S Q X = wd δ S (fun x S1 => wk δ S1 (fun y S2 => match fz x, getKey (fz y) with
    | .dct kvs, some kk => (match dLook kvs kk with | some d => Q (.v d) S2 | none => False)
    | _, _ => False) X) X := by
  unfold wDGet wV
  congr 1; funext x S1; (try dsimp only); congr 1; funext y S2; (try dsimp only)
  cases fz x <;> cases getKey (fz y) <;> simp
  rename_i kvs kk
  cases dLook kvs kk <;> simp
@[simp ↓] theorem s_din {neg : Bool} : wDIn neg wk wd δ S Q X = wk δ S (fun y S1 => wd δ S1 (fun x S2 => match fz x, getKey (fz y) with
    | .dct kvs, some kk => Q (.v (.bl (neg != (dLook kvs kk).isSome))) S2
    | _, _ => False) X) X := by
  unfold wDIn wV
  congr 1; funext y S1; (try dsimp only); congr 1; funext x S2; (try dsimp only)
  cases fz x <;> cases getKey (fz y) <;> simp
@[simp ↓] theorem s_dget1 : wDGet1 wd wk δ S Q X = wd δ S (fun x S1 => match fz x with
    | .dct kvs => wk δ S1 (fun y S2 => match getKey (fz y) with | some kk => Q (.v ((dLook kvs kk).getD .non)) S2 | none => False) X
    | _ => False) X := by
  unfold wDGet1 wV
  congr 1; funext x S1; (try dsimp only)
  cases fz x <;> simp only [reduceCtorEq, false_and, exists_const, Val.dct.injEq, exists_eq_left']
  refine congrArg (fun K => wk δ S1 K X) ?_
  funext y S2; (try dsimp only)
  cases getKey (fz y) <;> simp
@[simp ↓] theorem s_dget2 : wDGet2 wd wk wz δ S Q X = wd δ S (fun x S1 => match fz x with
    | .dct kvs => wk δ S1 (fun y S2 => wz δ S2 (fun z S3 => match getKey (fz y) with | some kk => Q (.v ((dLook kvs kk).getD (fz z))) S3 | none => False) X) X
    | _ => False) X := by
  unfold wDGet2 wV
  congr 1; funext x S1; (try dsimp only)
  cases fz x <;> simp only [reduceCtorEq, false_and, exists_const, Val.dct.injEq, exists_eq_left']
  refine congrArg (fun K => wk δ S1 K X) ?_
  funext y S2; (try dsimp only)
  refine congrArg (fun K => wz δ S2 K X) ?_
  funext z S3; (try dsimp only)
  cases getKey (fz y) <;> simp
@[simp ↓] theorem s_dnew : wDNew δ S Q X = Q (.m []) S := rfl
@[simp ↓] theorem s_disp1 : wDisp [(wk, we)] δ S Q X = wk δ S (fun x S1 => we δ S1 (fun y S2 => match getKey (fz x) with | some kk => Q (.m [(kk, fz y)]) S2 | none => False) X) X := by
  unfold wDisp
  simp only [wPairs, wV]
  congr 1; funext x S1; (try dsimp only)
  congr 1; funext y S2; (try dsimp only)
  simp only [keysOf]
  cases getKey (fz x) <;> simp [mergeD, dPut]
end
end DL
/-! DL18: operations on data, computed by simp; typed mirrors. -/
namespace DL
open PySem PySem.Spec PyProof.Rows L2 RZ
theorem szl {n : Nat} (h : n ≤ 16777216) : n ≤ sizeLine := by rw [sizeLine_eq]; exact h
theorem szl' {n : Nat} (h : n < 16777216) : n < sizeLine := by rw [sizeLine_eq]; exact h
section
variable {S : Store} {i j : Int} {a b : List Val} {s t : Str} {d e : Val} {ns ms : List Int}
@[simp] theorem o_add_i : gAdd S (.int i) (.int j) = some (.v (.int (i + j))) := rfl
@[simp] theorem o_add_s (h : s.length + t.length ≤ sizeLine) : gAdd S (.str s) (.str t) = some (.v (.str (s ++ t))) := if_pos h
@[simp] theorem o_add_t (h : a.length + b.length ≤ sizeLine) : gAdd S (.tup a) (.tup b) = some (.v (.tup (a ++ b))) := if_pos h
@[simp] theorem o_add_l (h : a.length + b.length ≤ sizeLine) : gAdd S (.lst a) (.lst b) = some (.l (a ++ b)) := if_pos h
@[simp] theorem o_sub : gSub S (.int i) (.int j) = some (.v (.int (i - j))) := by simp [gSub, gI2]
@[simp] theorem o_mul (h : CMulW i j) : gMul S (.int i) (.int j) = some (.v (.int (i * j))) := if_pos h
@[simp] theorem o_mod (h : 0 < j) : gMod S (.int i) (.int j) = some (.v (.int (i % j))) := if_pos h
@[simp] theorem o_fdv (h : CDivW i j) : gFdv S (.int i) (.int j) = some (.v (.int (i / j))) := if_pos h
@[simp] theorem o_pow (h : CPow i j) : gPow S (.int i) (.int j) = some (.v (.int (i ^ j.toNat))) := if_pos h
@[simp] theorem o_lt : gLt S (.int i) (.int j) = some (.v (.bl (decide (i < j)))) := rfl
@[simp] theorem o_le : gLe S (.int i) (.int j) = some (.v (.bl (decide (i ≤ j)))) := rfl
@[simp] theorem o_gt : gGt S (.int i) (.int j) = some (.v (.bl (decide (j < i)))) := rfl
@[simp] theorem o_ge : gGe S (.int i) (.int j) = some (.v (.bl (decide (j ≤ i)))) := rfl
@[simp] theorem o_neg : gNeg S (.int i) = some (.v (.int (-i))) := rfl
@[simp] theorem o_is_nn : gIs false S .non .non = some (.v (.bl true)) := rfl
@[simp] theorem o_is_in : gIs false S (.int i) .non = some (.v (.bl false)) := rfl
@[simp] theorem o_is_tn : gIs false S (.tup a) .non = some (.v (.bl false)) := rfl
@[simp] theorem o_is_sn : gIs false S (.str s) .non = some (.v (.bl false)) := rfl
@[simp] theorem o_is_bn {c : Bool} : gIs false S (.bl c) .non = some (.v (.bl false)) := rfl
/-! equality -/
@[simp] theorem isPys_ints : isPys (ns.map Val.int) = true := by induction ns with | nil => rfl | cons n ns ih => simp [isPys, isPy, ih]
@[simp] theorem deps_ints : deps (ns.map Val.int) = 0 := by induction ns with | nil => rfl | cons n ns ih => simp [deps, dep, ih]
@[simp] theorem noLs_ints : noLs (ns.map Val.int) = true := by induction ns with | nil => rfl | cons n ns ih => simp [noLs, noL, ih]
theorem eqvAll_ints : ∀ ns ms : List Int, PyData.eqvAll (toPys (ns.map Val.int)) (toPys (ms.map Val.int)) = decide (ns = ms)
  | [], [] => by simp [toPys, PyData.eqvAll]
  | [], _ :: _ => by simp [toPys, PyData.eqvAll]
  | _ :: _, [] => by simp [toPys, PyData.eqvAll]
  | n :: ns, m :: ms => by
    simp only [List.map_cons, toPys, PyData.eqvAll, eqvAll_ints ns ms, toPy, PyData.eqv, List.cons.injEq]
    by_cases h : n = m <;> simp [h]
@[simp] theorem o_eq_i : gEq S (.int i) (.int j) = some (.v (.bl (decide (i = j)))) := by
  simp only [gEq, drf, shp, isPy, dep, veq, toPy, PyData.eqv]
  by_cases h : i = j <;> simp [h]
@[simp] theorem o_ne_i : gNe S (.int i) (.int j) = some (.v (.bl (decide (i ≠ j)))) := by
  simp only [gNe, drf, shp, isPy, dep, veq, toPy, PyData.eqv]
  by_cases h : i = j <;> simp [h]
@[simp] theorem o_ne_li : gNe S (.lst (ns.map Val.int)) (.lst (ms.map Val.int)) = some (.v (.bl (decide (ns ≠ ms)))) := by
  simp only [gNe, drf, shp, isPy, dep, veq, toPy, PyData.eqv, isPys_ints, deps_ints, eqvAll_ints]
  by_cases h : ns = ms <;> simp [h]
@[simp] theorem o_ne_l0 : gNe S (.lst (ns.map Val.int)) (.lst []) = some (.v (.bl (decide (ns ≠ [])))) := o_ne_li (ms := [])
@[simp] theorem o_ne_00 : gNe S (.lst []) (.lst []) = some (.v (.bl false)) := by have := @o_ne_li S [] []; simpa using this
theorem o_ne_r {n : Nat} {ds : List Val} (h : S[n]? = some (.lst ds)) : gNe S (.ref n) (.lst b) = gNe S (.lst ds) (.lst b) := by
  have e : drf S (.ref n) = drf S (.lst ds) := by simp [drf, h]
  unfold gNe
  dsimp only
  rw [e]
@[simp] theorem o_eq_ss : gEq S (.str s) (.str t) = some (.v (.bl (decide (s = t)))) := rfl
@[simp] theorem o_ne_ss : gNe S (.str s) (.str t) = some (.v (.bl (!decide (s = t)))) := rfl
/-! subscripts, lengths -/
@[simp] theorem o_ix_t : gIx S (.tup a) (.int i) = (L2.atI a i).map .v := by
  simp only [gIx, DL.sq]
@[simp] theorem o_ix_l : gIx S (.lst a) (.int i) = (L2.atI a i).map .v := by
  simp only [gIx, DL.sq]
theorem o_ix_r {n : Nat} {ds : List Val} (h : S[n]? = some (.lst ds)) : gIx S (.ref n) (.int i) = (L2.atI ds i).map .v := by
  simp only [gIx, DL.sq, h]
@[simp] theorem o_len_t : gLen S [.tup a] = some (.v (.int (a.length : Nat))) := rfl
@[simp] theorem o_len_l : gLen S [.lst a] = some (.v (.int (a.length : Nat))) := rfl
theorem o_len_r {n : Nat} {ds : List Val} (h : S[n]? = some (.lst ds)) : gLen S [.ref n] = some (.v (.int (ds.length : Nat))) := by
  simp only [gLen, lenV, DL.sq, h]; rfl
@[simp] theorem o_tup_t : gTuple S [.tup a] = some (.v (.tup a)) := rfl
@[simp] theorem o_tup_l : gTuple S [.lst a] = some (.v (.tup a)) := rfl
@[simp] theorem o_lst_t : gList S [.tup a] = some (.l a) := rfl
@[simp] theorem o_lst_l : gList S [.lst a] = some (.l a) := rfl
@[simp] theorem o_abs : gAbs S [.int i] = some (.v (.int (if i < 0 then -i else i))) := rfl
@[simp] theorem o_min : gMin2 S [.int i, .int j] = some (.v (.int (if j < i then j else i))) := rfl
@[simp] theorem o_max : gMax2 S [.int i, .int j] = some (.v (.int (if j > i then j else i))) := rfl
@[simp] theorem o_sort_li : gSorted S [.lst (ns.map Val.int)] = some (.l ((sortI ns).map Val.int)) := by
  simp [gSorted, lsq, DL.sq, sortOf, intsOf_map]
theorem o_sort_lp {ps : List (Int × Int)} (h1 : ps.length < 64) (h2 : ∀ p ∈ ps, 0 ≤ p.1 ∧ 0 ≤ p.2) : gSorted S [.lst (ps.map prV)] = some (.l ((sortP ps).map prV)) := by
  cases ps with
  | nil => simp [gSorted, lsq, DL.sq, sortOf, intsOf, sortI, sortP]
  | cons p ps =>
    have e : intsOf ((p :: ps).map prV) = none := rfl
    have e2 : ((p :: ps).all fun p => decide (0 ≤ p.1) && decide (0 ≤ p.2)) = true := List.all_eq_true.mpr fun q hq => by
      have := h2 q hq
      simp [this]
    simp only [gSorted, lsq, DL.sq, sortOf, Option.bind_some, e, prsOf_map, if_pos (And.intro h1 e2)]; rfl
theorem atN {α : Type} {xs : List α} {n : Nat} {x : α} (h : xs[n]? = some x) : L2.atI xs ((n : Nat) : Int) = some x := by
  have hn := (List.getElem?_eq_some_iff.mp h).1
  unfold L2.atI L2.ixN
  rw [if_pos (by omega), if_pos (by omega)]
  simpa using h
theorem at0 {α : Type} {x : α} {xs : List α} : L2.atI (x :: xs) 0 = some x := atN (n := 0) rfl
theorem at1 {α : Type} {x y : α} {xs : List α} : L2.atI (x :: y :: xs) 1 = some y := atN (n := 1) rfl
theorem at2 {α : Type} {x y z : α} {xs : List α} : L2.atI (x :: y :: z :: xs) 2 = some z := atN (n := 2) rfl
theorem atI' {α : Type} {xs : List α} {i : Int} {x : α} (h0 : 0 ≤ i) (h : xs[i.toNat]? = some x) : L2.atI xs i = some x := by
  have := atN h
  rwa [Int.toNat_of_nonneg h0] at this
@[simp] theorem truV_bl {c : Bool} : truV S (.bl c) = some c := rfl
@[simp] theorem truV_int : truV S (.int i) = some (i != 0) := rfl
@[simp] theorem truV_lst : truV S (.lst a) = some (!a.isEmpty) := rfl
@[simp] theorem truV_tup : truV S (.tup a) = some (!a.isEmpty) := rfl
@[simp] theorem truV_non : truV S .non = some false := rfl
@[simp] theorem truV_dct {kvs : List (Key × Val)} : truV S (.dct kvs) = some (!kvs.isEmpty) := rfl
@[simp] theorem gNot_bl {c : Bool} : gNot S (.bl c) = some (.v (.bl (!c))) := rfl
@[simp] theorem getKey_i : getKey (.int i) = some (.inl i) := rfl
@[simp] theorem getKey_s : getKey (.str s) = some (.inr s) := rfl
@[simp] theorem seqOf_t : seqOf (.tup a) = some a := rfl
@[simp] theorem seqOf_l : seqOf (.lst a) = some a := rfl
@[simp] theorem seqOf_s : seqOf (.scr ns) = some (ns.map Val.int) := rfl
@[simp] theorem wipe_0 {δ : DEnv} : wipeD δ [] = δ := rfl
@[simp] theorem wipe_s {δ : DEnv} {v : Nat} {vs : List Nat} : wipeD δ (v :: vs) = (wipeD δ vs).set v none := rfl
@[simp ↓] theorem s_lc {δ : DEnv} {Q : CQ} {X : XQ} {wi : WpI} {tg : Tg} {wt : WpT} {we : Wp} {vs : List Nat} : wLc wi tg wt we vs δ S Q X = wi δ S (fun items S1 => wLcGo tg wt we vs δ items [] S1 fun ds S2 => Q (.l ds) S2) X := rfl
/-! typed mirrors -/
abbrev iv (ns : List Int) : List Val := ns.map Val.int
/-- a house: rooms, doors -/
def hv (n : Int) (D : List (Int × Int)) : Val := .tup [.int n, .tup (D.map prV)]
@[simp] theorem prV_eq (p : Int × Int) : prV p = .tup [.int p.1, .int p.2] := rfl
end
/-- a comprehension that keeps and makes by pure functions -/
theorem lc_pure {α β : Type} (ι : α → Val) (o : β → Val) (keep : α → Bool) (mk : α → β) {tg : Tg} {wt : WpT} {we : Wp} {vs : List Nat} {δ : DEnv} (S : Store) {Q : List Val → Store → Prop}
    (step : ∀ x : α, esc δ (ι x) = true ∧ ∃ δ2, tgSet tg (ι x) (wipeD δ vs) = some δ2 ∧ (∀ QT : Bool → Store → Prop, QT (keep x) S → wt δ2 S QT XF) ∧ (keep x = true → ∀ Qc : CQ, Qc (.v (o (mk x))) S → we δ2 S Qc XF)) :
    ∀ (xs : List α) (acc : List β), acc.length + xs.length ≤ sizeLine → Q ((acc ++ (xs.filter keep).map mk).map o) S → wLcGo tg wt we vs δ (xs.map ι) (acc.map o) S Q
  | [], acc, _, h => by simpa [wLcGo] using h
  | x :: xs, acc, hl, h => by
    obtain ⟨h1, δ2, h2, h3, h4⟩ := step x
    rw [List.length_cons] at hl
    refine ⟨h1, δ2, h2, h3 _ ?_⟩
    by_cases hk : keep x = true
    · rw [if_pos hk]
      refine h4 hk _ ?_
      refine ⟨by rw [List.length_map]; omega, ?_⟩
      have e : acc.map o ++ [fz (.v (o (mk x)))] = (acc ++ [mk x]).map o := by simp
      rw [e]
      refine lc_pure ι o keep mk S step xs (acc ++ [mk x]) (by rw [List.length_append, List.length_singleton]; omega) ?_
      simpa [hk] using h
    · rw [if_neg hk]
      refine lc_pure ι o keep mk S step xs acc (by omega) ?_
      simpa [hk] using h
/-- the same, each item by itself -/
theorem lc_pureM {α β : Type} (ι : α → Val) (o : β → Val) (keep : α → Bool) (mk : α → β) {tg : Tg} {wt : WpT} {we : Wp} {vs : List Nat} {δ : DEnv} (S : Store) {Q : List Val → Store → Prop} :
    ∀ (xs : List α), (∀ x ∈ xs, esc δ (ι x) = true ∧ ∃ δ2, tgSet tg (ι x) (wipeD δ vs) = some δ2 ∧ (∀ QT : Bool → Store → Prop, QT (keep x) S → wt δ2 S QT XF) ∧ (keep x = true → ∀ Qc : CQ, Qc (.v (o (mk x))) S → we δ2 S Qc XF)) →
    ∀ (acc : List β), acc.length + xs.length ≤ sizeLine → Q ((acc ++ (xs.filter keep).map mk).map o) S → wLcGo tg wt we vs δ (xs.map ι) (acc.map o) S Q
  | [], _, acc, _, h => by simpa [wLcGo] using h
  | x :: xs, step, acc, hl, h => by
    obtain ⟨h1, δ2, h2, h3, h4⟩ := step x (List.mem_cons_self ..)
    have step' := fun y hy => step y (List.mem_cons_of_mem _ hy)
    rw [List.length_cons] at hl
    refine ⟨h1, δ2, h2, h3 _ ?_⟩
    by_cases hk : keep x = true
    · rw [if_pos hk]
      refine h4 hk _ ?_
      refine ⟨by rw [List.length_map]; omega, ?_⟩
      have e : acc.map o ++ [fz (.v (o (mk x)))] = (acc ++ [mk x]).map o := by simp
      rw [e]
      refine lc_pureM ι o keep mk S xs step' (acc ++ [mk x]) (by rw [List.length_append, List.length_singleton]; omega) ?_
      simpa [hk] using h
    · rw [if_neg hk]
      refine lc_pureM ι o keep mk S xs step' acc (by omega) ?_
      simpa [hk] using h
theorem o_ixr {S : Store} {n : Nat} {i : Int} : gIx S (.ref n) (.int i) = (match S[n]? with | some (.lst ds) => (L2.atI ds i).map .v | none => none) := by
  cases e : S[n]? with
  | none => simp [gIx, DL.sq, e]
  | some o => cases o with | lst ds => exact o_ix_r e
theorem o_nr {S : Store} {n : Nat} {b : List Val} : gNe S (.ref n) (.lst b) = (match S[n]? with | some (.lst ds) => gNe S (.lst ds) (.lst b) | none => none) := by
  cases e : S[n]? with
  | none => simp [gNe, drf, e, shp, isPy]
  | some o => cases o with | lst ds => exact o_ne_r e
theorem o_lenr {S : Store} {n : Nat} : gLen S [.ref n] = (match S[n]? with | some (.lst ds) => some (.v (.int (ds.length : Nat))) | none => none) := by
  cases e : S[n]? with
  | none => simp [gLen, lenV, DL.sq, e]
  | some o => cases o with | lst ds => exact o_len_r e
theorem cmw {i j : Int} (h1 : i.natAbs < 2 ^ 100) (h2 : j.natAbs < 2 ^ 100) : CMulW i j := by
  have f : ∀ x : Nat, x < 2 ^ 100 → x.log2 < 101 := fun x hx => by
    by_cases e : x = 0
    · subst e; decide
    · exact Nat.lt_succ_of_lt ((Nat.log2_lt e).mpr hx)
  have a := f _ h1
  have b := f _ h2
  show _ < _
  omega
theorem cdw {i j : Int} (h0 : 0 < j) (h1 : j < 2 ^ 64) : CDivW i j := by
  refine ⟨h0, ?_⟩
  have : j.natAbs.log2 < 64 := (Nat.log2_lt (by omega)).mpr (by omega)
  omega
theorem rngD_iv (lo : Int) (n : Nat) : rngD lo n = iv ((List.range n).map fun i : Nat => lo + (i : Int)) := by
  simp [rngD, List.map_map, Function.comp_def]
@[simp ↓] theorem s_zip {wr : WpA} {δ : DEnv} {S : Store} {X : XQ} {QL : List Val → Store → Prop} : wZip wr δ S QL X = wr δ S (fun ds S1 => match ds with
    | [x, y] => (match seqK x, seqK y with | some (b, as), some (b', bs) => b = b' ∧ QL (zipD as bs) S1 | _, _ => False)
    | _ => False) X := by
  unfold wZip
  congr 1; funext ds S1; (try dsimp only)
  split
  · rename_i x y
    apply propext
    constructor
    · rintro ⟨x', y', b, as, bs, e, h1, h2, h⟩
      cases e
      rw [h1, h2]
      exact ⟨rfl, h⟩
    · intro h
      cases e1 : seqK x with
      | none => simp [e1] at h
      | some p =>
        cases e2 : seqK y with
        | none => simp [e1, e2] at h
        | some q =>
          obtain ⟨b, as⟩ := p
          obtain ⟨b', bs⟩ := q
          rw [e1, e2] at h
          obtain ⟨rfl, h⟩ := h
          exact ⟨x, y, b, as, bs, rfl, e1, e2, h⟩
  · rename_i h
    apply propext
    exact ⟨fun ⟨x, y, _, _, _, e, _⟩ => h x y e, fun z => z.elim⟩
@[simp] theorem seqK_t {a : List Val} : seqK (.tup a) = some (true, a) := rfl
@[simp] theorem seqK_l {a : List Val} : seqK (.lst a) = some (false, a) := rfl
@[simp] theorem gAll_bl {S : Store} {bs : List Bool} : gAll S [.lst (bs.map Val.bl)] = some (.v (.bl (bs.all id))) := by
  simp [gAll, gAllAny, lsq, DL.sq, blsOf_map]
@[simp] theorem ix32 : L2.ixN 3 2 = some 2 := rfl
@[simp] theorem ix31 : L2.ixN 3 1 = some 1 := rfl
@[simp] theorem ixS0 {n : Nat} : L2.ixN (n + 1) 0 = some 0 := by
  unfold L2.ixN
  rw [if_pos (by omega), if_pos (by omega)]; rfl
@[simp] theorem o_ne_c {S : Store} {r : Int} {b : List Int} : gNe S (.lst (.int r :: b.map Val.int)) (.lst []) = some (.v (.bl true)) := by
  have := @o_ne_li S (r :: b) []
  simpa using this
theorem mod_small {i j : Int} (h : 0 < j) (h2 : j < 2 ^ 99) : (i % j).natAbs < 2 ^ 100 := by
  have h1 := Int.emod_nonneg i (by omega : j ≠ 0)
  have h3 := Int.emod_lt_of_pos i h
  omega
@[simp] theorem seq0 {n : Nat} : seqIndex? 0 (n + 1) = some 0 := by simp [seqIndex?]
@[simp] theorem filtT {α : Type} (l : List α) : (l.filter fun _ => true) = l := List.filter_eq_self.mpr fun _ _ => rfl
end DL
/-! DL19: slices, join, int, dict. -/
namespace DL
open PySem PySem.Spec PyProof.Rows L2 RZ
section
variable {K : PySem.W.Frag} {mg : Str → Option Value} {W : WX} {H H' H0 H1 H2 H3 : Hp} {L L' L0 L1 LL : LP} {ρ ρ' ρ0 ρ1 ρ2 : List Addr} {σ σ' : Sg} {δ δ' : DEnv} {S S' : Store} {O : LP} {g : Gh} {D : Addr} {o : HO}
/-! ### slices -/
abbrev WpO := DEnv → Store → (Option Int → Store → Prop) → XQ → Prop
def wNo : WpO := fun _ S Q _ => Q none S
def wSo (w : Wp) : WpO := fun δ S Q X => wV w δ S (fun x S1 => ∃ i, x = .int i ∧ Q (some i) S1) X
def SndO (K : PySem.W.Frag) (mg : Str → Option Value) (W : WX) (t : TO) (wo : WpO) : Prop :=
  ∀ g H L ρ σ δ S, Rep K g H L ρ σ δ S → ∀ Q Xq, wo δ S Q Xq → XOK K mg W g Xq → ∀ P : Option Int → Hp → Prop, (∀ a S', Q a S' → ∀ H' L' ρ', Stp K H L ρ H' L' ρ' → Rep K g H' L' ρ' σ δ S' → P a H') → t σ H P
theorem sndO_no : SndO K mg W tNoPart wNo := fun g H L ρ σ δ S rep Q Xq hq _ P hP => hP none S hq H L ρ .refl rep
theorem sndO_so {t : TE} {w : Wp} (h : Snd K mg W t w) : SndO K mg W (tPart t) (wSo w) := by
  intro g H L ρ σ δ S rep Q Xq hw hx P hP
  refine h.seq rep hw hx fun x S1 hq u H1 L1 ρ1 st1 rep1 ru => ?_
  obtain ⟨i, rfl, hq⟩ := hq
  exact ⟨i, ru.int_inv, hP _ S1 hq H1 L1 ρ1 st1 rep1⟩
def wSl (we : Wp) (wl wh : WpO) : Wp := fun δ S Q X => wV we δ S (fun x S1 => wl δ S1 (fun lo S2 => wh δ S2 (fun hi S3 => ∃ c, gSl lo hi S3 x = some c ∧ Q c S3) X) X) X
theorem snd_sl {te : TE} {tl th : TO} {we : Wp} {wl wh : WpO} (he : Snd K mg W te we) (hl : SndO K mg W tl wl) (hh : SndO K mg W th wh) : Snd K mg W (tSl (rDS K fun lo hi => by1 (gSl lo hi)) te tl th) (wSl we wl wh) := by
  intro g H L ρ σ δ S rep Q Xq hw hx P hP
  refine he.seq rep hw hx fun x S1 hq u H1 L1 ρ1 st1 rep1 ru => ?_
  refine hl g H1 L1 ρ1 σ δ S1 rep1 _ Xq hq hx _ fun lo S2 hq H2 L2 ρ2 st2 rep2 => ?_
  refine hh g H2 L2 ρ2 σ δ S2 rep2 _ Xq hq hx _ fun hi S3 hq H3 L3 ρ3 st3 rep3 => ?_
  obtain ⟨c, e, hq⟩ := hq
  exact ⟨L3, ρ3, own σ δ, S3, x, fun c => Q c S3, rep3.ctx, (ru.later rep1 st2).later rep2 st3, ⟨c, e, hq⟩, rep3.fin ((st1.trans st2).trans st3) hP⟩
/-! ### join -/
def gJoin : Val → Val → Option Cell := fun x y => match x, y with
  | .str a, .lst ds => (strsOf ds).bind fun ys => if (ys.map (·.length)).sum + ys.length * a.length ≤ 16777216 then some (.v (.str (Txt.join a ys))) else none
  | .str a, .tup ds => (strsOf ds).bind fun ys => if (ys.map (·.length)).sum + ys.length * a.length ≤ 16777216 then some (.v (.str (Txt.join a ys))) else none
  | _, _ => none
def wJoin (wo we : Wp) : Wp := fun δ S Q X => wV wo δ S (fun x S1 => ∃ a, x = .str a ∧ wV we δ S1 (fun y S2 => ∃ c, gJoin x y = some c ∧ Q c S2) X) X
end
section
variable {X : Cx} {W : WX} {k : Nat} {a b c e e2 : Expr} {pos p py p2 : Pos} {wa wb wc w : Wp} {lo hi : Option Expr} {wl wh : WpO}
def POD (X : Cx) (W : WX) (e : Option Expr) (w : WpO) : Prop := ∃ t, PO X e t ∧ SndO X.K X.mg W t w
theorem o_no : POD X W none wNo := ⟨_, po_none, sndO_no⟩
theorem o_so (h : PED X W e w) : POD X W (some e) (wSo w) := ⟨_, po_some h, sndO_so snd_tD⟩
theorem e_sl (ha : PED X W a wa) (hl : POD X W lo wl) (hh : POD X W hi wh) : PED X W (.Subscript a (.Slice lo hi none p2) pos) (wSl wa wl wh) := by
  obtain ⟨tl, l1, l2⟩ := hl
  obtain ⟨th, h1, h2⟩ := hh
  exact PE.toD (pe_slice sr_sl ha l1 h1) (snd_sl snd_tD l2 h2)
end
/-! code that is never come to -/
def wsNever : WpS := fun _ _ _ _ => False
/-! computing -/
section
variable {δ : DEnv} {S : Store} {Q : CQ} {X : XQ} {w wa wb we wo : Wp} {wl wh : WpO} {QO : Option Int → Store → Prop} {Dd : DEnds} {c : WpS} {i : Int} {a : List Val} {s t : Str} {xs : List Str}
@[simp ↓] theorem s_never : wsNever Dd δ S X = False := rfl
@[simp ↓] theorem q_never : wsSeq wsNever c Dd δ S X = False := rfl
@[simp ↓] theorem s_no : wNo δ S QO X = QO none S := rfl
@[simp ↓] theorem s_so : wSo w δ S QO X = w δ S (fun r S1 => match fz r with | .int i => QO (some i) S1 | _ => False) X := by
  unfold wSo wV
  congr 1; funext r S1; (try dsimp only)
  cases fz r <;> simp
@[simp ↓] theorem s_sl : wSl we wl wh δ S Q X = we δ S (fun r S1 => wl δ S1 (fun lo S2 => wh δ S2 (fun hi S3 => match gSl lo hi S3 (fz r) with | some c => Q c S3 | none => False) X) X) X := by
  unfold wSl wV
  congr 1; funext r S1; (try dsimp only)
  congr 1; funext lo S2; (try dsimp only)
  congr 1; funext hi S3; (try dsimp only)
  cases gSl lo hi S3 (fz r) <;> simp
@[simp ↓] theorem s_join : wJoin wo we δ S Q X = wo δ S (fun x S1 => match fz x with | .str a => we δ S1 (fun y S2 => match gJoin (.str a) (fz y) with | some c => Q c S2 | none => False) X | _ => False) X := by
  unfold wJoin wV
  congr 1; funext x S1; (try dsimp only)
  cases fz x <;> simp only [reduceCtorEq, false_and, exists_const, Val.str.injEq, exists_eq_left']
  refine congrArg (fun K => we δ S1 K X) ?_
  funext y S2
  cases gJoin (Val.str _) (fz y) <;> simp
@[simp] theorem o_sl_t {lo hi : Option Int} : gSl lo hi S (.tup a) = some (.v (.tup (cutD a lo hi))) := rfl
@[simp] theorem o_sl_l {lo hi : Option Int} : gSl lo hi S (.lst a) = some (.l (cutD a lo hi)) := rfl
end
end DL
/-! DL20: list.index, the signs of a text, constants of the module. -/
namespace DL
open PySem PySem.Spec PyProof.Rows L2 RZ
section
variable {K : PySem.W.Frag} {mg : Str → Option Value} {W : WX} {H H' H0 H1 H2 H3 : Hp} {L L' L0 L1 LL : LP} {ρ ρ' ρ0 ρ1 ρ2 : List Addr} {σ σ' : Sg} {δ δ' : DEnv} {S S' : Store} {O : LP} {g : Gh} {D : Addr} {o : HO}
/-! ### index in a list of texts -/
def idxS (ys : List Str) (y : Str) : Option Nat := ys.findIdx? fun z => decide (z = y)
def wIndex (wo we : Wp) : Wp := fun δ S Q X => wV wo δ S (fun x S1 => ∃ ds ys, x = .lst ds ∧ strsOf ds = some ys ∧ wV we δ S1 (fun y S2 => ∃ s j, y = .str s ∧ idxS ys s = some j ∧ Q (.v (.int ((j : Nat) : Int))) S2) X) X
/-! ### the signs of a text -/
def signs (s : Str) : List Val := s.cps.toList.map fun c => Val.str ⟨#[c]⟩
def wStrI (w : Wp) : WpI := fun δ S Q X => wV w δ S (fun d S1 => ∃ s, d = .str s ∧ Q (signs s) S1) X
end
section
variable {X : Cx} {W : WX} {k : Nat} {a b c e e2 tg : Expr} {pos p py p2 : Pos} {wa wb wc w : Wp}
theorem globI {mg : Str → Option Value} {x : Str} {i : Int} (h : ∃ t, mg x = some (.int i t)) (hm : X.mg = mg) : GlobD X x (.int i) := let ⟨t, e⟩ := h; ⟨_, .int i, by rw [hm]; exact e, ⟨t, rfl⟩, fun _ _ _ => .int i⟩
end
section
variable {δ : DEnv} {S : Store} {Q : CQ} {X : XQ} {w wa wb we wo : Wp} {QL : List Val → Store → Prop}
@[simp ↓] theorem s_strI : wStrI w δ S QL X = w δ S (fun c S1 => match fz c with | .str s => QL (signs s) S1 | _ => False) X := by
  unfold wStrI wV
  congr 1; funext c S1; (try dsimp only)
  cases fz c <;> simp
@[simp ↓] theorem s_index : wIndex wo we δ S Q X = wo δ S (fun x S1 => match fz x with
    | .lst ds => (match strsOf ds with | some ys => we δ S1 (fun y S2 => match fz y with | .str s => (match idxS ys s with | some j => Q (.v (.int ((j : Nat) : Int))) S2 | none => False) | _ => False) X | none => False)
    | _ => False) X := by
  unfold wIndex wV
  congr 1; funext x S1; (try dsimp only)
  cases fz x <;> simp only [reduceCtorEq, false_and, exists_const, Val.lst.injEq, exists_and_left, exists_eq_left']
  rename_i ds
  cases strsOf ds with
  | none => simp
  | some ys =>
    simp only [Option.some.injEq, exists_eq_left']
    refine congrArg (fun K => we δ S1 K X) ?_
    funext y S2
    cases fz y <;> simp
    rename_i s
    cases idxS ys s <;> simp
end
section
variable {δ : DEnv} {S : Store} {X : XQ} {i : Nat} {b c : WpS} {Dd : DEnds}
@[simp ↓] theorem s_frz : wsFrz i b Dd δ S X = (match δ[i]? with | some (some r) => b Dd (δ.set i (some (.v (fz r)))) S X | _ => False) := by
  unfold wsFrz
  cases δ[i]? with
  | none => simp
  | some u => cases u <;> simp
end
theorem any_i {x : Int} : ∀ ns : List Int, anyEq (.int x) (ns.map Val.int) = decide (x ∈ ns)
  | [] => rfl
  | n :: ns => by
    have ih := any_i (x := x) ns
    unfold anyEq at ih ⊢
    rw [List.map_cons, List.any_cons, ih]
    simp only [veq, toPy, PyData.eqv, List.mem_cons]
    by_cases h : n = x
    · simp [h]
    · have : ¬ x = n := fun e => h e.symm
      simp [h, this]
@[simp] theorem o_in_ti {S : Store} {neg : Bool} {x : Int} {ns : List Int} : gIn neg S (.int x) (.tup (ns.map Val.int)) = some (.v (.bl (neg != decide (x ∈ ns)))) := by
  simp [gIn, DL.sq, drf, shp, isPy, dep, any_i]
@[simp] theorem o_in_li {S : Store} {neg : Bool} {x : Int} {ns : List Int} : gIn neg S (.int x) (.lst (ns.map Val.int)) = some (.v (.bl (neg != decide (x ∈ ns)))) := by
  simp [gIn, DL.sq, drf, shp, isPy, dep, any_i]
@[simp] theorem noLs_strs {ns : List Str} : noLs (ns.map Val.str) = true := by induction ns with | nil => rfl | cons n ns ih => simp [noLs, noL, ih]
end DL
/-! DL21: sorted(set(tuples of ints)), the tuples of any length. -/
namespace DL
open PySem PySem.Spec PyProof.Rows L2 RZ
/-- the order of tuples of ints -/
def LexLt : List Int → List Int → Prop
  | [], [] => False
  | [], _ :: _ => True
  | _ :: _, [] => False
  | x :: a, y :: b => x < y ∨ (x = y ∧ LexLt a b)
/-! ### over data -/
abbrev tv (ns : List Int) : Val := .tup (iv ns)
/-- sorted(set(e)), e a list of nonempty tuples of small ints -/
def wSortSet (we : Wp) : Wp := fun δ S Q X => wV we δ S (fun x S1 => ∃ ks : List (List Int), x = .lst (ks.map tv) ∧ ks.length < 64 ∧ (∃ (d : Nat) (B : Int), 0 ≤ B ∧ ∀ k ∈ ks, 1 ≤ k.length ∧ k.length ≤ d ∧ TS.Bd B k) ∧
  ∀ M : List (List Int), M.Pairwise LexLt → (∀ k, k ∈ M ↔ k ∈ ks) → Q (.l (M.map tv)) S1) X
@[simp ↓] theorem s_sortSet {we : Wp} {δ : DEnv} {S : Store} {Q : CQ} {X : XQ} : wSortSet we δ S Q X = we δ S (fun c S1 => ∃ ks : List (List Int), fz c = .lst (ks.map tv) ∧ ks.length < 64 ∧ (∃ (d : Nat) (B : Int), 0 ≤ B ∧ ∀ k ∈ ks, 1 ≤ k.length ∧ k.length ≤ d ∧ TS.Bd B k) ∧
  ∀ M : List (List Int), M.Pairwise LexLt → (∀ k, k ∈ M ↔ k ∈ ks) → Q (.l (M.map tv)) S1) X := rfl
section
variable {δ : DEnv} {S : Store} {X : XQ} {i : Nat} {w : Wp} {c : WpS} {m : Bool} {Dd : DEnds}
@[simp ↓] theorem s_extend : wsExtend m i w Dd δ S X = (match δ[i]? with | some (some (.l ds)) => wEv m w δ S (fun r S1 => match fz r with | .lst es => ds.length + es.length ≤ sizeLine ∧ Dd.nx (δ.set i (some (.l (ds ++ es)))) S1 | _ => False) X | _ => False) := by
  unfold wsExtend
  cases δ[i]? with
  | none => simp
  | some u =>
    cases u with
    | none => simp
    | some u =>
      cases u <;> simp
      refine iff_of_eq (congrArg (fun K => wEv m w δ S K X) ?_)
      funext r S1
      cases fz r <;> simp
@[simp ↓] theorem q_extend : wsSeq (wsExtend m i w) c Dd δ S X = (match δ[i]? with | some (some (.l ds)) => wEv m w δ S (fun r S1 => match fz r with | .lst es => ds.length + es.length ≤ sizeLine ∧ c Dd (δ.set i (some (.l (ds ++ es)))) S1 X | _ => False) X | _ => False) := by
  unfold wsSeq
  rw [s_extend]
end
end DL
/-! DL22: a, b = x, y where a name is captured. -/
namespace DL
open PySem PySem.Spec PyProof.Rows L2 RZ
section
variable {K : PySem.W.Frag} {mg : Str → Option Value} {W : WX} {H H' H0 H1 H2 H3 : Hp} {L L' L0 L1 LL : LP} {ρ ρ' ρ0 ρ1 ρ2 : List Addr} {σ σ' : Sg} {δ δ' : DEnv} {S S' : Store} {O : LP} {g : Gh}
/-- a new object changes nothing of the frame -/
theorem Rep.alloc (rep : Rep K g H L ρ σ δ S) {p : Addr} {o : HO} (h : H p = none) : Rep K g (L2.upd H p o) L ρ σ δ S := rep.step (Stp.alloc h) (rep.sr.alloc h)
theorem sndS_par2c {ta tb : TE} {wa wb : Wp} {m : Bool} {i j : Nat} (ha : Snd K mg W ta wa) (hb : Snd K mg W tb wb) : SndS K mg W (tAsg (tTup (tCons ta (tCons tb tNil))) (gTup K 2 (gCons (gName i) (gCons (gName j) gNil)))) (wsPar2 m i j wa wb) := by
  intro g H L ρ σ δ S rep Dd Xq hw hx D k
  refine ha.ev rep hw hx fun c1 S1 hq v1 H1 L1 ρ1 st1 rep1 cr1 => ?_
  have rep1' := rep1.setCR (i := i) cr1 (fun a h => rep.fresh a h) fun a h => rep.st.non h
  refine hb.ev rep1 hq hx fun c2 S2 hq v2 H2 L2 ρ2 st2 rep2 cr2 => ?_
  have rep2' := (rep1'.step st2 rep2.sr).setCR (i := j) cr2 (fun a h => rep1'.fresh a h) fun a h => rep1.st.non h
  refine ⟨by rw [sizeLine_eq]; simp, fun p hp => ⟨p, [v1, v2], rfl, SqT.of upd_same, rfl, v1, [v2], rfl, v2, [], rfl, rfl, ?_⟩⟩
  exact k.nx _ S2 hq _ _ L2 ρ2 (rep2'.alloc hp) ((st1.trans st2).trans (Stp.alloc hp)).mo
end
section
variable {X : Cx} {W : WX} {k : Nat} {a b c : Expr} {x y z : Str} {pos px p1 p2 pt pt2 : Pos} {kt k2 : Nat} {wa wb wc : Wp}
theorem ds_par2c (m : Bool) (i j : Nat) (bd : Bd X W k) (ha : PED X W a wa) (hb : PED X W b wb) (hi : X.N[i]? = some x := by rfl) (hj : X.N[j]? = some y := by rfl)
    (hx : Loc X.env.scope x := by first | exact Or.inl rfl | exact Or.inr rfl) (hfx : X.fn x = true ∨ X.env.scope.names.lookup x = some .local := by first | exact .inl rfl | exact .inr rfl)
    (hy : Loc X.env.scope y := by first | exact Or.inl rfl | exact Or.inr rfl) (hfy : X.fn y = true ∨ X.env.scope.names.lookup y = some .local := by first | exact .inl rfl | exact .inr rfl)
    (hse : starEach [a, b] X.env = (false, eval a X.env) :: starEach [b] X.env := by rfl) (hse2 : starEach [b] X.env = [(false, eval b X.env)] := by rfl)
    (hw : swappedStores [.Tuple [.Name x px, .Name y p1] kt pt] (.Tuple [a, b] k2 pt2) X.env = pure none := by rfl)
    (hs : swapsWithSole [.Tuple [.Name x px, .Name y p1] kt pt] (.Tuple [a, b] k2 pt2) pos.line X.env = pure false := by rfl)
    (h1 : (assignEach [Expr.Tuple [.Name x px, .Name y p1] kt pt] X.env).map (·.2) = [assign (Expr.Tuple [.Name x px, .Name y p1] kt pt) X.env] := by rfl)
    (h2 : (assignEach [Expr.Name x px, .Name y p1] X.env).map (·.2) = assign (.Name x px) X.env :: (assignEach [Expr.Name y p1] X.env).map (·.2) := by rfl)
    (h3 : (assignEach [Expr.Name y p1] X.env).map (·.2) = assign (.Name y p1) X.env :: (assignEach [] X.env).map (·.2) := by rfl)
    (h4 : (assignEach [Expr.Name x px, .Name y p1] X.env).length = 2 := by rfl) (h5 : (assignEach [Expr.Name x px, .Name y p1] X.env).findIdx? (·.1) = none := by rfl) :
    PSD X W (.Assign [.Tuple [.Name x px, .Name y p1] kt pt] (.Tuple [a, b] k2 pt2) pos) (wsPar2 m i j wa wb) :=
  PS.toD (ps_asg (pe_tup (pa_cons ha (pa_cons hb pa_nil hse2) hse)) (pg_tup bd.calm (pgs_cons (pg_name bd.nd hi hx hfx) (pgs_cons (pg_name bd.nd hj hy hfy) pgs_nil h3) h2) h4 h5) hs hw h1) (sndS_par2c snd_tD snd_tD)
end
end DL
/-! DL23: d[a], d[b] = x, y. -/
namespace DL
open PySem PySem.Spec PyProof.Rows L2 RZ
section
variable {K : PySem.W.Frag} {mg : Str → Option Value} {W : WX} {H H' H0 H1 H2 H3 : Hp} {L L' L0 L1 LL : LP} {ρ ρ' ρ0 ρ1 ρ2 : List Addr} {σ σ' : Sg} {δ δ' : DEnv} {S S' : Store} {O : LP} {g : Gh}
def wsDPut2 (m : Bool) (i : Nat) (wk1 wk2 we1 we2 : Wp) : WpS := fun Dd δ S X => wEv m we1 δ S (fun c1 S1 => wEv m we2 δ S1 (fun c2 S2 => ∃ kvs, δ[i]? = some (some (.m kvs)) ∧
  wV wk1 δ S2 (fun y S3 => ∃ k1, getKey y = some k1 ∧ kvs.length < sizeLine ∧
    wV wk2 (δ.set i (some (.m (dPut kvs k1 (fz c1))))) S3 (fun z S4 => ∃ k2, getKey z = some k2 ∧ (dPut kvs k1 (fz c1)).length < sizeLine ∧ Dd.nx (δ.set i (some (.m (dPut (dPut kvs k1 (fz c1)) k2 (fz c2))))) S4) X) X) X) X
end
end DL
/-! DL24: computing: stores into dicts; dicts of names. -/
namespace DL
open PySem PySem.Spec PyProof.Rows L2 RZ
section
variable {δ : DEnv} {S : Store} {X : XQ} {i : Nat} {w wk we wk1 wk2 we1 we2 : Wp} {c : WpS} {m : Bool} {Dd : DEnds}
@[simp ↓] theorem s_dput : wsDPut m i wk we Dd δ S X = wEv m we δ S (fun r S1 => match δ[i]? with | some (some (.m kvs)) => wk δ S1 (fun y S2 => match getKey (fz y) with | some kk => kvs.length < sizeLine ∧ Dd.nx (δ.set i (some (.m (dPut kvs kk (fz r))))) S2 | none => False) X | _ => False) X :=
  q_dput (c := wsNext)
theorem dput_in {kvs : List (Key × Val)} {f : Key → Store → Prop} {y : Val} {S2 : Store} : (∃ k, getKey y = some k ∧ kvs.length < sizeLine ∧ f k S2) = (match getKey y with | some kk => kvs.length < sizeLine ∧ f kk S2 | none => False) := by
  cases getKey y <;> simp
@[simp ↓] theorem s_dput2 : wsDPut2 m i wk1 wk2 we1 we2 Dd δ S X = wEv m we1 δ S (fun c1 S1 => wEv m we2 δ S1 (fun c2 S2 => match δ[i]? with
    | some (some (.m kvs)) => wk1 δ S2 (fun y S3 => match getKey (fz y) with
      | some k1 => kvs.length < sizeLine ∧ wk2 (δ.set i (some (.m (dPut kvs k1 (fz c1))))) S3 (fun z S4 => match getKey (fz z) with
        | some k2 => (dPut kvs k1 (fz c1)).length < sizeLine ∧ Dd.nx (δ.set i (some (.m (dPut (dPut kvs k1 (fz c1)) k2 (fz c2))))) S4
        | none => False) X
      | none => False) X
    | _ => False) X) X := by
  unfold wsDPut2 wV
  congr 1; funext c1 S1; congr 1; funext c2 S2
  cases e : δ[i]? with
  | none => simp
  | some u =>
    cases u with
    | none => simp
    | some u =>
      cases u with
      | m kvs =>
        simp only [Option.some.injEq, Cell.m.injEq, exists_eq_left', dput_in]
        refine congrArg (fun K => wk1 δ S2 K X) ?_
        funext y S3
        cases getKey (fz y) <;> simp
      | _ => simp
@[simp ↓] theorem q_dput2 : wsSeq (wsDPut2 m i wk1 wk2 we1 we2) c Dd δ S X = wsDPut2 m i wk1 wk2 we1 we2 { Dd with nx := fun δ1 S1 => c Dd δ1 S1 X } δ S X := rfl
end
end DL
/-! DL25: own exception classes: the head's facts. -/
namespace DL
open PySem PySem.Spec PyProof.Rows L2 RZ
/-! ### the hook, with tests of one's own -/
abbrev XT := PySem.W.Frag → Bool
def obsX (fa : List He.Fa) (fn : List He.DefD) (ex : List XT) (K : PySem.W.Frag) : He.AlD := (((fa.all fun f => f.ok K) && fn.all fun d => d.ok K) && ex.all fun t => t K, fn.map fun d => He.fnW K d.at_)
def SaysX (fa : List He.Fa) (fn : List He.DefD) (ex : List XT) (K : PySem.W.Frag) : Prop := obsX fa fn ex K = He.valD fn
section
variable {fa : List He.Fa} {fn : List He.DefD} {ex : List XT} {K : PySem.W.Frag}
theorem SaysX.fst (c : SaysX fa fn ex K) : (((fa.all fun f => f.ok K) && fn.all fun d => d.ok K) && ex.all fun t => t K) = true := congrArg (fun z : He.AlD => z.1) c
theorem SaysX.toD (c : SaysX fa fn ex K) : He.SaysD fa fn K := by
  have h1 := (Bool.and_eq_true_iff.mp c.fst).1
  have h2 : fn.map (fun d => He.fnW K d.at_) = fn.map He.DefD.val := congrArg (fun z : He.AlD => z.2) c
  exact Prod.ext h1 h2
theorem SaysX.test (c : SaysX fa fn ex K) (i : Nat) {t : XT} (h : ex[i]? = some t := by rfl) : t K = true :=
  List.all_eq_true.mp (Bool.and_eq_true_iff.mp c.fst).2 t (List.mem_of_getElem? h)
end
/-! ### a class over ValueError whose __init__ is a def -/
end DL
/-! DL26: own exceptions: their __init__, made, raised. -/
namespace DL
open PySem PySem.Spec PyProof.Rows L2 RZ
/-! ### f'..{x}' -/
structure FmtP (p : PyData) : Prop where
  sh : p.showable = true
  dp : p.depth ≤ 64
  ln : p.shown.length ≤ 16000000
  st : ∀ z, p = .str z → z.length ≤ 16000000
/-! ### B.__init__(self, ..) -/
/-- what the __init__ of a class with the field f keeps -/
def spI (K : PySem.W.Frag) (C : Addr) (f : Str) : Sp := fun vs H Q _ => ∃ a v p, vs = [.ref a, v] ∧ OexC K C ∧ PySem.W.findIn K (.ref C) f = some none ∧ H a = some (exo a C none) ∧ DpR K H v p ∧ FmtP p ∧ ∀ dx, H dx = none → dx ≠ a → Q .non (upd (upd H dx (exd dx [(f, v)])) a (exo a C (some dx)))
end DL
/-! DL27: own exceptions made and raised. -/
namespace DL
open PySem PySem.Spec PyProof.Rows L2 RZ
/-- the __init__ of the class y may be called -/
structure Ini (P : Program) (w : World) (K : PySem.W.Frag) (mg : Str → Option Value) (base : Heap) (k : Nat) (y f : Str) : Prop where
  ex : ∃ fd x, FnG P w K mg base k (He.ma K (He.ga K y) "__init__") fd ["self", x] (spI K (He.ga K y) f) ∧ Binds K fd ["self", x] []
theorem Ini.mono {P : Program} {w : World} {K : PySem.W.Frag} {mg : Str → Option Value} {base : Heap} {j k : Nat} {y f : Str} (c : Ini P w K mg base j y f) (h : j ≤ k) : Ini P w K mg base k y f :=
  let ⟨fd, x, h1, h2⟩ := c.ex; ⟨fd, x, h1.mono h, h2⟩
end DL
/-! DL28: raise, by meanings. -/
namespace DL
open PySem PySem.Spec PyProof.Rows L2 RZ
/-- the package's own errors, their fields, their order -/
def errN : List Str := ["UnknownPerson", "InvalidRoom", "NotAdjacent", "EmptyRoom", "InvalidMoves", "OtherRegion", "TightRegion", "Blocked", "InvalidName", "DuplicateName", "LimitReached", "AlreadyAdjacent", "WouldFormCycle", "NothingToUndo", "HistoryFull", "SessionBusy", "InvalidActions", "BatchFailed", "InvalidMoment", "InvalidHouse", "InvalidPlacement", "InvalidText"]
def fieldOf (y : Str) : Str := if y = "UnknownPerson" ∨ y = "InvalidName" ∨ y = "DuplicateName" then "name" else if y = "InvalidMoves" ∨ y = "BatchFailed" ∨ y = "InvalidMoment" ∨ y = "InvalidText" then "position" else if y = "Blocked" then "block" else if y = "LimitReached" then "limit" else "room"
/-- the class y is the class c or below it -/
def subN (y c : Str) : Bool := decide (y = c) || decide (c = "HouseError") || decide (c = "ValueError")
/-- data that an exception's text may show -/
structure FmtD (S : Store) (d : Val) : Prop where
  sp : shpR (drf S d) = true
  sh : (toPy (drf S d)).showable = true
  ln : (toPy (drf S d)).shown.length ≤ 16000000
  st : ∀ z, toPy (drf S d) = .str z → z.length ≤ 16000000
def wsRaise (y f : Str) (w : Wp) : WpS := fun _ δ S X => wV w δ S (fun d S1 => FmtD S1 d ∧ X ⟨y, [(f, d)]⟩ δ S1) X
end DL
/-! DL29: try .. except, by meanings. -/
namespace DL
open PySem PySem.Spec PyProof.Rows L2 RZ
/-- the table of modules -/
def sysB : XT := fun K => match K.lookup sysModules with
  | some o => !(o.cls == .type "list")
  | none => false
theorem sysB_ok {K : PySem.W.Frag} (h : sysB K = true) : SysK K := by
  unfold sysB at h
  split at h
  · rename_i o e
    refine ⟨o, e, fun z => ?_⟩
    rw [z] at h
    simp at h
  · cases h
section
variable {K : PySem.W.Frag} {mg : Str → Option Value} {W : WX} {H H' H1 : Hp} {L L' L1 : LP} {ρ ρ' ρ1 : List Addr} {σ : Sg} {δ : DEnv} {S S' : Store} {g : Gh}
/-- what the frame holds, and one more object, are frozen -/
theorem Rep.freeze (r : Rep K g H L ρ σ δ S) {D : Option Addr} (hD : ∀ dd, D = some dd → g.H dd = none ∧ ∃ fs, H dd = some (.xd fs)) : Rep K g H (fun b => (L b ∨ own σ δ b) ∨ D = some b) ρ σ (DL.mask δ) S := by
  have nρ : ∀ dd, D = some dd → dd ∉ ρ := fun dd e hm => by
    obtain ⟨_, fs, h⟩ := hD dd e
    obtain ⟨n, hn⟩ := List.getElem?_of_mem hm
    have hl : n < S.length := by rw [← r.sr.len]; exact (List.getElem?_eq_some_iff.mp hn).1
    have q := r.sr.obj n dd _ hn (List.getElem?_eq_getElem hl)
    cases e2 : S[n] with
    | lst ds => rw [e2] at q; obtain ⟨vs, e3, _⟩ := q; rw [h] at e3; cases e3
  have m := r.mask
  refine ⟨⟨r.sr.len, r.sr.nd, fun a ha z => ?_, r.sr.obj, fun a z => ?_⟩, ⟨m.er.len, fun i c h => ?_, m.er.inj⟩, ⟨r.st.keep, fun a z => .inl (.inl (r.st.sub a z)), fun a z => ?_, r.st.pre, r.st.tup, r.st.frz, r.st.fro, r.st.thr⟩⟩
  · rcases z with (z | z) | z
    · exact r.sr.apart a ha z
    · exact (r.ownH z).2.2.1 ha
    · exact nρ a z ha
  · rcases z with (z | z) | z
    · exact r.sr.lthr a z
    · obtain ⟨o, e, _⟩ := (r.ownH z).2.2.2; exact ⟨o, e⟩
    · obtain ⟨_, fs, e⟩ := hD a z; exact ⟨_, e⟩
  · have q := m.er.cell i c h
    rw [mask_get] at h
    cases e : δ[i]? with
    | none => rw [e] at h; cases h
    | some u =>
      rw [e] at h
      match u, h, q with
      | some (.v d), h, q =>
        cases h
        obtain ⟨u, e, v⟩ := q
        exact ⟨u, e, v.mo (.sub fun a z => .inl (.inl z))⟩
      | some (.l d), h, q => cases h; trivial
      | some (.m d), h, q => cases h; trivial
      | none, h, q => cases h; trivial
  · rcases z with (z | z) | z
    · exact r.st.new a z
    · exact .inr (r.ownH z).1
    · exact .inr (hD a z).1
end
abbrev Su := Addr → Option Addr → Str → WpS
def sufEnds (i : Nat) (Dd : DEnds) : DEnds := { nx := fun δ' S' => Dd.nx (δ'.set i none) S', rt := Dd.rt, bk := fun δ' S' => Dd.bk (δ'.set i none) S', ct := fun δ' S' => Dd.ct (δ'.set i none) S' }
/-- what an except suite does with an exception -/
def wsCatch (su : Su) (i : Nat) (x : Xn) (Dd : DEnds) (δ : DEnv) (S : Store) : Prop := match x.fs with
  | [] => ∀ a d, su a d x.cls (sufEnds i Dd) ((mask δ).set i (some (.v (.opq (.ref a))))) S fun _ _ _ => False
  | [(f, v)] => ∀ a dd, su a (some dd) x.cls (sufEnds i Dd) ((mask δ).set i (some (.v (.exn a dd f v)))) S fun _ _ _ => False
  | _ => False
/-- try: b, except c as (slot i): su -/
def wsTryAs (c : Str) (i : Nat) (b : WpS) (su : Su) : WpS := fun Dd δ S X =>
  b Dd (mask δ) S fun x δ1 S1 => x.cls ∈ errN ∧ if subN x.cls c = true then wsCatch su i x Dd δ1 S1 else X x δ1 S1
end DL
/-! DL30: try, e.f, isinstance(e, ..): the rules. -/
namespace DL
open PySem PySem.Spec PyProof.Rows L2 RZ
section
variable {K : PySem.W.Frag} {mg : Str → Option Value} {W : WX}
/-! e.f -/
def wXf (a : Addr) (d : Option Addr) (y f : Str) (w : Wp) : Wp := fun δ S Q X => w δ S (fun c S' => match c with
  | .v (.exn b dd g v) => b = a ∧ d = some dd ∧ g = f ∧ f = fieldOf y ∧ Q (.v v) S'
  | _ => False) X
/-! isinstance(e, C), isinstance(e, (C, D, ..)) -/
def wIsE (a : Addr) (d : Option Addr) (y : Str) (cs : List Str) (w : Wp) : Wp := fun δ S Q X => w δ S (fun c S' => match c with
  | .v (.exn b dd _ _) => b = a ∧ d = some dd ∧ Q (.v (.bl (cs.any (subN y)))) S'
  | _ => False) X
end
end DL
/-! DL31: try, e.f, isinstance(e, ..): the rules in short. -/
namespace DL
open PySem PySem.Spec PyProof.Rows L2 RZ
/-- what a suite leans on -/
structure Bs (X : Cx) : Prop where
  nd : X.N.Nodup
  g : X.A.guards = some []
  un : X.A.units + 66 < cLine
theorem Bd.bs {X : Cx} {W : WX} {k : Nat} (b : Bd X W k) : Bs X := ⟨b.nd, b.g, b.un⟩
end DL
/-! DL32: computing: raise, try. -/
namespace DL
open PySem PySem.Spec PyProof.Rows L2 RZ
section
variable {δ : DEnv} {S : Store} {X : XQ} {i : Nat} {w : Wp} {c b : WpS} {m : Bool} {Dd : DEnds} {y f cl : Str} {su : Su} {a : Addr} {d : Option Addr} {cs : List Str} {Q : CQ}
@[simp ↓] theorem s_raise : wsRaise y f w Dd δ S X = w δ S (fun v S1 => FmtD S1 (fz v) ∧ X ⟨y, [(f, fz v)]⟩ δ S1) X := rfl
@[simp ↓] theorem q_raise : wsSeq (wsRaise y f w) c Dd δ S X = w δ S (fun v S1 => FmtD S1 (fz v) ∧ X ⟨y, [(f, fz v)]⟩ δ S1) X := rfl
@[simp ↓] theorem s_tryAs : wsTryAs cl i b su Dd δ S X = b Dd (mask δ) S (fun x δ1 S1 => x.cls ∈ errN ∧ if subN x.cls cl = true then wsCatch su i x Dd δ1 S1 else X x δ1 S1) := rfl
@[simp ↓] theorem q_tryAs : wsSeq (wsTryAs cl i b su) c Dd δ S X = b { Dd with nx := fun δ1 S1 => c Dd δ1 S1 X } (mask δ) S (fun x δ1 S1 => x.cls ∈ errN ∧ if subN x.cls cl = true then wsCatch su i x { Dd with nx := fun δ1 S1 => c Dd δ1 S1 X } δ1 S1 else X x δ1 S1) := rfl
@[simp] theorem catch_one {v : Val} : wsCatch su i ⟨y, [(f, v)]⟩ Dd δ S = ∀ a dd, su a (some dd) y (sufEnds i Dd) ((mask δ).set i (some (.v (.exn a dd f v)))) S fun _ _ _ => False := rfl
@[simp] theorem suf_nx {δ' : DEnv} : (sufEnds i Dd).nx δ' S = Dd.nx (δ'.set i none) S := rfl
@[simp] theorem suf_rt {r : Cell} : (sufEnds i Dd).rt r S = Dd.rt r S := rfl
@[simp] theorem p_xf : wXf a d y f w δ S Q X = w δ S (fun r S' => match r with
  | .v (.exn b dd g v) => b = a ∧ d = some dd ∧ g = f ∧ f = fieldOf y ∧ Q (.v v) S'
  | _ => False) X := rfl
@[simp] theorem p_isE : wIsE a d y cs w δ S Q X = w δ S (fun r S' => match r with
  | .v (.exn b dd _ _) => b = a ∧ d = some dd ∧ Q (.v (.bl (cs.any (subN y)))) S'
  | _ => False) X := rfl
end
end DL
/-! DL33: try .. except (C, D): without a name. -/
namespace DL
open PySem PySem.Spec PyProof.Rows L2 RZ
end DL
/-! DL34: try .. except C: | except (C, D): by meanings. -/
namespace DL
open PySem PySem.Spec PyProof.Rows L2 RZ
/-- a clause of these classes takes it -/
def hit (cs : List Str) (y : Str) : Bool := cs.any (subN y)
/-- try: b, except cs: su -/
def wsTryOnly (cs : List Str) (b su : WpS) : WpS := fun Dd δ S X =>
  b Dd (mask δ) S fun x δ1 S1 => x.cls ∈ errN ∧ if hit cs x.cls = true then su Dd δ1 S1 (fun _ _ _ => False) else X x δ1 S1
section
variable {δ : DEnv} {S : Store} {X : XQ} {c b su : WpS} {Dd : DEnds} {y f : Str} {cs : List Str}
@[simp ↓] theorem s_tryOnly : wsTryOnly cs b su Dd δ S X = b Dd (mask δ) S (fun x δ1 S1 => x.cls ∈ errN ∧ if hit cs x.cls = true then su Dd δ1 S1 (fun _ _ _ => False) else X x δ1 S1) := rfl
@[simp ↓] theorem q_tryOnly : wsSeq (wsTryOnly cs b su) c Dd δ S X = b { Dd with nx := fun δ1 S1 => c Dd δ1 S1 X } (mask δ) S (fun x δ1 S1 => x.cls ∈ errN ∧ if hit cs x.cls = true then su { Dd with nx := fun δ1 S1 => c Dd δ1 S1 X } δ1 S1 (fun _ _ _ => False) else X x δ1 S1) := rfl
end
end DL
/-! DL35: enumerate of a tuple, of a list. -/
namespace PySem
open Sem (wp)
open AutoSeq1 (wpAny_loadPart')
abbrev dlEn (it : Addr) : Obj := { cls := .type "enumerate", data := .fields #[.none, .bool false, .ref it, rawInt 0, .none, .none] }
abbrev dlTi (t : Addr) : Obj := { cls := .type "tuple_iterator", data := .fields #[.ref t, .int 0 0] }
theorem dl_enum_new (t : Addr) (us : Array Value) (n : Nat) (dct : Option Addr) (sl : Array (Option Value)) :
    Meets (Builtin.«enumerate.__new__» ⟨[.type "enumerate", .ref t], []⟩) (fun _ R s => s.heap.get? t = some { cls := .type "tuple", dict := dct, data := .seq us n, slots := sl } ∧ R (.ok (.ret (.ref (s.heap.push (dlTi t)).objs.size))) { s with heap := (s.heap.push (dlTi t)).push (dlEn s.heap.objs.size) }) :=
  .of_wp fun prog w A R s k => by
    obtain ⟨hp, g, d, tk, os⟩ := s; obtain ⟨ht, k⟩ := k
    have sub := sub_enumerate
    have hT : Heap.IsTuple (Shared.heap ⟨hp, g, d, tk, os⟩) t us := ⟨_, ht, rfl, n, rfl⟩
    wp_walk using wpAny_loadPart' ht
    refine wpAny_stack_any fun st => wpAny_pure ?_
    split
    · rename_i c _ _ _ _ _
      cases (c == Value.type "enumerate")
      · wp_walk using wpAny_loadPart' ht, wpAny_pyIter_tuple hT
        exact ⟨_, rfl, k⟩
      · wp_walk using wpAny_loadPart' ht, wpAny_pyIter_tuple hT
        exact ⟨_, rfl, k⟩
    · wp_walk using wpAny_loadPart' ht, wpAny_pyIter_tuple hT
      exact ⟨_, rfl, k⟩
section
variable {prog : Program} {w : World} {A : Around} {E : Value → Shared → Prop} {s : Shared}
theorem dl_enum_call {t : Addr} {us : Array Value} {Q : Value → Shared → Prop} (hT : s.heap.IsTuple t us)
    (k : ∀ h2, IsEnum h2 (s.heap.objs.size + 1) s.heap.objs.size 0 .none → h2.IsTupleIter s.heap.objs.size t 0 → (∀ b o, s.heap.get? b = some o → h2.get? b = some o) → Q (.ref (s.heap.objs.size + 1)) { s with heap := h2 }) :
    wpAny (model prog w) A (call (.type "enumerate") [.ref t]) Q E s := by
  obtain ⟨⟨c, dct, dt, sl⟩, ht, hc, n, hd⟩ := hT
  dsimp only at hc hd
  subst hc hd
  refine callType_new F.called_enumerate (by decide) (F.typeCall_enumerate_1 _) (F.newCall_enumerate_1 _) (fun obj => F.args_object_init_2 obj _) F.entry_enumerate_new (dl_enum_new t us n dct sl) ⟨ht, ?_⟩
  have size1 : (s.heap.push (dlTi t)).objs.size = s.heap.objs.size + 1 := Heap.size_push ..
  show _ ∧ _
  rw [size1]
  have ie : IsEnum ((s.heap.push (dlTi t)).push (dlEn s.heap.objs.size)) (s.heap.objs.size + 1) s.heap.objs.size 0 .none := by
    have e := Heap.get?_push_size (s.heap.push (dlTi t)) (o := dlEn s.heap.objs.size) rfl
    rw [size1] at e; exact e
  exact ⟨⟨_, ie, rfl⟩, k _ ie ⟨_, Heap.get?_push_of_some _ (Heap.get?_push_size _ rfl), rfl, rfl⟩ fun b o x => Heap.get?_push_of_some _ (Heap.get?_push_of_some _ x)⟩
theorem dl_enum_end {e it t : Addr} {i : Nat} {k : Int} {us : Array Value} {old : Value} {Q : Option Value → Shared → Prop} (hh : A.handled = none) (ie : IsEnum s.heap e it k old) (ti : s.heap.IsTupleIter it t i) (pl : s.heap.IsTuple t us) (no : us[i]? = none)
    (q : ∀ h2, Heap.ExtBut it s.heap h2 → Q none { s with heap := h2 }) : wpAny (model prog w) A (pyNext (.ref e)) Q E s := by
  have te : s.TypeIs (.ref e) "enumerate" := ⟨_, ie, rfl⟩
  unfold pyNext
  refine wpAny_bind (wpAny_attempt (wpAny_callSpecial?_slot (name := Str.ofString "__next__") te F.slot_enumerate_next (wpAny_call_entry F.slot_enumerate_next te F.entry_enumerate_next ?_ (F.args_enumerate_next_1 _))))
  show wpAny _ _ (field (.ref e) 2 >>= _) _ _ _
  refine wpAny_bind (wpAny_field ie rfl (x := .ref it) rfl ?_)
  refine wpAny_bind (wpAny_nextOf_tuple_end (A := A.in1) hh ti pl no fun h2 x eb ho => ?_)
  obtain ⟨o, ho, hc⟩ := ho
  exact wpAny_bind (wpAny_isInstance (T := "StopIteration") (b := true) ⟨o, ho, hc⟩ isSubtype_stop (wpAny_pure (q _ eb)))
end
end PySem
namespace DL
open PySem PySem.Spec PyProof.Rows L2 RZ
/-- the tuple at a, each item in a new pair with its place -/
def ItT (K : PySem.W.Frag) (a : Addr) : It where
  go := fun i H => ∃ (xs : List V) (x : V), SqT K H a xs ∧ xs[i]? = some x
  yld := fun i H v H' => ∃ T x, v = .ref T ∧ H T = none ∧ H' = upd H T (.tup [.int (i : Nat), x]) ∧ ∀ xs, SqT K H a xs → xs[i]? = some x
  stop := fun i H => ∃ xs : List V, SqT K H a xs ∧ xs.length ≤ i
theorem turn_enT {P : Program} {w : World} {K : PySem.W.Frag} {elts : List Expr} {kk : Nat} {tpos : Pos} (a e it : Addr) :
    Turn P w K (.Tuple elts kk tpos) (ItT K a) [e, it] e (fun i h => (∃ old, IsEnum h e it ((i : Nat) : Int) old) ∧ h.IsTupleIter it a i ∧ e ≠ it) where
  mem := List.mem_cons_self ..
  obj := fun i h st b hb => by
    obtain ⟨⟨old, ie⟩, ⟨o, ho, _, hd⟩, _⟩ := st
    rcases List.mem_cons.mp hb with z | z
    · rw [z]; exact ⟨_, ie, fun v q => nomatch q⟩
    · rw [List.mem_singleton.mp z]; exact ⟨o, ho, fun v q => by rw [hd] at q; cases q⟩
  keep := fun i h h' st k => ⟨⟨st.1.choose, k e (by simp) _ st.1.choose_spec⟩, st.2.1.at fun o q => k it (by simp) o q, st.2.2⟩
  item := by
    intro X hP hw hK hc i pins s σ H E I hf st hg
    subst hP hw hK
    obtain ⟨⟨old, ie⟩, ti, ne⟩ := st
    obtain ⟨xs, x, sq, hx⟩ := hg
    obtain ⟨us, rv, pl, hz⟩ := I.tuple sq
    obtain ⟨u, hu, ru⟩ := rv.get hx
    have le : e < s.heap.objs.size := Heap.lt_size ie
    have li : it < s.heap.objs.size := by obtain ⟨_, q, _⟩ := ti; exact Heap.lt_size q
    have hlt : i < us.toArray.size := by
      have := (List.getElem?_eq_some_iff.mp hu).1
      simpa using this
    by_cases ai : a = it
    · exfalso
      subst ai
      obtain ⟨o, ho, hcl, _⟩ := ti
      obtain ⟨o2, ho2, hcl2, _⟩ := pl
      rw [ho] at ho2; cases ho2
      rw [hcl] at hcl2
      exact absurd hcl2 (by decide)
    by_cases ae : e = a
    · exfalso
      subst ae
      obtain ⟨o2, ho2, hcl2, _⟩ := pl
      rw [ie] at ho2; cases ho2
      have z : Value.type "enumerate" = Value.type "tuple" := hcl2
      exact absurd z (by decide)
    refine wpAny_pyNext_enum_itemD (Draws.tuple (A := X.A.in1) (I.ok.hd hc) it a ai us.toArray) ie ⟨ti, pl⟩ hlt ne (by simp [ne, ae]) fun y h1 tk hy out st1 hT _ hk => ?_
    have ey : y = u := by
      have h2 : us.toArray[i]? = some u := by simpa using hu
      have h3 : us.toArray[i]? = some y := hy
      rw [h2] at h3; exact (Option.some.inj h3).symm
    subst ey
    refine ⟨_, rfl, wpAny_letOwnedTupleGo_enum (s := { s with heap := h1, toks := tk + 1 }) out fun h2 en2 sb => ?_⟩
    have hT2 : h2.get? s.heap.objs.size = some { cls := .type "tuple", data := .seq #[.int i tk, y] } := (sb.2 _ (Nat.ne_of_gt le)).trans hT
    have new : ObjOk X.prog X.w (upd H s.heap.objs.size (.tup [.int (i : Nat), x])) h2 s.heap.objs.size (.tup [.int (i : Nat), x]) := ⟨by show 2 ≤ sizeLine; decide, [.int i tk, y], .cons ⟨_, rfl⟩ (.cons ru .nil), ⟨_, hT2, rfl, _, rfl⟩⟩
    have I1 : Inv X pins σ (upd H s.heap.objs.size (.tup [.int (i : Nat), x])) { s with heap := h2, toks := tk + 1 } :=
      I.turnedNew (ch := [e, it]) (fun b ob hb q => (sb.2 b (fun z => hb (by simp [z]))).trans (hk b ob (fun z => hb (by simp [z])) (fun z => hb (by simp [z])) q)) hf (Nat.le_refl _) new
    refine ⟨.ref s.heap.objs.size, _, I1, rfl, ⟨_, x, rfl, I.hok.fresh (Nat.le_refl _), rfl, fun ys hy => by rw [I.tuple_inj hy sq]; exact hx⟩, ⟨⟨y, ?_⟩, st1.1.at fun o q => (sb.2 it (Ne.symm ne)).trans q, ne⟩, fun b hb => ?_⟩
    · have e1 : ((i + 1 : Nat) : Int) = (i : Int) + 1 := by omega
      rw [e1]; exact en2
    · have lb : b < s.heap.objs.size := by
        rcases List.mem_cons.mp hb with z | z
        · rw [z]; exact le
        · rw [List.mem_singleton.mp z]; exact li
      rw [upd_ne (Nat.ne_of_lt lb)]
      exact (hf b hb).1
  done := by
    intro X hP hw hK hc i pins s σ H E I hf st hg
    subst hP hw hK
    obtain ⟨⟨old, ie⟩, ti, ne⟩ := st
    obtain ⟨xs, sq, hx⟩ := hg
    obtain ⟨us, rv, pl, hz⟩ := I.tuple sq
    obtain ⟨f0, f1, f2, f3, f4, f5⟩ := hf it (by simp)
    have no : us.toArray[i]? = none := by
      have := rv.length
      simp; omega
    exact dl_enum_end (I.ok.hd hc) ie ti pl no fun h2 eb => ⟨rfl, I.turned (t' := s.toks) (fun b o hb q => eb b o hb q) f0 f1 f3 f4 f5⟩
  self := fun A i s Q E st h => wpAny_pyIter_enum st.1.choose_spec h
/-- enumerate of a list or a tuple -/
def iEn (K : PySem.W.Frag) (ta : TA) : TI := fun σ H R => ta σ H fun vs H1 => ∃ a xs, vs = [.ref a] ∧ ((SqL K H1 a xs ∧ R (Ite K a) H1) ∨ (SqT K H1 a xs ∧ R (ItT K a) H1))
theorem pi_en {X : Cx} {e : Expr} {ta : TA} {p pos tpos : Pos} {elts : List Expr} {kk : Nat} (hg : Gl X "enumerate") (hm : X.mg "enumerate" = none) (ha : PA X [e] ta) (hs : starEach [e] X.env = [(false, eval e X.env)]) : PI X (.Tuple elts kk tpos) (.Call (.Name "enumerate" p) [e] [] pos) (iEn X.K ta) := by
  refine ⟨fun pins s σ H R I k => ?_⟩
  refine Call_ (ld_blt I hg hm boot_enumerate (PyProof.Rows.callWith_type1 (thn (ha.run pos pins s σ H _ I k) fun us s1 hh => ?_) hs rfl))
  obtain ⟨vs, H1, I1, r1, a, xs, ev, q⟩ := hh
  subst ev
  obtain ⟨u, rfl, r⟩ := vals1 r1
  cases r
  have fresh : ∀ b, (b = s1.heap.objs.size + 1 ∨ b = s1.heap.objs.size) → FpOk X pins H1 b := fun b hb => by
    have hle : s1.heap.objs.size ≤ b := by omega
    exact I1.fpOk hle (I1.hok.fresh hle)
  rcases q with ⟨sq, q⟩ | ⟨sq, q⟩
  · obtain ⟨its, rv, pl, hz⟩ := I1.list sq
    refine call_enumerate_list pl.isList fun h2 ie li _ hk => wpAny_pyIter_enum ie ?_
    exact ⟨s1.heap.objs.size + 1, [s1.heap.objs.size + 1, s1.heap.objs.size], _, _, H1, rfl, I1.kept (t' := s1.toks) hk, turn_enum a (s1.heap.objs.size + 1) s1.heap.objs.size, ⟨⟨.none, ie⟩, li, Nat.succ_ne_self _⟩, fun b hb => fresh b (by simpa using hb), q⟩
  · obtain ⟨its, rv, pl, hz⟩ := I1.tuple sq
    refine dl_enum_call pl fun h2 ie ti hk => wpAny_pyIter_enum ie ?_
    exact ⟨s1.heap.objs.size + 1, [s1.heap.objs.size + 1, s1.heap.objs.size], _, _, H1, rfl, I1.kept (t' := s1.toks) hk, turn_enT a (s1.heap.objs.size + 1) s1.heap.objs.size, ⟨⟨.none, ie⟩, ti, Nat.succ_ne_self _⟩, fun b hb => fresh b (by simpa using hb), q⟩
/-- the items with their places -/
def enD : Nat → List Val → List Val
  | _, [] => []
  | n, d :: ds => .rtup [.int (n : Nat), d] :: enD (n + 1) ds
theorem enD_len : ∀ (n : Nat) (ds : List Val), (enD n ds).length = ds.length
  | _, [] => rfl
  | n, d :: ds => by simp [enD, enD_len (n + 1) ds]
theorem enD_get : ∀ {n : Nat} {ds : List Val} {i : Nat} {d : Val}, (enD n ds)[i]? = some d → ∃ a, ds[i]? = some a ∧ d = .rtup [.int ((n + i : Nat) : Int), a]
  | _, [], _, _, h => by simp [enD] at h
  | n, a :: as, 0, d, h => by simp [enD] at h; exact ⟨a, rfl, by simp [← h]⟩
  | n, a :: as, i + 1, d, h => by
    simp [enD] at h
    obtain ⟨x, h1, h2⟩ := enD_get h
    exact ⟨x, by simpa using h1, by rw [h2]; congr 3; omega⟩
def wEnum (wr : WpA) : WpI := fun δ S Q X => wr δ S (fun ds S1 => ∃ x b as, ds = [x] ∧ seqK x = some (b, as) ∧ Q (enD 0 as) S1) X
section
variable {X : Cx} {W : WX} {tg e : Expr} {pos p : Pos} {wr : WpA}
theorem mo_new {K : PySem.W.Frag} {H2 : Hp} {L2 : LP} {ρ2 : List Addr} {T : Addr} {o : HO} (nT : H2 T = none) : Mo K H2 L2 ρ2 (upd H2 T o) L2 ρ2 :=
  ⟨fun p us e => by rw [upd_ne (ne_of_none e nT)]; exact e, fun p ob us e => by rw [upd_ne (ne_of_none e nT)]; exact e, fun p hp => ⟨hp, fun w e => by rw [upd_ne (ne_of_none e nT)]; exact e⟩, fun _ _ e => e⟩
theorem itOk_en {K : PySem.W.Frag} {H1 : Hp} {L1 : LP} {ρ1 : List Addr} {O : LP} {a : Addr} {xs : List V} {as : List Val} (h1 : ∀ (H2 : Hp) (L2 : LP) (ρ2 : List Addr), Mo K H1 (fun a => L1 a ∨ O a) ρ1 H2 (fun a => L2 a ∨ O a) ρ2 → SqL K H2 a xs)
    (r1 : VRs K H1 (fun a => L1 a ∨ O a) ρ1 xs as) : ItOk K (Ite K a) (enD 0 as) H1 L1 ρ1 O := by
  intro H2 L2 ρ2 st i
  have q1 := h1 H2 L2 ρ2 st
  have e1 := r1.mo st
  refine ⟨fun hl => ⟨xs, q1, by rw [enD_len, ← r1.length] at hl; omega⟩, fun d hd => ?_⟩
  obtain ⟨x, hx, rfl⟩ := enD_get hd
  obtain ⟨v, hv, rv⟩ := e1.getD hx
  refine ⟨⟨xs, v, q1, hv⟩, fun z H3 yy => ?_⟩
  obtain ⟨T, x1, rfl, nT, rfl, f1⟩ := yy
  have ex : x1 = v := Option.some.inj ((f1 xs q1).symm.trans hv)
  subst ex
  rw [Nat.zero_add]
  exact ⟨.inr ⟨T, _, nT, rfl⟩, .rtup upd_same (.cons (.int _) (.cons (rv.mo (mo_new nT)) .nil))⟩
theorem itOk_enT {K : PySem.W.Frag} {H1 : Hp} {L1 : LP} {ρ1 : List Addr} {O : LP} {a : Addr} {xs : List V} {as : List Val} (h1 : PlT H1 a xs)
    (r1 : VRs K H1 (fun a => L1 a ∨ O a) ρ1 xs as) : ItOk K (ItT K a) (enD 0 as) H1 L1 ρ1 O := by
  intro H2 L2 ρ2 st i
  have q1 : SqT K H2 a xs := (h1.mo st.frz).sq
  have e1 := r1.mo st
  refine ⟨fun hl => ⟨xs, q1, by rw [enD_len, ← r1.length] at hl; omega⟩, fun d hd => ?_⟩
  obtain ⟨x, hx, rfl⟩ := enD_get hd
  obtain ⟨v, hv, rv⟩ := e1.getD hx
  refine ⟨⟨xs, v, q1, hv⟩, fun z H3 yy => ?_⟩
  obtain ⟨T, x1, rfl, nT, rfl, f1⟩ := yy
  have ex : x1 = v := Option.some.inj ((f1 xs q1).symm.trans hv)
  subst ex
  rw [Nat.zero_add]
  exact ⟨.inr ⟨T, _, nT, rfl⟩, .rtup upd_same (.cons (.int _) (.cons (rv.mo (mo_new nT)) .nil))⟩
theorem i_enum {elts : List Expr} {kk : Nat} {tpos : Pos} (hm : X.mg "enumerate" = none) (ha : PAD X W [e] wr) (hg : Gl X "enumerate" := by rfl) (hs : starEach [e] X.env = [(false, eval e X.env)] := by rfl) : PID X W (.Tuple elts kk tpos) (.Call (.Name "enumerate" p) [e] [] pos) (wEnum wr) := by
  obtain ⟨t, h1, h2⟩ := ha
  refine PI.toD (pi_en hg hm h1 hs) fun g H L ρ σ δ S rep Q Xq hw hx R hR => ?_
  refine h2 g H L ρ σ δ S rep _ Xq hw hx _ fun ds S1 hq vs H1 L1 ρ1 st1 rep1 v1 => ?_
  obtain ⟨x, b, as, rfl, hx1, hq⟩ := hq
  obtain ⟨v, rfl, w1⟩ := v1.one
  cases w1 with
  | @tup a xs _ h1 r1 =>
    simp only [seqK, Option.some.injEq, Prod.mk.injEq] at hx1
    obtain ⟨rfl, rfl⟩ := hx1
    exact ⟨a, xs, rfl, .inr ⟨h1.sq, hR _ S1 hq _ H1 L1 ρ1 st1 rep1 (itOk_enT h1 r1)⟩⟩
  | @lst a xs _ hl1 h1 r1 =>
    simp only [seqK, Option.some.injEq, Prod.mk.injEq] at hx1
    obtain ⟨rfl, rfl⟩ := hx1
    exact ⟨a, xs, rfl, .inl ⟨SqL.of h1, hR _ S1 hq _ H1 L1 ρ1 st1 rep1 (itOk_en (fun H2 L2 ρ2 st => SqL.of ((st.lst a hl1).2 _ h1)) r1)⟩⟩
  | _ => simp [seqK] at hx1
end
end DL
/-! DL36: count and index in a list of bools; computing: enumerate. -/
namespace DL
open PySem PySem.Spec PyProof.Rows L2 RZ
/-- the list is data -/
def wCntB (wo we : Wp) : Wp := fun δ S Q X => wV wo δ S (fun x S1 => ∃ ds bs, x = .lst ds ∧ blsOf ds = some bs ∧ wV we δ S1 (fun y S2 => ∃ k, y = .bl k ∧ Q (.v (.int ((bs.count k : Nat) : Int))) S2) X) X
def idxB (bs : List Bool) (k : Bool) : Option Nat := bs.findIdx? fun z => decide (z = k)
def wIdxB (wo we : Wp) : Wp := fun δ S Q X => wV wo δ S (fun x S1 => ∃ ds bs, x = .lst ds ∧ blsOf ds = some bs ∧ wV we δ S1 (fun y S2 => ∃ k j, y = .bl k ∧ idxB bs k = some j ∧ Q (.v (.int ((j : Nat) : Int))) S2) X) X
section
variable {K : PySem.W.Frag} {mg : Str → Option Value} {W : WX} {to te : TE} {wo we : Wp}
theorem VR.bl_inv {H : Hp} {L : LP} {ρ : List Addr} {x : V} {b : Bool} (h : VR K H L ρ x (.bl b)) : x = .bl b := by cases h; rfl
end
section
variable {δ : DEnv} {S : Store} {Q : CQ} {X : XQ} {wo we : Wp} {wr : WpA} {QL : List Val → Store → Prop}
@[simp ↓] theorem s_enum : wEnum wr δ S QL X = wr δ S (fun ds S1 => match ds with
    | [x] => (match seqK x with | some (_, as) => QL (enD 0 as) S1 | none => False)
    | _ => False) X := by
  unfold wEnum
  congr 1; funext ds S1
  match ds with
  | [] => simp
  | [x] =>
    cases e : seqK x with
    | none => simp [e]
    | some q => obtain ⟨b, as⟩ := q; cases b <;> simp [e]
  | _ :: _ :: _ => simp
@[simp ↓] theorem s_cntB : wCntB wo we δ S Q X = wo δ S (fun x S1 => match fz x with
    | .lst ds => (match blsOf ds with | some bs => we δ S1 (fun y S2 => match fz y with | .bl k => Q (.v (.int ((bs.count k : Nat) : Int))) S2 | _ => False) X | none => False)
    | _ => False) X := by
  unfold wCntB wV
  congr 1; funext x S1; (try dsimp only)
  cases fz x <;> simp only [reduceCtorEq, false_and, exists_const, Val.lst.injEq, exists_and_left, exists_eq_left']
  rename_i ds
  cases blsOf ds with
  | none => simp
  | some ys =>
    simp only [Option.some.injEq, exists_eq_left']
    congr 1; funext y S2; (try dsimp only)
    cases fz y <;> simp
@[simp ↓] theorem s_idxB : wIdxB wo we δ S Q X = wo δ S (fun x S1 => match fz x with
    | .lst ds => (match blsOf ds with | some bs => we δ S1 (fun y S2 => match fz y with | .bl k => (match idxB bs k with | some j => Q (.v (.int ((j : Nat) : Int))) S2 | none => False) | _ => False) X | none => False)
    | _ => False) X := by
  unfold wIdxB wV
  congr 1; funext x S1; (try dsimp only)
  cases fz x <;> simp only [reduceCtorEq, false_and, exists_const, Val.lst.injEq, exists_and_left, exists_eq_left']
  rename_i ds
  cases blsOf ds with
  | none => simp
  | some ys =>
    simp only [Option.some.injEq, exists_eq_left']
    congr 1; funext y S2; (try dsimp only)
    cases fz y <;> simp
    rename_i k
    cases idxB ys k <;> simp
end
section
variable {δ : DEnv} {S : Store} {X : XQ} {wa wb : Wp}
@[simp ↓] theorem s_g2 {QG : Int → Int → Store → Prop} : wG2 wa wb δ S QG X = wa δ S (fun c S1 => wb δ S1 (fun c2 S2 => match fz c, fz c2 with
    | .int i, .int j => QG i j S2
    | _, _ => False) X) X := by
  unfold wG2 wV
  congr 1; funext c S1; dsimp only; congr 1; funext c2 S2
  cases fz c <;> cases fz c2 <;> simp
end
end DL
/-! DL37: an empty dict sought among strings. -/
namespace DL
open PySem PySem.Spec PyProof.Rows L2 RZ
open PySem.SeqAt
open AutoSeq1 (wpAny_loadPart')
open MeetsSeq
end DL
/-! DL38: op=, ranges that step down, lists times ints. -/
namespace DL
open PySem PySem.Spec PyProof.Rows L2 RZ
section
variable {K : PySem.W.Frag} {mg : Str → Option Value} {W : WX} {H H1 : Hp} {L L1 : LP} {ρ ρ1 : List Addr} {σ : Sg} {δ : DEnv} {S S1 : Store} {O : LP} {g : Gh}
/-- name op= e, ints -/
def wsAug (C : Int → Int → Prop) (f : Int → Int → Int) (i : Nat) (w : Wp) : WpS := fun Dd δ S X => ∃ a : Int, δ[i]? = some (some (.v (.int a))) ∧ wV w δ S (fun d S1 => ∃ b : Int, d = .int b ∧ C a b ∧ Dd.nx (δ.set i (some (.v (.int (f a b))))) S1) X
/-- range(i, j, -1) -/
def rngDn (i : Int) (n : Nat) : List Val := (List.range n).map fun (k : Nat) => Val.int (i - (k : Int))
def wRngD (wr : WpA) : WpI := fun δ S Q X => wr δ S (fun ds S1 => ∃ i j : Int, ds = [.int i, .int j, .int (-1)] ∧ inR i ∧ inR j ∧ Q (rngDn i (i - j).toNat) S1) X
end
section
variable {δ : DEnv} {S : Store} {Dd : DEnds} {X : XQ} {w wa wb : Wp} {wr : WpA} {C : Int → Int → Prop} {f : Int → Int → Int} {i : Nat} {c : WpS}
@[simp ↓] theorem s_rngD {QL : List Val → Store → Prop} : wRngD wr δ S QL X = wr δ S (fun ds S1 => match ds with | [.int i, .int j, .int (-1)] => inR i ∧ inR j ∧ QL (rngDn i (i - j).toNat) S1 | _ => False) X := by
  unfold wRngD
  congr 1; funext ds S1; (try dsimp only)
  split
  · apply propext
    constructor
    · rintro ⟨i, j, e, h⟩
      cases e
      exact h
    · exact fun h => ⟨_, _, rfl, h⟩
  · rename_i h
    apply propext
    constructor
    · rintro ⟨i, j, e, _⟩; exact h i j e
    · exact fun h => h.elim
@[simp ↓] theorem q_aug : wsSeq (wsAug C f i w) c Dd δ S X = wsAug C f i w { Dd with nx := fun δ1 S1 => c Dd δ1 S1 X } δ S X := rfl
@[simp ↓] theorem s_aug : wsAug C f i w Dd δ S X = (∃ a : Int, δ[i]? = some (some (.v (.int a))) ∧ w δ S (fun d S1 => match fz d with | .int b => C a b ∧ Dd.nx (δ.set i (some (.v (.int (f a b))))) S1 | _ => False) X) := by
  unfold wsAug wV
  congr 1; funext a; congr 2; funext d S1
  cases fz d <;> simp
end
end DL
/-! DL39: sorted(set(xs)), xs a list of ints. -/
namespace L2
open PySem PySem.Spec PyProof.Rows
end L2
/-! DL40: sorted(set(xs)): the rule. -/
namespace L2
open PySem PySem.Spec PyProof.Rows
end L2
namespace DL
open PySem PySem.Spec PyProof.Rows L2 RZ
/-- sorted(set(e)), e a list of few ints -/
def wSortSetI (we : Wp) : Wp := fun δ S Q X => wV we δ S (fun x S1 => ∃ ks : List Int, x = .lst (iv ks) ∧ ks.length < 64 ∧ ∀ M : List Int, M.Pairwise (· < ·) → (∀ k, k ∈ M ↔ k ∈ ks) → Q (.l (iv M)) S1) X
@[simp ↓] theorem s_sortSetI {we : Wp} {δ : DEnv} {S : Store} {Q : CQ} {X : XQ} : wSortSetI we δ S Q X = we δ S (fun c S1 => ∃ ks : List Int, fz c = .lst (iv ks) ∧ ks.length < 64 ∧ ∀ M : List Int, M.Pairwise (· < ·) → (∀ k, k ∈ M ↔ k ∈ ks) → Q (.l (iv M)) S1) X := rfl
end DL
/-! DL41: t[::-1] of tuples. -/
namespace HT
open PySem PyProof.Rows
section
variable {prog : Program} {w : World} {A : Around} {E : Value → Shared → Prop} {s : Shared}
theorem dl_adjust_rev (n : Nat) : Builtin.Slice.sliceAdjust none none (-1) (n : Int) = ((n : Int) - 1, -1) := by
  have h1 : ((-1 : Int) < 0) := by omega
  unfold Builtin.Slice.sliceAdjust
  simp only [h1, if_true]
theorem dl_places_rev (n : Nat) : Builtin.Slice.slicePlaces ((n : Int) - 1) (-1) (-1) = n := by
  unfold Builtin.Slice.slicePlaces
  have h1 : ¬ ((-1 : Int) > 0) := by omega
  have h2 : (- -1 : Int) = 1 := by decide
  simp only [h1, if_false, h2, Int.ediv_one]
  split <;> omega
theorem dl_sliceApplied_rev {sl : Addr} {vl vu vs : Value} {n : Nat} {Q : Int × Int × Nat → Shared → Prop} (hs : s.heap.IsSliceOf sl vl vu vs) (pl : IsPart vl none) (pu : IsPart vu none) (ps : IsPart vs (some (-1)))
    (h : Q ((n : Int) - 1, -1, n) s) : wpAny (model prog w) A (Builtin.Slice.sliceApplied (.ref sl) (pure (n : Int))) Q E s := by
  obtain ⟨os, hos, hcs, hds⟩ := id hs
  unfold Builtin.Slice.sliceApplied Builtin.Slice.sliceFields
  refine wpAny_bind (wpAny_bind (wpAny_field hos hds (x := vl) rfl (wpAny_bind (wpAny_field hos hds (x := vu) rfl (wpAny_bind (wpAny_field hos hds (x := vs) rfl (wpAny_pure ?_)))))))
  refine wpAny_bind (slicePart_ ps ?_)
  show wpAny _ _ (if ((-1 : Int) == 0) = true then _ else _) _ _ s
  rw [if_neg (by decide)]
  refine wpAny_bind (slicePart_ pl (wpAny_bind (slicePart_ pu (wpAny_bind (wpAny_pure ?_)))))
  show wpAny _ _ (match Builtin.Slice.sliceAdjust none none (-1) (n : Int) with | (lo, hi) => pure (lo, (-1 : Int), Builtin.Slice.slicePlaces lo hi (-1))) _ _ s
  rw [dl_adjust_rev n]
  show wpAny _ _ (pure ((n : Int) - 1, (-1 : Int), Builtin.Slice.slicePlaces ((n : Int) - 1) (-1) (-1))) _ _ s
  rw [dl_places_rev]
  exact wpAny_pure h
theorem dl_pick_rev (xs : List Value) : ((List.range xs.length).filterMap fun (m : Nat) => xs.toArray[(((xs.length : Int) - 1) + (m : Int) * (-1)).toNat]?) = xs.reverse := by
  have e : ∀ k, k ≤ xs.length → ((List.range k).filterMap fun (m : Nat) => xs.toArray[(((xs.length : Int) - 1) + (m : Int) * (-1)).toNat]?) = xs.reverse.take k := by
    intro k
    induction k with
    | zero => intro _; simp
    | succ k ih =>
      intro hk
      have hk' : k < xs.reverse.length := by simp; omega
      rw [List.range_succ, List.filterMap_append, ih (by omega), List.take_succ, List.getElem?_eq_getElem hk']
      have e1 : (((xs.length : Int) - 1) + (k : Int) * (-1)).toNat = xs.length - 1 - k := by omega
      have e1' : (((xs.length : Int) - 1) + -(k : Int)).toNat = xs.length - 1 - k := by omega
      have e2 : xs.length - 1 - k < xs.length := by omega
      simp [e1', e2]
  rw [e _ (Nat.le_refl _), ← List.length_reverse, List.take_length]
theorem dl_rev_tuple {t sl : Addr} {vs : List Value} {vl vu vx : Value} {Q : Value → Shared → Prop} (ht : IsTup s.heap t vs.toArray) (hs : s.heap.IsSliceOf sl vl vu vx) (pl : IsPart vl none) (pu : IsPart vu none) (ps : IsPart vx (some (-1)))
    (h : Q (.ref s.heap.objs.size) { s with heap := s.heap.push { cls := .type "tuple", data := .seq vs.reverse.toArray } })
    (hsz : vs.length ≤ sizeLine) : wpAny (model prog w) A (getItem (.ref t) (.ref sl)) Q E s := by
  have htake : sizeOk (.seq vs.reverse.toArray) := by
    show vs.reverse.toArray.size ≤ sizeLine
    rw [List.size_toArray, List.length_reverse]
    exact hsz
  obtain ⟨os, hos, hcs, hds⟩ := id hs
  have hTs : s.TypeIs (.ref sl) "slice" := ⟨os, hos, hcs⟩
  unfold getItem
  try with_reducible refine wpAny_holding ?_
  first | refine wpAny_bind (wpAny_pure ?_) | skip
  refine wpAny_bind (wpAny_sequenceKey ht.typeIs (by decide) ?_)
  refine wpAny_bind (wpAny_callSpecial?_slot (name := Str.ofString "__getitem__") ht.typeIs PyProof.Rows.slot_tuple_getitem
    (wpAny_call_entry PyProof.Rows.slot_tuple_getitem ht.typeIs entry_tuple_getitem ?_ (args_tuple_getitem _ _)))
  show wpAny _ _ (Builtin.Tuple.tupleItemsOf (.ref t) >>= _) _ _ s
  refine wpAny_bind (tupleItemsOf_ ht ?_)
  refine wpAny_bind (wpAny_typeOf hTs ?_)
  rw [if_pos (by decide)]
  refine wpAny_bind (dl_sliceApplied_rev (n := vs.toArray.size) hs pl pu ps ?_)
  have hno : ¬ ((((vs.toArray.size : Int) - 1) == 0 && (-1 : Int) == 1 && vs.toArray.size == vs.toArray.size) = true) := by
    intro q
    rw [Bool.and_eq_true, Bool.and_eq_true] at q
    exact absurd (eq_of_beq q.1.2) (by decide)
  show wpAny _ _ (if (((vs.toArray.size : Int) - 1) == 0 && (-1 : Int) == 1 && vs.toArray.size == vs.toArray.size) = true then _ else _) _ _ s
  rw [if_neg hno, List.size_toArray, dl_pick_rev]
  first
    | exact wpAny_bind (m := Builtin.Tuple.tupleExact _) (wpAny_newObj_type (wpAny_pure ⟨_, rfl, wpAny_pure h⟩) htake)
    | exact wpAny_bind (m := Builtin.Tuple.tupleExact _) (wpAny_newObj_type (wpAny_bind (wpAny_pure (wpAny_pure ⟨_, rfl, wpAny_pure h⟩))) htake)
    | exact wpAny_bind (wpAny_bind (m := Builtin.Tuple.tupleExact _) (wpAny_newObj_type (wpAny_pure (wpAny_pure ⟨_, rfl, wpAny_pure h⟩)) htake))
    | exact wpAny_bind (wpAny_bind (m := Builtin.Tuple.tupleExact _) (wpAny_newObj_type (wpAny_pure ⟨_, rfl, wpAny_pure h⟩) htake))
end
end HT
namespace L2
open PySem PySem.Spec PyProof.Rows
section
variable {X : Cx}
def tRevT (K : PySem.W.Frag) (te : TE) : TE := fun σ H Q => te σ H fun x H1 => ∃ a xs, x = .ref a ∧ SqT K H1 a xs ∧ DL.NewT xs.reverse H1 Q
theorem pe_revT {e : Expr} {te : TE} {k : Nat} {p1 p2 p3 pos : Pos} (he : PE X e te) : PE X (.Subscript e (.Slice none none (some (.UnaryOp .USub (.Constant (.int 1) k p1) p2)) p3) pos) (tRevT X.K te) := by
  refine ⟨fun pins s σ H Q I h => ?_⟩
  refine Subscript_ (thn (he.run pins s σ H _ I h) fun v s1 ⟨x, H1, I1, r1, q1⟩ => ?_)
  obtain ⟨a, xs, ex, hx, q⟩ := q1
  subst ex
  cases r1
  have hst : PO X (some (.UnaryOp .USub (.Constant (.int 1) k p1) p2)) (tPart (tUn (rU fun i => .int (-i)) (tC (.int 1)))) := po_some (pe_un un_neg pe_int)
  refine wpAny_Slice (thn (po_none.run pins s1 σ H1 (fun o H2 => o = none ∧ H2 = H1) I1 ⟨rfl, rfl⟩) fun vl s2 ⟨l, H2, I2, pl, el, e2⟩ => ?_)
  subst el e2
  refine thn (po_none.run pins s2 σ H2 (fun o H3 => o = none ∧ H3 = H2) I2 ⟨rfl, rfl⟩) fun vu s3 ⟨u, H3, I3, pu, eu, e3⟩ => ?_
  subst eu e3
  refine thn (hst.run pins s3 σ H3 (fun o H4 => o = some (-1) ∧ H4 = H3) I3 ⟨1, rfl, -1, rfl, rfl, rfl⟩) fun vs s4 ⟨o, H4, I4, ps, eo, e4⟩ => ?_
  subst eo e4
  have I5 : Inv X pins σ H4 { s4 with heap := s4.heap.push { cls := .type "slice", data := .fields #[vl, vu, vs] } } := I4.kept (t' := s4.toks) fun b ob q => Heap.get?_push_of_some _ q
  obtain ⟨its, r, ht, hz⟩ := I5.tuple hx
  have hlen := r.length
  show wpAny (model X.prog X.w) X.A (subscriptTail e (.Slice none none (some (.UnaryOp .USub (.Constant (.int 1) k p1) p2)) p3) (.ref a) (.ref s4.heap.objs.size)) (EP X pins σ Q) X.xe { s4 with heap := s4.heap.push { cls := .type "slice", data := .fields #[vl, vu, vs] } }
  refine tail_any (ops := [.ref a, .ref s4.heap.objs.size]) ht.typeIs PyProof.Rows.slot_tuple_getitem.lookup ?_ (by with_unfolding_all rfl)
  refine HT.dl_rev_tuple ht (Heap.IsSliceOf.new _ vl vu vs) pl pu ps ?_ (by omega)
  exact DL.newT I5 r.reverse (by rw [List.length_reverse]; omega) q
end
end L2
namespace DL
open PySem PySem.Spec PyProof.Rows L2 RZ
/-- t[::-1] -/
def wRev (we : Wp) : Wp := fun δ S Q X => wV we δ S (fun x S1 => ∃ ds, x = .tup ds ∧ Q (.v (.tup ds.reverse)) S1) X
section
variable {K : PySem.W.Frag} {mg : Str → Option Value} {W : WX} {H : Hp} {L : LP} {ρ : List Addr} {S : Store} {O : LP}
theorem VRs.rev : ∀ {vs : List V} {ds : List Val}, VRs K H L ρ vs ds → VRs K H L ρ vs.reverse ds.reverse
  | _, _, .nil => .nil
  | _, _, .cons h r => by
    rw [List.reverse_cons, List.reverse_cons]
    exact r.rev.append (.cons h .nil)
theorem snd_rev {te : TE} {we : Wp} (he : Snd K mg W te we) : Snd K mg W (tRevT K te) (wRev we) := by
  intro g H L ρ σ δ S rep Q Xq hw hx P hP
  refine he.seq rep hw hx fun d S1 hk x H1 L1 ρ1 st1 rep1 v1 => ?_
  obtain ⟨ds, rfl, hq⟩ := hk
  cases v1 with
  | @tup a xs ds h1 r1 =>
    exact ⟨a, xs, rfl, h1.sq, (rep1.fin st1 hP).tup rep1.ctx hq r1.rev⟩
end
section
variable {X : Cx} {W : WX} {e : Expr} {w : Wp} {k : Nat} {p1 p2 p3 pos : Pos}
theorem e_rev (he : PED X W e w) : PED X W (.Subscript e (.Slice none none (some (.UnaryOp .USub (.Constant (.int 1) k p1) p2)) p3) pos) (wRev w) := PE.toD (pe_revT he) (snd_rev snd_tD)
end
section
variable {δ : DEnv} {S : Store} {Q : CQ} {X : XQ} {w we : Wp} {a : List Val}
@[simp ↓] theorem s_rev : wRev we δ S Q X = we δ S (fun r S1 => match fz r with | .tup ds => Q (.v (.tup ds.reverse)) S1 | _ => False) X := by
  unfold wRev wV
  congr 1; funext r S1; (try dsimp only)
  cases fz r <;> simp
end
end DL
namespace DL
open PySem PySem.Spec PyProof.Rows L2 RZ
/-- a bool or an int, and an int -/
def gAddB : G2 := fun S x y => match x, y with
  | .bl a, .int j => some (.v (.int ((if a = true then (1 : Int) else 0) + j)))
  | x, y => gAdd S x y
section
variable {X : Cx}
theorem or_addB : OpR X (binaryOp .Add) (rD2 X.K (by2 gAddB)) := by
  intro pins s σ H x y v u Q I rx ry h
  obtain ⟨L, ρ, O, S, d, e, q, c, vx, vy, ⟨r, hg, hq⟩, k⟩ := h
  unfold gAddB at hg
  split at hg
  · rename_i a j
    cases hg
    have ex := vx.bl_inv
    have ey := vy.int_inv
    subst ex ey
    cases rx
    obtain ⟨t, rfl⟩ := ry
    exact IntBool.add_bool_int ⟨.int _, H, I.tok _, ⟨_, rfl⟩, k.same c hq (.int _)⟩
  · exact or_add pins s σ H x y v u Q I rx ry ⟨L, ρ, O, S, _, _, q, c, vx, vy, ⟨r, hg, hq⟩, k⟩
end
section
variable {X : Cx} {W : WX} {a b : Expr} {wa wb : Wp} {pos : Pos}
theorem e_addB (ha : PED X W a wa) (hb : PED X W b wb) : PED X W (.BinOp a .Add b pos) (w2 (by2 gAddB) wa wb) := d_bin or_addB ha hb
end
/-- == (), whatever the items are -/
def gEqE : G2 := fun S x y => match x, y with
  | .tup ds, .tup [] => some (.v (.bl ds.isEmpty))
  | x, y => gEq S x y
section
variable {X : Cx}
theorem or_eqE (hu : X.A.units + 64 < cLine) : OpR X (compareOp .Eq) (rD2 X.K (by2 gEqE)) := by
  intro pins s σ H x y v u Q I rx ry h
  obtain ⟨L, ρ, O, S, d, e, q, c, vx, vy, ⟨r, hg, hq⟩, k⟩ := h
  unfold gEqE at hg
  split at hg
  · rename_i ds
    cases hg
    cases vx with
    | @tup a xs ds h1 r1 =>
      cases vy with
      | @tup b ys ds2 h2 r2 =>
        cases r2
        cases rx
        cases ry
        obtain ⟨i1, p1, t1, z1⟩ := I.tuple h1.sq
        obtain ⟨i2, p2, t2, z2⟩ := I.tuple h2.sq
        cases p2
        have hs : i1.toArray.size = ds.length := by rw [List.size_toArray, ← p1.length, r1.length]
        refine SeqAt.RcAt.tuples (e := fun _ => false) t1 t2 (by omega) (fun j q1 q2 => absurd q2 (by simp)) X.prog X.w _ _ ?_
        refine ⟨.bl _, H, I, rfl, ?_⟩
        have e : ((List.range (min i1.toArray.size (#[] : Array Value).size)).all (fun _ => false) && i1.toArray.size == (#[] : Array Value).size) = ds.isEmpty := by
          rw [hs]
          cases ds <;> simp
        rw [e]
        exact k.same c hq (.bl _)
  · exact or_eq hu pins s σ H x y v u Q I rx ry ⟨L, ρ, O, S, _, _, q, c, vx, vy, ⟨r, hg, hq⟩, k⟩
end
section
variable {X : Cx} {W : WX} {a b : Expr} {wa wb : Wp} {pos : Pos} {k : Nat}
theorem t_eqE (bd : Bd X W k) (ha : PED X W a wa) (hb : PED X W b wb) : PTD X W (.Compare a [.Eq] [b] pos) (wTst (w2 (by2 gEqE) wa wb)) := dt_cmp (or_eqE (by have := bd.un; omega)) ha hb (nomark _)
end
@[simp] theorem o_eqE {S : Store} {ds : List Val} : gEqE S (.tup ds) (.tup []) = some (.v (.bl ds.isEmpty)) := rfl
section
variable {S : Store} {i j : Int} {b : Bool}
@[simp] theorem o_addB_b : gAddB S (.bl b) (.int j) = some (.v (.int ((if b = true then (1 : Int) else 0) + j))) := rfl
@[simp] theorem o_addB_i : gAddB S (.int i) (.int j) = some (.v (.int (i + j))) := rfl
end
end DL
/-! DL42: values of any kind: closed, with bounds. -/
namespace DL
open PySem PySem.Spec PyProof.Rows L2 RZ
mutual
/-- a closed value with short strings and ints of at most B -/
def gdv (B : Nat) : Val → Bool
  | .non => true
  | .bl _ => true
  | .int i => decide (i.natAbs ≤ B)
  | .str x => PyData.strOk x && decide (x.cps.size ≤ 20)
  | .tup ds => gdvs B ds
  | .lst ds => gdvs B ds
  | .dct [] => true
  | _ => false
def gdvs (B : Nat) : List Val → Bool
  | [] => true
  | d :: ds => gdv B d && gdvs B ds
end
mutual
def gw : Val → Nat
  | .int _ => 206
  | .str x => x.cps.size + 1
  | .tup ds => gws ds + 1
  | .lst ds => gws ds + 1
  | _ => 1
def gws : List Val → Nat
  | [] => 0
  | d :: ds => gw d + gws ds
end
theorem gdvs_iff {B : Nat} : ∀ {ds : List Val}, gdvs B ds = true ↔ ∀ d ∈ ds, gdv B d = true
  | [] => by simp [gdvs]
  | d :: ds => by simp [gdvs, gdvs_iff (ds := ds)]
theorem gdv_t {B : Nat} {ds : List Val} : gdv B (.tup ds) = true ↔ ∀ d ∈ ds, gdv B d = true := by rw [← gdvs_iff]; simp [gdv]
theorem gdv_l {B : Nat} {ds : List Val} : gdv B (.lst ds) = true ↔ ∀ d ∈ ds, gdv B d = true := by rw [← gdvs_iff]; simp [gdv]
mutual
theorem gdv_mono {B C : Nat} (h : B ≤ C) : ∀ d : Val, gdv B d = true → gdv C d = true
  | .non, _ => by simp [gdv]
  | .bl _, _ => by simp [gdv]
  | .int i, q => by simp [gdv] at q ⊢; omega
  | .str x, q => by simpa [gdv] using q
  | .tup ds, q => by simp only [gdv] at q ⊢; exact gdvs_mono h ds q
  | .lst ds, q => by simp only [gdv] at q ⊢; exact gdvs_mono h ds q
  | .dct [], _ => by simp [gdv]
  | .dct (_ :: _), q => by simp [gdv] at q
  | .ref _, q => by simp [gdv] at q
  | .opq _, q => by simp [gdv] at q
  | .exn .., q => by simp [gdv] at q
  | .ld .., q => by simp [gdv] at q
  | .scr _, q => by simp [gdv] at q
  | .rtup _, q => by simp [gdv] at q
theorem gdvs_mono {B C : Nat} (h : B ≤ C) : ∀ ds : List Val, gdvs B ds = true → gdvs C ds = true
  | [], _ => by simp [gdvs]
  | d :: ds, q => by
    simp only [gdvs, Bool.and_eq_true] at q ⊢
    exact ⟨gdv_mono h d q.1, gdvs_mono h ds q.2⟩
end
theorem gws_app (a b : List Val) : gws (a ++ b) = gws a + gws b := by
  induction a with
  | nil => simp [gws]
  | cons d a ih => simp only [List.cons_append, gws, ih]; omega
theorem gws_rev (a : List Val) : gws a.reverse = gws a := by
  induction a with
  | nil => rfl
  | cons d a ih => rw [List.reverse_cons, gws_app, ih]; simp only [gws]; omega
theorem gw_pos : ∀ d : Val, 1 ≤ gw d
  | .int _ => by simp [gw]
  | .str x => by simp [gw]
  | .tup ds => by simp [gw]
  | .lst ds => by simp [gw]
  | .non => by simp [gw]
  | .bl _ => by simp [gw]
  | .dct _ => by simp [gw]
  | .ref _ => by simp [gw]
  | .opq _ => by simp [gw]
  | .exn .. => by simp [gw]
  | .ld .. => by simp [gw]
  | .scr _ => by simp [gw]
  | .rtup _ => by simp [gw]
theorem gws_len : ∀ ds : List Val, ds.length ≤ gws ds
  | [] => by simp [gws]
  | d :: ds => by simp only [gws, List.length_cons]; have := gws_len ds; have := gw_pos d; omega
theorem deps_iff {k : Nat} : ∀ {ds : List Val}, deps ds ≤ k ↔ ∀ d ∈ ds, dep d ≤ k
  | [] => by simp [deps]
  | d :: ds => by
    simp only [deps, List.mem_cons, forall_eq_or_imp, ← deps_iff (ds := ds)]
    omega
theorem gdv_drf {B : Nat} {v : Val} (h : gdv B v = true) (S : Store) : drf S v = v := by
  cases v <;> first | rfl | simp [gdv] at h
theorem gdv_ty {B : Nat} {v : Val} (h : gdv B v = true) : ∃ t, tyName v = some t := by
  cases v <;> first | exact ⟨_, rfl⟩ | simp [gdv] at h
/-- isinstance of a closed value -/
theorem gdv_isi {B : Nat} {v : Val} (h : gdv B v = true) {S : Store} {n : String} {b : Bool} (hb : ∀ t, tyName v = some t → isiB t n = some b) : gIsi S [v, .opq (.ty n)] = some (.v (.bl b)) := by
  obtain ⟨t, ht⟩ := gdv_ty h
  simp [gIsi, gdv_drf h, ht, hb t ht]
theorem gdv_notT {B : Nat} {v : Val} (h : gdv B v = true) (hn : ∀ ds, v ≠ .tup ds) {S : Store} : gIsi S [v, .opq (.ty "tuple")] = some (.v (.bl false)) := by
  refine gdv_isi h fun t ht => ?_
  cases v <;> simp [tyName] at ht <;> subst ht <;> first | (exact absurd rfl (hn _)) | simp [isiB]
/-! ### repr -/
mutual
theorem gdv_isR {B : Nat} : ∀ d : Val, gdv B d = true → isR d = true
  | .non, _ => by simp [isR]
  | .bl _, _ => by simp [isR]
  | .int i, _ => by simp [isR]
  | .str x, _ => by simp [isR]
  | .tup ds, q => by simp only [gdv] at q; simp only [isR]; exact gdvs_isR ds q
  | .lst ds, q => by simp only [gdv] at q; simp only [isR]; exact gdvs_isR ds q
  | .dct [], _ => by simp [isR]
  | .dct (_ :: _), q => by simp [gdv] at q
  | .ref _, q => by simp [gdv] at q
  | .opq _, q => by simp [gdv] at q
  | .exn .., q => by simp [gdv] at q
  | .ld .., q => by simp [gdv] at q
  | .scr _, q => by simp [gdv] at q
  | .rtup _, q => by simp [gdv] at q
theorem gdvs_isR {B : Nat} : ∀ ds : List Val, gdvs B ds = true → isRs ds = true
  | [], _ => by simp [isRs]
  | d :: ds, q => by
    simp only [gdvs, isRs, Bool.and_eq_true] at q ⊢
    exact ⟨gdv_isR d q.1, gdvs_isR ds q.2⟩
end
theorem ten61 : (10 : Nat) ^ 61 < 2 ^ 203 := by decide +kernel
theorem int_lg {i : Int} (h : i.natAbs < 10 ^ 61) : i.natAbs.log2 < 204 := by
  by_cases z : i.natAbs = 0
  · rw [z]; decide
  · have := (Nat.log2_lt z (k := 203)).mpr (Nat.lt_trans h ten61)
    omega
mutual
theorem gdv_sh {B : Nat} (hB : B < 10 ^ 61) : ∀ d : Val, gdv B d = true → (toPy d).showable = true
  | .non, _ => by simp [toPy, PyData.showable]
  | .bl _, _ => by simp [toPy, PyData.showable]
  | .int i, q => by
    simp only [gdv, decide_eq_true_eq] at q
    have := int_lg (i := i) (Nat.lt_of_le_of_lt q hB)
    simp only [toPy, PyData.showable, decide_eq_true_eq]
    omega
  | .str x, _ => by simp [toPy, PyData.showable]
  | .tup ds, q => by simp only [gdv] at q; simp only [toPy, PyData.showable]; exact gdvs_sh hB ds q
  | .lst ds, q => by simp only [gdv] at q; simp only [toPy, PyData.showable]; exact gdvs_sh hB ds q
  | .dct [], _ => by simp [toPy, PyData.showable, PyData.showableKv]
  | .dct (_ :: _), q => by simp [gdv] at q
  | .ref _, q => by simp [gdv] at q
  | .opq _, q => by simp [gdv] at q
  | .exn .., q => by simp [gdv] at q
  | .ld .., q => by simp [gdv] at q
  | .scr _, q => by simp [gdv] at q
  | .rtup _, q => by simp [gdv] at q
theorem gdvs_sh {B : Nat} (hB : B < 10 ^ 61) : ∀ ds : List Val, gdvs B ds = true → PyData.showableAll (toPys ds) = true
  | [], _ => by simp [toPys, PyData.showableAll]
  | d :: ds, q => by
    simp only [gdvs, toPys, PyData.showableAll, Bool.and_eq_true] at q ⊢
    exact ⟨gdv_sh hB d q.1, gdvs_sh hB ds q.2⟩
end
mutual
theorem gdv_lv {B : Nat} (hB : B < 10 ^ 61) : ∀ d : Val, gdv B d = true → (toPy d).leavesShort 62 = true
  | .non, _ => by simp [toPy, PyData.leavesShort]
  | .bl _, _ => by simp [toPy, PyData.leavesShort]
  | .int i, q => by
    simp only [gdv, decide_eq_true_eq] at q
    have e := int_text_length_le10 (k := 61) (by decide) (a := i) (Nat.lt_of_le_of_lt q hB)
    simp only [toPy, PyData.leavesShort, decide_eq_true_eq]
    show (Str.ofString (toString i)).length ≤ 62
    rw [PySem.ofString_length]; exact e
  | .str x, q => by
    simp only [gdv, Bool.and_eq_true] at q
    have h0 : x.cps.all (· < 0x110000) = true := q.1
    simp only [toPy, PyData.leavesShort, List.all_eq_true, decide_eq_true_eq]
    intro c hcm
    have h1 : c < 0x110000 := by
      have := (Array.all_eq_true_iff_forall_mem.mp h0) c (Array.mem_toList_iff.mp hcm)
      simpa using this
    exact Nat.lt_of_lt_of_le h1 (by decide)
  | .tup ds, q => by simp only [gdv] at q; simp only [toPy, PyData.leavesShort]; exact gdvs_lv hB ds q
  | .lst ds, q => by simp only [gdv] at q; simp only [toPy, PyData.leavesShort]; exact gdvs_lv hB ds q
  | .dct [], _ => by simp [toPy, PyData.leavesShort, PyData.leavesShortKv]
  | .dct (_ :: _), q => by simp [gdv] at q
  | .ref _, q => by simp [gdv] at q
  | .opq _, q => by simp [gdv] at q
  | .exn .., q => by simp [gdv] at q
  | .ld .., q => by simp [gdv] at q
  | .scr _, q => by simp [gdv] at q
  | .rtup _, q => by simp [gdv] at q
theorem gdvs_lv {B : Nat} (hB : B < 10 ^ 61) : ∀ ds : List Val, gdvs B ds = true → PyData.leavesShortAll 62 (toPys ds) = true
  | [], _ => by simp [toPys, PyData.leavesShortAll]
  | d :: ds, q => by
    simp only [gdvs, toPys, PyData.leavesShortAll, Bool.and_eq_true] at q ⊢
    exact ⟨gdv_lv hB d q.1, gdvs_lv hB ds q.2⟩
end
mutual
theorem gdv_wt {B : Nat} (hB : B < 10 ^ 61) : ∀ d : Val, gdv B d = true → (toPy d).weight + 1 ≤ gw d
  | .non, _ => by simp [toPy, PyData.weight, gw]
  | .bl _, _ => by simp [toPy, PyData.weight, gw]
  | .int i, q => by
    simp only [gdv, decide_eq_true_eq] at q
    have := int_lg (i := i) (Nat.lt_of_le_of_lt q hB)
    simp only [toPy, PyData.weight, gw]
    split <;> omega
  | .str x, _ => by simp [toPy, PyData.weight, gw]
  | .tup ds, q => by simp only [gdv] at q; simp only [toPy, PyData.weight, gw]; have := gdvs_wt hB ds q; omega
  | .lst ds, q => by simp only [gdv] at q; simp only [toPy, PyData.weight, gw]; have := gdvs_wt hB ds q; omega
  | .dct [], _ => by simp [toPy, PyData.weight, PyData.weightKv, gw]
  | .dct (_ :: _), q => by simp [gdv] at q
  | .ref _, q => by simp [gdv] at q
  | .opq _, q => by simp [gdv] at q
  | .exn .., q => by simp [gdv] at q
  | .ld .., q => by simp [gdv] at q
  | .scr _, q => by simp [gdv] at q
  | .rtup _, q => by simp [gdv] at q
theorem gdvs_wt {B : Nat} (hB : B < 10 ^ 61) : ∀ ds : List Val, gdvs B ds = true → PyData.weightAll (toPys ds) ≤ gws ds
  | [], _ => by simp [toPys, PyData.weightAll, gws]
  | d :: ds, q => by
    simp only [gdvs, Bool.and_eq_true] at q
    simp only [toPys, PyData.weightAll, gws]
    have := gdv_wt hB d q.1
    have := gdvs_wt hB ds q.2
    omega
end
theorem gdv_shown {B : Nat} {d : Val} (h : gdv B d = true) (hB : B < 10 ^ 61) (hw : gw d ≤ 200000) : (toPy d).shown.length ≤ 13000000 := by
  have h1 := PyData.shown_le 62 (by decide) (toPy d) (gdv_lv hB d h)
  have h2 := gdv_wt hB d h
  have h3 : (62 + 2) * (toPy d).weight ≤ 64 * 200000 := Nat.mul_le_mul (by omega) (by omega)
  omega
theorem gdv_shpR {B : Nat} {d : Val} (h : gdv B d = true) (hd : dep d ≤ 64) : shpR d = true := by
  unfold shpR
  rw [gdv_isR d h, Bool.true_and]
  exact decide_eq_true hd
end DL
/-! DL43: != [], whatever the items are. -/
namespace DL
open PySem PySem.Spec PyProof.Rows L2 RZ
def gNeE : G2 := fun S x y => match x, y with
  | .lst ds, .lst [] => some (.v (.bl (!ds.isEmpty)))
  | x, y => gNe S x y
@[simp] theorem o_neE {S : Store} {ds : List Val} : gNeE S (.lst ds) (.lst []) = some (.v (.bl (!ds.isEmpty))) := rfl
end DL
/-! DL44: dicts that are locked: made, read, walked. -/
namespace DL
open PySem PySem.Spec PyProof.Rows L2 RZ
section
variable {K : PySem.W.Frag} {mg : Str → Option Value} {W : WX} {H H' H0 H1 H2 H3 : Hp} {L L' L0 L1 LL : LP} {ρ ρ' ρ0 ρ1 ρ2 : List Addr} {σ σ' : Sg} {δ δ' : DEnv} {S S' : Store} {O : LP} {g : Gh}
def wLGet (wd wk : Wp) : Wp := fun δ S Q X => wV wd δ S (fun x S1 => wV wk δ S1 (fun y S2 => ∃ kvs k d, x = .ld kvs ∧ getKey y = some k ∧ dLook kvs k = some d ∧ Q (.v d) S2) X) X
def wLIn (neg : Bool) (wk wd : Wp) : Wp := fun δ S Q X => wV wk δ S (fun y S1 => wV wd δ S1 (fun x S2 => ∃ kvs k, x = .ld kvs ∧ getKey y = some k ∧ Q (.v (.bl (neg != (dLook kvs k).isSome))) S2) X) X
def wLGet1 (wd wk : Wp) : Wp := fun δ S Q X => wV wd δ S (fun x S1 => ∃ kvs, x = .ld kvs ∧ wV wk δ S1 (fun y S2 => ∃ k, getKey y = some k ∧ Q (.v ((dLook kvs k).getD .non)) S2) X) X
/-! walks -/
def wKeys (wd : Wp) : WpI := fun δ S Q X => wV wd δ S (fun x S1 => ∃ kvs, x = .ld kvs ∧ Q (kvs.map fun kv => keyV kv.1) S1) X
theorem VRk.get {vs : List (Key × V)} {ds : List (Key × Val)} (r : VRk K H L ρ vs ds) (i : Nat) : (vs[i]?).map (·.1) = (ds[i]?).map (·.1) := by
  have h := r.keys
  rw [← List.getElem?_map, ← List.getElem?_map, h]
/-! sorted(d), list(d) -/
end
section
variable {δ : DEnv} {S : Store} {Q : CQ} {X : XQ} {w wd wk : Wp} {neg : Bool}
@[simp ↓] theorem q_frz {i : Nat} {b c : WpS} {Dd : DEnds} : wsSeq (wsFrz i b) c Dd δ S X = wsFrz i (wsSeq b c) Dd δ S X := rfl
@[simp ↓] theorem s_lget : wLGet wd wk δ S Q X = wd δ S (fun x S1 => wk δ S1 (fun y S2 => match fz x, getKey (fz y) with
    | .ld kvs, some kk => (match dLook kvs kk with | some d => Q (.v d) S2 | none => False)
    | _, _ => False) X) X := by
  unfold wLGet wV
  congr 1; funext x S1; (try dsimp only); congr 1; funext y S2; (try dsimp only)
  cases fz x <;> cases getKey (fz y) <;> simp
  rename_i kvs kk
  cases dLook kvs kk <;> simp
@[simp ↓] theorem s_lin : wLIn neg wk wd δ S Q X = wk δ S (fun y S1 => wd δ S1 (fun x S2 => match fz x, getKey (fz y) with
    | .ld kvs, some kk => Q (.v (.bl (neg != (dLook kvs kk).isSome))) S2
    | _, _ => False) X) X := by
  unfold wLIn wV
  congr 1; funext y S1; (try dsimp only); congr 1; funext x S2; (try dsimp only)
  cases fz x <;> cases getKey (fz y) <;> simp
@[simp ↓] theorem s_lget1 : wLGet1 wd wk δ S Q X = wd δ S (fun x S1 => match fz x with
    | .ld kvs => wk δ S1 (fun y S2 => match getKey (fz y) with | some kk => Q (.v ((dLook kvs kk).getD .non)) S2 | none => False) X
    | _ => False) X := by
  unfold wLGet1 wV
  congr 1; funext x S1; (try dsimp only)
  cases fz x <;> simp only [reduceCtorEq, false_and, exists_const, Val.ld.injEq, exists_eq_left']
  congr 1; funext y S2; (try dsimp only)
  cases getKey (fz y) <;> simp
@[simp ↓] theorem s_keys {QL : List Val → Store → Prop} : wKeys wd δ S QL X = wd δ S (fun c S1 => match fz c with | .ld kvs => QL (kvs.map fun kv => keyV kv.1) S1 | _ => False) X := by
  unfold wKeys wV
  congr 1; funext c S1; (try dsimp only)
  cases fz c <;> simp
@[simp] theorem noL_ld {kvs : List (Key × Val)} : noL (.ld kvs) = noLk kvs := rfl
@[simp] theorem noLk_nil : noLk [] = true := rfl
@[simp] theorem noLk_cons {k : Key} {d : Val} {kvs : List (Key × Val)} : noLk ((k, d) :: kvs) = (noL d && noLk kvs) := rfl
end
end DL
/-! DL45: d.get(k, x) of a locked dict. -/
namespace DL
open PySem PySem.Spec PyProof.Rows L2 RZ
def wLGet2 (wd wk wz : Wp) : Wp := fun δ S Q X => wV wd δ S (fun x S1 => ∃ kvs, x = .ld kvs ∧ wV wk δ S1 (fun y S2 => wV wz δ S2 (fun z S3 => ∃ k, getKey y = some k ∧ Q (.v ((dLook kvs k).getD z)) S3) X) X) X
section
variable {δ : DEnv} {S : Store} {Q : CQ} {X : XQ} {w wd wk wz : Wp}
@[simp ↓] theorem s_lget2 : wLGet2 wd wk wz δ S Q X = wd δ S (fun x S1 => match fz x with
    | .ld kvs => wk δ S1 (fun y S2 => wz δ S2 (fun z S3 => match getKey (fz y) with | some kk => Q (.v ((dLook kvs kk).getD (fz z))) S3 | none => False) X) X
    | _ => False) X := by
  unfold wLGet2 wV
  congr 1; funext x S1; (try dsimp only)
  cases fz x <;> simp only [reduceCtorEq, false_and, exists_const, Val.ld.injEq, exists_eq_left']
  congr 1; funext y S2; (try dsimp only); congr 1; funext z S3; (try dsimp only)
  cases getKey (fz y) <;> simp
end
end DL
/-! DL46: the head's addresses, each once, found by a mask of bits. -/
namespace DL
open PySem PySem.Spec PyProof.Rows L2 RZ
noncomputable def putA {β : Type} (rs : List Addr) (m : Nat) (acc : List Addr) (k : Nat → List Addr → β) : β :=
  @List.rec Addr (fun _ => Nat → List Addr → β) (fun m acc => k m acc) (fun a _ ih m acc => cond (Nat.beq (Nat.land (Nat.shiftRight m a) 1) 0) (HandSHeadRun.frNat a fun a' => HandSHeadRun.frNat (Nat.lor m (Nat.shiftLeft 1 a')) fun m' => ih m' (a' :: acc)) (ih m acc)) rs m acc
noncomputable def levA {β : Type} (g : Addr → Option Obj) (fr : List Addr) (m : Nat) (acc : List Addr) (k : Nat → List Addr → β) : β :=
  @List.rec Addr (fun _ => Nat → List Addr → β) (fun m acc => k m acc) (fun a _ ih m acc => match g a with
    | some o => putA (He.refsD o) m acc ih
    | none => ih m acc) fr m acc
/-- what the frontier reaches in n steps -/
noncomputable def asB (g : Addr → Option Obj) : Nat → List Addr → Nat → List Addr → List Addr
  | 0, fr, _, all => fr ++ all
  | n + 1, fr, m, all => levA g fr m [] fun m' fr' => asB g n fr' m' (fr ++ all)
noncomputable def asY (g : Addr → Option Obj) (n : Nat) : List Addr := mainGlobals :: cStatics :: sysModules :: asB g n [mainGlobals] 0 []
noncomputable def obsYG (n : Nat) (fa : List He.Fa) (fn : List He.DefD) (ex : List XT) (g : Addr → Option Obj) : He.AlD := obsX fa fn ex (He.frG g (asY g n))
noncomputable def hookY (n : Nat) (fa : List He.Fa) (fn : List He.DefD) (ex : List XT) : PySem.W.Hook where
  α := He.AlD
  obs := fun s => obsYG n fa fn ex s.heap.get?
  val := fun _ => He.valD fn
  says := fun _ h => ∃ K : PySem.W.Frag, K.In h ∧ SaysX fa fn ex K
  of := fun _ _ e => ⟨_, He.frG_in, e⟩
  keeps := fun _ _ _ ⟨K, hK, c⟩ k => ⟨K, PySem.W.Frag.In.keeps hK k, c⟩
theorem obsYG_eq {n : Nat} {fa : List He.Fa} {fn : List He.DefD} {ex : List XT} {g : Addr → Option Obj} {s : Shared} (h : ∀ a, g a = s.heap.get? a) : obsYG n fa fn ex g = (hookY n fa fn ex).obs s := by
  have e : g = s.heap.get? := funext h
  rw [e] <;> rfl
noncomputable abbrev KY (n : Nat) (s : PySem.W.SharedT) : PySem.W.Frag := He.frG (HandSHeadRun.getT s) (asY (HandSHeadRun.getT s) n)
/-- the run's equation, from its parts -/
theorem joinY {A B : Type} {x : Option PySem.W.SharedT} {f1 : PySem.W.SharedT → A} {f2 : PySem.W.SharedT → B} {v1 : A} {v2 : B} {n : Nat} {fa : List He.Fa} {fn1 fn2 : List He.DefD} {ex : List XT}
    (h1 : x.map (fun s => (f1 s, f2 s)) = some (v1, v2)) (h2 : x.map (fun s => (fa.all fun f => f.ok (KY n s), fn1.all fun d => d.ok (KY n s))) = some (true, true))
    (h3 : x.map (fun s => (ex.all fun t => t (KY n s), fn2.all fun d => d.ok (KY n s))) = some (true, true))
    (h4 : x.map (fun s => (fn1 ++ fn2).map fun d => He.fnW (KY n s) d.at_) = some ((fn1 ++ fn2).map He.DefD.val)) :
    x.map (fun s => (f1 s, f2 s, obsYG n fa (fn1 ++ fn2) ex (HandSHeadRun.getT s))) = some (v1, v2, He.valD (fn1 ++ fn2)) := by
  cases x with
  | none => cases h1
  | some s =>
    obtain ⟨a1, a2⟩ := Prod.mk.inj (Option.some.inj h1)
    obtain ⟨b1, b2⟩ := Prod.mk.inj (Option.some.inj h2)
    obtain ⟨c1, c2⟩ := Prod.mk.inj (Option.some.inj h3)
    have d : ((fn1 ++ fn2).map fun d => He.fnW (KY n s) d.at_) = (fn1 ++ fn2).map He.DefD.val := Option.some.inj h4
    have e : obsYG n fa (fn1 ++ fn2) ex (HandSHeadRun.getT s) = He.valD (fn1 ++ fn2) := by
      show (((fa.all fun f => f.ok (KY n s)) && (fn1 ++ fn2).all fun d => d.ok (KY n s)) && ex.all fun t => t (KY n s), (fn1 ++ fn2).map fun d => He.fnW (KY n s) d.at_) = (true, (fn1 ++ fn2).map He.DefD.val)
      rw [d, b1, c1, List.all_append, b2, c2]
      rfl
    show some (f1 s, f2 s, obsYG n fa (fn1 ++ fn2) ex (HandSHeadRun.getT s)) = _
    rw [e, a1, a2]
end DL
/-! S1: houses: neighbors, the search for paths. -/
namespace DL
open PySem PySem.Spec PyProof.Rows L2 RZ
/-- a slot that holds nothing or a value -/
def ov (x : Option Val) : Option Cell := x.map Cell.v
@[simp] theorem mask_ov {x : Option Val} {δ : DEnv} : mask (ov x :: δ) = ov x :: mask δ := by cases x <;> rfl
@[simp] theorem noOwn_ov {x : Option Val} {δ : DEnv} : noOwn (ov x :: δ) = noOwn δ := by cases x <;> rfl
@[simp] theorem noLs_app : ∀ a b : List Val, noLs (a ++ b) = (noLs a && noLs b)
  | [], b => by simp [noLs]
  | x :: a, b => by simp [noLs, noLs_app a b, Bool.and_assoc]
@[simp] theorem noL_tup {a : List Val} : noL (.tup a) = noLs a := rfl
@[simp] theorem noL_int {i : Int} : noL (.int i) = true := rfl
@[simp] theorem noL_non : noL .non = true := rfl
@[simp] theorem noL_bl {b : Bool} : noL (.bl b) = true := rfl
@[simp] theorem noL_str {b : Str} : noL (.str b) = true := rfl
@[simp] theorem noL_ref {b : Nat} : noL (.ref b) = true := rfl
@[simp] theorem noLs_nil : noLs [] = true := rfl
@[simp] theorem noLs_cons {d : Val} {ds : List Val} : noLs (d :: ds) = (noL d && noLs ds) := rfl
/-- the adjacent rooms, ascending -/
def nb (D : List (Int × Int)) (r : Int) : List Int := sortI ((D.filter fun p => decide (p.1 = r)).map (·.2) ++ (D.filter fun p => decide (p.2 = r)).map (·.1))
def F_neighbors : FSpec := fun ds S Q _ => ∃ n D r, ds = [hv n D, .int r] ∧ D.length ≤ 1000 ∧ Q (.v (.tup (iv (nb D r)))) S
def F__law_neighbors : FSpec := fun ds S Q _ => ∃ n D r, ds = [hv n D, .int r] ∧ D.length ≤ 1000 ∧ Q (.l (iv (nb D r))) S
/-! ### the search -/
abbrev Mp := List (Int × List Int)
def mv (m : Mp) : List (Key × Val) := m.map fun q => (Sum.inl q.1, Val.tup (iv q.2))
def lk (m : Mp) (x : Int) : Option (List Int) := (m.find? fun q => decide (q.1 = x)).map (·.2)
def ends (D : List (Int × Int)) : List Int := D.map (·.1) ++ D.map (·.2)
def unseen (D : List (Int × Int)) (m : Mp) : Nat := ((ends D).filter fun x => !(lk m x).isSome).length
def visit (p : List Int) : Mp × List Int → Int → Mp × List Int := fun s t => if (lk s.1 t).isSome = true then s else (s.1 ++ [(t, p ++ [t])], s.2 ++ [t])
def srch (D : List (Int × Int)) : Nat → Mp → List Int → Mp
  | 0, m, _ => m
  | f + 1, m, st => match st.getLast? with
    | none => m
    | some h => let s := (nb D h).foldl (visit ((lk m h).getD [])) (m, st.dropLast); srch D f s.1 s.2
def mea (D : List (Int × Int)) (m : Mp) (st : List Int) : Nat := 2 * unseen D m + st.length
/-- all paths from a -/
def pathsM (D : List (Int × Int)) (a : Int) : Mp := srch D (mea D [(a, [a])] [a]) [(a, [a])] [a]
/-- the path from a to b -/
def pathV (D : List (Int × Int)) (a b : Int) : Val := match lk (pathsM D a) b with
  | some p => .tup (iv p)
  | none => .non
theorem dLook_mv (x : Int) : ∀ m : Mp, dLook (mv m) (.inl x) = (lk m x).map fun p => .tup (iv p)
  | [] => rfl
  | q :: m => by
    have ih := dLook_mv x m
    unfold dLook lk mv at ih ⊢
    by_cases h : q.1 = x
    · simp [h]
    · have h2 : ¬ (Sum.inl q.1 : Key) = Sum.inl x := fun e => h (Sum.inl.inj e)
      simp only [List.map_cons, List.find?_cons, h, h2, decide_false]
      exact ih
theorem lk_app {m : Mp} {t : Int} {p : List Int} {x : Int} : lk (m ++ [(t, p)]) x = match lk m x with | some q => some q | none => if t = x then some p else none := by
  unfold lk
  rw [List.find?_append]
  cases m.find? fun q => decide (q.1 = x) with
  | none => by_cases h : t = x <;> simp [h]
  | some q => simp
theorem dPut_mv {m : Mp} {t : Int} {p : List Int} (h : lk m t = none) : dPut (mv m) (.inl t) (.tup (iv p)) = mv (m ++ [(t, p)]) := by
  have e : ((mv m).any fun kv => decide (kv.1 = Sum.inl t)) = false := by
    have q : dLook (mv m) (.inl t) = none := by rw [dLook_mv, h]; rfl
    unfold dLook at q
    rw [Option.map_eq_none_iff, List.find?_eq_none] at q
    rw [List.any_eq_false]
    exact fun x hx => q x hx
  unfold dPut
  rw [e]
  simp [mv]
structure SOk (D : List (Int × Int)) (B : Nat) (m : Mp) (st : List Int) : Prop where
  len : m.length + unseen D m ≤ B
  ps : ∀ x p, lk m x = some p → p.length ≤ m.length
  st : ∀ x ∈ st, (lk m x).isSome = true
theorem filter_lt {α : Type} {q q' : α → Bool} {t : α} : ∀ {l : List α}, (∀ x, q x = true → q' x = true) → t ∈ l → q' t = true → q t = false → (l.filter q).length < (l.filter q').length
  | [], _, h, _, _ => by simp at h
  | x :: l, h1, h, h2, h3 => by
    have le : (l.filter q).length ≤ (l.filter q').length := by
      have := List.Sublist.length_le (List.filter_sublist (p := q) (l := l.filter q'))
      rw [List.filter_filter] at this
      have e : (fun a => q a && q' a) = q := funext fun a => by
        cases e1 : q a with
        | false => rfl
        | true => simp [h1 a e1]
      rwa [e] at this
    rcases List.mem_cons.mp h with rfl | h
    · rw [List.filter_cons_of_pos h2, List.filter_cons_of_neg (by simp [h3]), List.length_cons]; omega
    · have ih := filter_lt h1 h h2 h3
      cases e1 : q x with
      | true => rw [List.filter_cons_of_pos e1, List.filter_cons_of_pos (h1 x e1), List.length_cons, List.length_cons]; omega
      | false =>
        rw [List.filter_cons_of_neg (by simp [e1])]
        cases e2 : q' x with
        | true => rw [List.filter_cons_of_pos e2, List.length_cons]; omega
        | false => rw [List.filter_cons_of_neg (by simp [e2])]; exact ih
theorem unseen_lt {D : List (Int × Int)} {m : Mp} {t : Int} {p : List Int} (ht : t ∈ ends D) (h : lk m t = none) : unseen D (m ++ [(t, p)]) < unseen D m := by
  refine filter_lt (t := t) (fun x hx => ?_) ht (by simp [h]) (by rw [lk_app, h]; simp)
  rw [lk_app] at hx
  cases e : lk m x with
  | none => rfl
  | some q => rw [e] at hx; simp at hx
theorem SOk.visit {D : List (Int × Int)} {B : Nat} {m : Mp} {st : List Int} {t h : Int} {p : List Int} (o : SOk D B m st) (ht : t ∈ ends D) (hn : lk m t = none) (hp : lk m h = some p) :
    SOk D B (m ++ [(t, p ++ [t])]) (st ++ [t]) ∧ mea D (m ++ [(t, p ++ [t])]) (st ++ [t]) < mea D m st ∧ lk (m ++ [(t, p ++ [t])]) h = some p := by
  have lt := unseen_lt (p := p ++ [t]) ht hn
  refine ⟨⟨?_, fun x q hq => ?_, fun x hx => ?_⟩, ?_, by rw [lk_app, hp]⟩
  · have := o.len
    rw [List.length_append, List.length_singleton]; omega
  · rw [lk_app] at hq
    rw [List.length_append, List.length_singleton]
    cases e : lk m x with
    | some r =>
      rw [e] at hq
      cases hq
      have := o.ps x q e
      omega
    | none =>
      rw [e] at hq
      have hp' := o.ps h p hp
      by_cases e2 : t = x
      · simp [e2] at hq
        rw [← hq]; simp; exact hp'
      · simp [e2] at hq
  · rw [lk_app]
    rcases List.mem_append.mp hx with hx | hx
    · have := o.st x hx
      cases e : lk m x with
      | some r => rfl
      | none => rw [e] at this; cases this
    · rw [List.mem_singleton.mp hx, hn]; simp
  · unfold mea
    rw [List.length_append, List.length_singleton]
    omega
theorem nb_ends {D : List (Int × Int)} {r t : Int} (h : t ∈ nb D r) : t ∈ ends D := by
  have h1 := (sortI_perm _).mem_iff.mp h
  unfold ends
  rcases List.mem_append.mp h1 with h1 | h1
  · obtain ⟨p, hp, rfl⟩ := List.mem_map.mp h1
    exact List.mem_append.mpr (.inr (List.mem_map.mpr ⟨p, (List.mem_filter.mp hp).1, rfl⟩))
  · obtain ⟨p, hp, rfl⟩ := List.mem_map.mp h1
    exact List.mem_append.mpr (.inl (List.mem_map.mpr ⟨p, (List.mem_filter.mp hp).1, rfl⟩))
theorem SOk.start (D : List (Int × Int)) (a : Int) : SOk D (2 * D.length + 1) [(a, [a])] [a] := by
  refine ⟨?_, fun x p h => ?_, fun x hx => ?_⟩
  · have : unseen D [(a, [a])] ≤ (ends D).length := List.length_filter_le _ _
    simp [ends] at this ⊢
    omega
  · unfold lk at h
    simp at h
    rw [← h.2]; simp
  · rw [List.mem_singleton.mp hx]; simp [lk]
theorem srch_nil (D : List (Int × Int)) (f : Nat) (m : Mp) : srch D f m [] = m := by cases f <;> rfl
theorem srch_snoc (D : List (Int × Int)) (f : Nat) (m : Mp) (st : List Int) (h : Int) : srch D (f + 1) m (st ++ [h]) = (let s := (nb D h).foldl (visit ((lk m h).getD [])) (m, st); srch D f s.1 s.2) := by
  simp [srch]
theorem visit_seen {p : List Int} {m : Mp} {st : List Int} {t : Int} (h : (lk m t).isSome = true) : visit p (m, st) t = (m, st) := if_pos h
theorem visit_new {p : List Int} {m : Mp} {st : List Int} {t : Int} (h : lk m t = none) : visit p (m, st) t = (m ++ [(t, p ++ [t])], st ++ [t]) := if_neg (by simp [h])
def F_paths_from : FSpec := fun ds S Q _ => ∃ n D r, ds = [hv n D, .int r] ∧ D.length ≤ 1000 ∧ Q (.m (mv (pathsM D r))) S
def F_path_between : FSpec := fun ds S Q _ => ∃ n D a b, ds = [hv n D, .int a, .int b] ∧ D.length ≤ 1000 ∧ Q (.v (pathV D a b)) S
theorem pathV_eq (D : List (Int × Int)) (a b : Int) : ((lk (pathsM D a) b).map fun p => Val.tup (iv p)).getD .non = pathV D a b := by
  unfold pathV; cases lk (pathsM D a) b <;> rfl
end DL
/-! S2: houses: the defs keep their promises. -/
namespace DL
open PySem PySem.Spec PyProof.Rows L2 RZ
def ws_neighbors : WpS :=
  (wsSeq (wsSet true 2 (wLc (wSeq (w2 (by2 gIx) (wVar 0) (wC (.int 1)))) (.tp (.cons (.nm 3) (.cons (.nm 4) .nil))) (wTst (w2 (by2 gEq) (wVar 3) (wVar 1))) (wVar 4) [3, 4]))
  (wsRet (wN (byN gTuple) (wCons (wN (byN gSorted) (wCons (w2 (by2 gAdd) (wVar 2) (wLc (wSeq (w2 (by2 gIx) (wVar 0) (wC (.int 1)))) (.tp (.cons (.nm 3) (.cons (.nm 4) .nil))) (wTst (w2 (by2 gEq) (wVar 4) (wVar 1))) (wVar 3) [3, 4])) wNil)) wNil))))
def ws__law_neighbors : WpS :=
  (wsSeq (wsSet true 2 (wLc (wSeq (w2 (by2 gIx) (wVar 0) (wC (.int 1)))) (.tp (.cons (.nm 3) (.cons (.nm 4) .nil))) (wTst (w2 (by2 gEq) (wVar 3) (wVar 1))) (wVar 4) [3, 4]))
  (wsRet (wN (byN gSorted) (wCons (w2 (by2 gAdd) (wVar 2) (wLc (wSeq (w2 (by2 gIx) (wVar 0) (wC (.int 1)))) (.tp (.cons (.nm 3) (.cons (.nm 4) .nil))) (wTst (w2 (by2 gEq) (wVar 4) (wVar 1))) (wVar 3) [3, 4])) wNil))))
def ws_paths_from : WpS :=
  (wsSeq (wsSetO true 2 (wDisp (((wVar 1), (wTup (wCons (wVar 1) wNil))) :: [])))
  (wsSeq (wsSetO true 3 (wLst (wCons (wVar 1) wNil)))
  (wsSeq (wsWhile (wTru (byT truV) (wVar 3))
  (wsSeq (wsPop 3 4)
  (wsFor (wSeq (wCall (fun ds S Q Xq => ds.length = 2 ∧ F_neighbors ds S Q Xq) (wCons (wVar 0) (wCons (wVar 4) wNil)))) (.nm 5)
  (wsIf (wTst (wDIn true (wVar 5) (wVar 2)))
  (wsSeq (wsDPut false 2 (wVar 5) (w2 (by2 gAdd) (wDGet (wVar 2) (wVar 4)) (wTup (wCons (wVar 5) wNil))))
  (wsAppend true 3 (wVar 5)))
  wsNext))))
  (wsRetO 2))))
def ws_path_between : WpS :=
  (wsRet (wDGet1 (wCall (fun ds S Q Xq => ds.length = 2 ∧ F_paths_from ds S Q Xq) (wCons (wVar 0) (wCons (wVar 1) wNil))) (wVar 2)))
theorem nb_len (D : List (Int × Int)) (r : Int) : (nb D r).length ≤ 2 * D.length := by
  have h1 := List.length_filter_le (fun p : Int × Int => decide (p.1 = r)) D
  have h2 := List.length_filter_le (fun p : Int × Int => decide (p.2 = r)) D
  unfold nb
  rw [(sortI_perm _).length_eq, List.length_append, List.length_map, List.length_map]
  omega
theorem p_neighbors : ∀ ds S Qd Xd, ds.length = 2 → F_neighbors ds S Qd Xd → ws_neighbors { nx := fun _ S' => Qd (.v .non) S', rt := Qd } (startD ["house", "room", "found", "a", "b"] ds) S (fun x _ S' => Xd x S') := by
  rintro ds S Qd Xd - ⟨n, D, r, rfl, hD, h⟩
  have hs := sizeLine_eq
  have h1 := List.length_filter_le (fun p : Int × Int => decide (p.1 = r)) D
  have h2 := List.length_filter_le (fun p : Int × Int => decide (p.2 = r)) D
  simp [ws_neighbors, startD, hv, at1]
  refine lc_pure prV .int (fun p => decide (p.1 = r)) (·.2) S (fun p => ⟨by simp, _, rfl, by simp, by simp +contextual⟩) D [] (by simp; omega) ?_
  simp [at1, -List.map_map]
  refine lc_pure prV .int (fun p => decide (p.2 = r)) (·.1) S (fun p => ⟨by simp, _, rfl, by simp, by simp +contextual⟩) D [] (by simp; omega) ?_
  have h3 : (D.filter fun p : Int × Int => decide (p.1 = r)).length + (D.filter fun p : Int × Int => decide (p.2 = r)).length ≤ sizeLine := by omega
  simp [-List.map_map, h3]
  rw [← List.map_append]
  simp [-List.map_append, -List.map_map]
  exact h
theorem p__law_neighbors : ∀ ds S Qd Xd, ds.length = 2 → F__law_neighbors ds S Qd Xd → ws__law_neighbors { nx := fun _ S' => Qd (.v .non) S', rt := Qd } (startD ["_law_house_here", "_law_room", "_law_found", "_law_one", "_law_other"] ds) S (fun x _ S' => Xd x S') := by
  rintro ds S Qd Xd - ⟨n, D, r, rfl, hD, h⟩
  have hs := sizeLine_eq
  have h1 := List.length_filter_le (fun p : Int × Int => decide (p.1 = r)) D
  have h2 := List.length_filter_le (fun p : Int × Int => decide (p.2 = r)) D
  simp [ws__law_neighbors, startD, hv, at1]
  refine lc_pure prV .int (fun p => decide (p.1 = r)) (·.2) S (fun p => ⟨by simp, _, rfl, by simp, by simp +contextual⟩) D [] (by simp; omega) ?_
  simp [at1, -List.map_map]
  refine lc_pure prV .int (fun p => decide (p.2 = r)) (·.1) S (fun p => ⟨by simp, _, rfl, by simp, by simp +contextual⟩) D [] (by simp; omega) ?_
  have h3 : (D.filter fun p : Int × Int => decide (p.1 = r)).length + (D.filter fun p : Int × Int => decide (p.2 = r)).length ≤ sizeLine := by omega
  simp [-List.map_map, h3]
  rw [← List.map_append]
  simp [-List.map_append, -List.map_map]
  exact h
theorem mea_start (D : List (Int × Int)) (r : Int) (hD : D.length ≤ 1000) : mea D [(r, [r])] [r] ≤ 100000 := by
  have : unseen D [(r, [r])] ≤ (ends D).length := List.length_filter_le _ _
  unfold mea
  simp [ends] at this ⊢
  omega
/-- the inner loop: the rooms next to h, one by one -/
theorem paths_from_for {n : Int} {D : List (Int × Int)} {a h : Int} {B : Nat} {p : List Int} {Dd : DEnds} {S : Store} {X : XQ} (hB : B ≤ 100000) : ∀ (ts : List Int) (m : Mp) (st : List Int) (x : Option Val), SOk D B m st → (∀ t ∈ ts, t ∈ ends D) → lk m h = some p → st.length + 2 * unseen D m ≤ 1000000 →
    (∀ y, SOk D B (ts.foldl (visit p) (m, st)).1 (ts.foldl (visit p) (m, st)).2 → mea D (ts.foldl (visit p) (m, st)).1 (ts.foldl (visit p) (m, st)).2 ≤ mea D m st → Dd.nx [some (.v (hv n D)), some (.v (.int a)), some (.m (mv (ts.foldl (visit p) (m, st)).1)), some (.l (iv (ts.foldl (visit p) (m, st)).2)), some (.v (.int h)), ov y] S) →
    wsForGo (.nm 5) (wsIf (wTst (wDIn true (wVar 5) (wVar 2))) (wsSeq (wsDPut false 2 (wVar 5) (w2 (by2 gAdd) (wDGet (wVar 2) (wVar 4)) (wTup (wCons (wVar 5) wNil)))) (wsAppend true 3 (wVar 5))) wsNext) Dd X (iv ts)
      [some (.v (hv n D)), some (.v (.int a)), some (.m (mv m)), some (.l (iv st)), some (.v (.int h)), ov x] S
  | [], m, st, x, o, _, _, _, k => k x o (Nat.le_refl _)
  | t :: ts, m, st, x, o, hts, hp, hz, k => by
    have hs := sizeLine_eq
    refine ⟨_, rfl, ?_⟩
    have ht := hts t (List.mem_cons_self ..)
    have hts' : ∀ t ∈ ts, t ∈ ends D := fun u hu => hts u (List.mem_cons_of_mem _ hu)
    cases e : lk m t with
    | some q =>
      have e2 : visit p (m, st) t = (m, st) := visit_seen (by rw [e]; rfl)
      rw [List.foldl_cons, e2] at k
      simp [dLook_mv, e]
      exact paths_from_for hB ts m st (some (.int t)) o hts' hp hz k
    | none =>
      have e2 : visit p (m, st) t = (m ++ [(t, p ++ [t])], st ++ [t]) := visit_new e
      obtain ⟨o', me, hp'⟩ := o.visit ht e hp
      rw [List.foldl_cons, e2] at k
      have l1 := o.len
      have l2 := o.ps h p hp
      have l3 : (mv m).length = m.length := by simp [mv]
      have l4 : st.length < sizeLine := by omega
      have l5 : p.length + 1 ≤ sizeLine := by omega
      have l6 : (mv m).length < sizeLine := by omega
      have me' := me
      unfold mea at me'
      have e3 : dPut (mv m) (.inl t) (.tup (iv p ++ [.int t])) = mv (m ++ [(t, p ++ [t])]) := by
        rw [← dPut_mv e]; simp
      have e4 : iv st ++ [.int t] = iv (st ++ [t]) := by simp
      simp [dLook_mv, e, hp, l4, l5, l6, e3]
      refine ⟨by omega, ?_⟩
      have go := paths_from_for (Dd := Dd) (X := X) (S := S) (n := n) (a := a) hB ts (m ++ [(t, p ++ [t])]) (st ++ [t]) (some (.int t)) o' hts' hp' (by omega) fun y o2 m2 => k y o2 (Nat.le_trans m2 (Nat.le_of_lt me))
      simpa [ov] using go
theorem p_paths_from : ∀ ds S Qd Xd, ds.length = 2 → F_paths_from ds S Qd Xd → ws_paths_from { nx := fun _ S' => Qd (.v .non) S', rt := Qd } (startD ["house", "room", "paths", "stack", "here", "there"] ds) S (fun x _ S' => Xd x S') := by
  rintro ds S Qd Xd - ⟨n, D, r, rfl, hD, h⟩
  have hs := sizeLine_eq
  simp [ws_paths_from, startD]
  refine ⟨szl (by omega), rfl, szl (by omega), rfl, ?_⟩
  obtain ⟨I, hI⟩ : ∃ I : Nat → DEnv → Store → Prop, I = fun f δ S' => S' = S ∧ ∃ m st x y, δ = [some (.v (hv n D)), some (.v (.int r)), some (.m (mv m)), some (.l (iv st)), ov x, ov y] ∧ SOk D (2 * D.length + 1) m st ∧ mea D m st ≤ f ∧ f ≤ 100000 ∧ srch D f m st = pathsM D r := ⟨_, rfl⟩
  refine ⟨I, ⟨mea D [(r, [r])] [r], by rw [hI]; exact ⟨rfl, [(r, [r])], [r], none, none, rfl, .start D r, Nat.le_refl _, mea_start D r hD, rfl⟩⟩, ?_⟩
  intro f δ S' hi
  rw [hI] at hi
  obtain ⟨rfl, m, st, x, y, rfl, o, hf, hf2, e⟩ := hi
  by_cases hst : st = []
  · subst hst
    rw [srch_nil] at e
    subst e
    simp
    exact ⟨rfl, h⟩
  · obtain ⟨u, st', rfl⟩ : ∃ u st', st = st' ++ [u] := ⟨st.getLast hst, st.dropLast, (List.dropLast_concat_getLast hst).symm⟩
    have f1 : 1 ≤ f := by unfold mea at hf; simp at hf; omega
    obtain ⟨f', rfl⟩ : ∃ f', f = f' + 1 := ⟨f - 1, by omega⟩
    rw [srch_snoc] at e
    have hu := o.st u (by simp)
    obtain ⟨p, hp⟩ := Option.isSome_iff_exists.mp hu
    rw [hp] at e
    have o1 : SOk D (2 * D.length + 1) m st' := ⟨o.len, o.ps, fun z hz => o.st z (by simp [hz])⟩
    have hm : mea D m st' ≤ f' := by unfold mea at hf ⊢; simp at hf; omega
    have l1 := o.len
    simp [-List.map_append]
    refine ⟨iv st', .int u, by simp, ?_⟩
    simp
    refine ⟨n, D, u, rfl, hD, ?_⟩
    refine paths_from_for (p := p) (B := 2 * D.length + 1) (by omega) (nb D u) m st' y o1 (fun t ht => nb_ends ht) hp (by unfold mea at hm; omega) fun z o2 m2 => ⟨f', Nat.lt_succ_self _, by rw [hI]; exact ⟨rfl, _, _, some (.int u), z, rfl, o2, Nat.le_trans m2 hm, by omega, e⟩⟩
theorem p_path_between : ∀ ds S Qd Xd, ds.length = 3 → F_path_between ds S Qd Xd → ws_path_between { nx := fun _ S' => Qd (.v .non) S', rt := Qd } (startD ["house", "a", "b"] ds) S (fun x _ S' => Xd x S') := by
  rintro ds S Qd Xd - ⟨n, D, a, b, rfl, hD, h⟩
  simp [ws_path_between, startD]
  refine ⟨n, D, a, rfl, hD, ?_⟩
  simpa [dLook_mv, pathV_eq] using h
end DL
/-! S3: the stream, its draws, comparison. -/
namespace DL
open PySem PySem.Spec PyProof.Rows L2 RZ
/-- the stream: its big cells, its cells, its count of mixed draws; R: what lies behind -/
def stS (b c : List Int) (t : Int) (R : Store) : Store := .lst (iv b) :: .lst (iv c) :: .lst [.ref 0, .ref 1, .int t] :: R
/-- there, with m more draws -/
def St (m : Nat) (R S : Store) : Prop := ∃ (b c : List Int) (t : Int), c ≠ [] ∧ 0 ≤ t ∧ t + m ≤ 1000000000 ∧ S = stS b c t R
def F__law_stream : FSpec := fun ds S Q _ => ∃ ns, ds = [.scr ns] ∧ S = [] ∧ ns.length ≤ 63 ∧ ∀ S', St 1000000000 [] S' → Q (.v (.ref 2)) S'
def F__law_draw : FSpec := fun ds S Q _ => ∃ m R many, ds = [.ref 2, .int many] ∧ St (m + 1) R S ∧ 0 < many ∧ many < 2 ^ 64 ∧ ∀ r S', 0 ≤ r → r < many → St m R S' → Q (.v (.int r)) S'
def ws__law_stream : WpS :=
  (wsSeq (wsSet true 1 (wLc (wSeq (wVar 0)) (.nm 2) wYes (wN (byN gAbs) (wCons (wVar 2) wNil)) [2]))
  (wsRet (wShare (wLst (wCons (wShare (wLc (wSeq (wVar 1)) (.nm 2) (wTst (w2 (by2 gGe) (wVar 2) (w2 (by2 gPow) (wC (.int 10)) (wC (.int 18))))) (wVar 2) [2])) (wCons (wShare (w2 (by2 gAdd) (wVar 1) (wLst (wCons (w2 (by2 gAdd) (wN (byN gLen) (wCons (wVar 1) wNil)) (wC (.int 3))) wNil)))) (wCons (wC (.int 0)) wNil)))))))
def ws__law_draw : WpS :=
  (wsSeq (wsWhile (wTst (w2 (by2 gNe) (w2 (by2 gIx) (wVar 0) (wC (.int 0))) (wLst wNil)))
  (wsSeq (wsSet true 2 (w2 (by2 gIx) (w2 (by2 gIx) (wVar 0) (wC (.int 0))) (wC (.int 0))))
  (wsSeq (wsIf (wTst (w2 (by2 gGt) (wVar 2) (wC (.int 0))))
  (wsSeq (wsStSet (w2 (by2 gIx) (wVar 0) (wC (.int 0))) (wC (.int 0)) (w2 (by2 gFdv) (wVar 2) (wVar 1)))
  (wsRet (w2 (by2 gMod) (wVar 2) (wVar 1))))
  wsNext)
  (wsDrop true (wPopAt (w2 (by2 gIx) (wVar 0) (wC (.int 0))) (wC (.int 0)))))))
  (wsSeq (wsSet true 3 (w2 (by2 gAdd) (w2 (by2 gIx) (wVar 0) (wC (.int 2))) (wC (.int 1))))
  (wsSeq (wsStSet (wVar 0) (wC (.int 2)) (wVar 3))
  (wsSeq (wsSet true 4 (w2 (by2 gMod) (w2 (by2 gIx) (w2 (by2 gIx) (wVar 0) (wC (.int 1))) (w2 (by2 gMod) (wVar 3) (wN (byN gLen) (wCons (w2 (by2 gIx) (wVar 0) (wC (.int 1))) wNil)))) (wC (.int 2147483647))))
  (wsSeq (wsSet true 5 (w2 (by2 gAdd) (w2 (by2 gAdd) (w2 (by2 gMul) (wVar 4) (w2 (by2 gAdd) (wC (.int 48271)) (w2 (by2 gMul) (wC (.int 69621)) (wVar 3)))) (w2 (by2 gMul) (w2 (by2 gMul) (wC (.int 40692)) (wVar 3)) (wVar 3))) (wC (.int 11))))
  (wsSeq (wsSet true 5 (w2 (by2 gMod) (wVar 5) (wC (.int 2147483629))))
  (wsRet (w2 (by2 gMod) (w2 (by2 gFdv) (w2 (by2 gMod) (w2 (by2 gMul) (wVar 5) (wVar 5)) (wC (.int 2147483587))) (wC (.int 16))) (wVar 1)))))))))
theorem p__law_stream : ∀ ds S Qd Xd, ds.length = 1 → F__law_stream ds S Qd Xd → ws__law_stream { nx := fun _ S' => Qd (.v .non) S', rt := Qd } (startD ["_law_script", "_law_cells", "_law_cell"] ds) S (fun x _ S' => Xd x S') := by
  rintro ds S Qd Xd - ⟨ns, rfl, rfl, hn, h⟩
  have hs := sizeLine_eq
  simp [ws__law_stream, startD]
  refine lc_pure Val.int .int (fun _ => true) (fun i => if i < 0 then -i else i) [] (fun p => ⟨by simp, _, rfl, by simp, by simp⟩) ns [] (by simp; omega) ?_
  have hp : CPow 10 18 := ⟨by decide, by decide, by decide⟩
  simp [-List.map_map]
  refine lc_pure Val.int .int (fun c => decide ((1000000000000000000 : Int) ≤ c)) id [] (fun p => ⟨by simp, _, rfl, by simp [hp], by simp +contextual⟩) (ns.map fun i => if i < 0 then -i else i) [] (by simp; omega) ?_
  have h3 : ns.length + 1 ≤ sizeLine := by omega
  simp [-List.map_map, h3]
  have e : List.map Val.int (List.map (fun i => if i < 0 then -i else i) ns) ++ [Val.int ((ns.length : Int) + 3)] = iv (List.map (fun i => if i < 0 then -i else i) ns ++ [(ns.length : Int) + 3]) := by simp
  rw [e]
  exact ⟨szl (by omega), szl (by omega), h _ ⟨_, _, 0, by simp, by omega, by omega, rfl⟩⟩
theorem p__law_draw : ∀ ds S Qd Xd, ds.length = 2 → F__law_draw ds S Qd Xd → ws__law_draw { nx := fun _ S' => Qd (.v .non) S', rt := Qd } (startD ["_law_stream_here", "_law_many", "_law_rest", "_law_turn", "_law_cell", "_law_mixed"] ds) S (fun x _ S' => Xd x S') := by
  rintro ds S Qd Xd - ⟨m, R, many, rfl, ⟨b, c, t, hc, ht0, ht, rfl⟩, hm, hm2, h⟩
  have hs := sizeLine_eq
  simp [ws__law_draw, startD]
  obtain ⟨I, hI⟩ : ∃ I : Nat → DEnv → Store → Prop, I = fun f δ S' => ∃ b x, S' = stS b c t R ∧ b.length = f ∧ δ = [some (.v (.ref 2)), some (.v (.int many)), ov x, none, none, none] := ⟨_, rfl⟩
  refine ⟨I, ⟨b.length, by rw [hI]; exact ⟨b, none, rfl, rfl, rfl⟩⟩, ?_⟩
  intro f δ S' hi
  rw [hI] at hi
  obtain ⟨b, x, rfl, rfl, rfl⟩ := hi
  have hl : 0 < (c.length : Int) := by
    cases c with
    | nil => exact absurd rfl hc
    | cons z c => simp
  have hl' : 0 < c.length := by omega
  have hv : ∃ v, L2.atI (iv c) ((t + 1) % (c.length : Int)) = some (.int v) := by
    have n0 := Int.emod_nonneg (t + 1) (by omega : (c.length : Int) ≠ 0)
    have n1 := Int.emod_lt_of_pos (t + 1) hl
    obtain ⟨k, hk⟩ : ∃ k : Nat, (t + 1) % (c.length : Int) = k := ⟨_, (Int.toNat_of_nonneg n0).symm⟩
    rw [hk] at n1 ⊢
    have hk2 : k < c.length := by omega
    exact ⟨c[k], atN (by simp [hk2])⟩
  obtain ⟨v, hv⟩ := hv
  have m1 : CMulW 69621 (t + 1) := cmw (by decide) (by omega)
  have m2 : CMulW 40692 (t + 1) := cmw (by decide) (by omega)
  have sq : (t + 1) * (t + 1) ≤ 1000000001 * 1000000001 := Int.mul_le_mul (by omega) (by omega) (by omega) (by omega)
  have m3 : CMulW (40692 * (t + 1)) (t + 1) := cmw (by omega) (by omega)
  have m4 : CMulW (v % 2147483647) (48271 + 69621 * (t + 1)) := cmw (mod_small (by decide) (by decide)) (by omega)
  have m5 : ∀ x : Int, CMulW (x % 2147483629) (x % 2147483629) := fun x => cmw (mod_small (by decide) (by decide)) (mod_small (by decide) (by decide))
  have d2 : ∀ x : Int, CDivW x 16 := fun x => cdw (by decide) (by decide)
  cases b with
  | nil =>
    simp [stS, o_ixr, o_nr, o_lenr, at0, at1, at2, hl, hl', hv, m1, m2, m3, m4, m5, d2, hm]
    exact h _ (stS [] c (t + 1) R) (Int.emod_nonneg _ (by omega)) (Int.emod_lt_of_pos _ hm) ⟨[], c, t + 1, hc, by omega, by omega, rfl⟩
  | cons r b =>
    have d4 : CDivW r many := cdw hm hm2
    simp [stS, o_ixr, o_nr, o_lenr, at0, at1, at2, s_popAt, d4, hm]
    by_cases hr : 0 < r
    · rw [if_pos hr]
      exact h _ (stS ((r / many) :: b) c t R) (Int.emod_nonneg _ (by omega)) (Int.emod_lt_of_pos _ hm) ⟨(r / many) :: b, c, t, hc, by omega, by omega, rfl⟩
    · rw [if_neg hr]
      refine ⟨b.length, by omega, ?_⟩
      rw [hI]
      exact ⟨b, some (.int r), by simp [stS], rfl, rfl⟩
end DL
/-! S4: comparison of a value with itself. -/
namespace DL
open PySem PySem.Spec PyProof.Rows L2 RZ
/-- repr shows it -/
def reprOk (d : Val) : Bool := shpR d && (toPy d).showable && decide ((toPy d).shown.length ≤ sizeLine)
mutual
theorem eqv_refl : ∀ d : Val, isPy d = true → PyData.eqv (toPy d) (toPy d) = true
  | .non, _ => rfl
  | .bl b, _ => by simp [toPy, PyData.eqv]
  | .int i, _ => by simp [toPy, PyData.eqv]
  | .str x, _ => by simp [toPy, PyData.eqv]
  | .tup ds, h => by simp only [toPy, PyData.eqv]; exact eqvs_refl ds (by simpa [isPy] using h)
  | .lst ds, h => by simp only [toPy, PyData.eqv]; exact eqvs_refl ds (by simpa [isPy] using h)
  | .dct _, h => by simp [isPy] at h
  | .ref _, h => by simp [isPy] at h
  | .opq _, h => by simp [isPy] at h
  | .scr _, h => by simp [isPy] at h
theorem eqvs_refl : ∀ ds : List Val, isPys ds = true → PyData.eqvAll (toPys ds) (toPys ds) = true
  | [], _ => rfl
  | d :: ds, h => by
    simp [isPys] at h
    simp only [toPys, PyData.eqvAll, Bool.and_eq_true]
    exact ⟨eqv_refl d h.1, eqvs_refl ds h.2⟩
end
end DL
/-! S5: random houses. -/
namespace DL
open PySem PySem.Spec PyProof.Rows L2 RZ
def iota (n : Int) : List Int := (List.range n.toNat).map fun i : Nat => (i : Int)
theorem rngD0 (n : Int) : rngD 0 n.toNat = iv (iota n) := by rw [rngD_iv]; unfold iota; congr 1; exact List.map_congr_left fun i _ => by omega
/-- each room joins an earlier one, or stands alone -/
inductive Joins : List Int → List (Int × Int) → Prop
  | one (x : Int) : Joins [x] []
  | skip {o : List Int} {E : List (Int × Int)} (x : Int) : Joins o E → Joins (o ++ [x]) E
  | door {o : List Int} {E : List (Int × Int)} {a : Int} (x : Int) : Joins o E → a ∈ o → Joins (o ++ [x]) (E ++ [(if x < a then x else a, if x > a then x else a)])
theorem Joins.len {o : List Int} {E : List (Int × Int)} (h : Joins o E) : E.length + 1 ≤ o.length := by
  induction h with
  | one x => simp
  | skip x _ ih => simp; omega
  | door x _ _ ih => simp; omega
theorem Joins.mem {o : List Int} {E : List (Int × Int)} (h : Joins o E) : ∀ p ∈ E, p.1 ∈ o ∧ p.2 ∈ o := by
  induction h with
  | one x => intro p hp; simp at hp
  | skip x _ ih => intro p hp; have := ih p hp; simp [this]
  | @door o E a x _ ha ih =>
    intro p hp
    rcases List.mem_append.mp hp with hp | hp
    · have := ih p hp; simp [this]
    · rw [List.mem_singleton.mp hp]
      constructor
      · dsimp only; split
        · simp
        · simp [ha]
      · dsimp only; split
        · simp
        · simp [ha]
theorem mem_iota {n x : Int} : x ∈ iota n ↔ 0 ≤ x ∧ x < n := by
  unfold iota
  rw [List.mem_map]
  constructor
  · rintro ⟨i, hi, rfl⟩
    have := List.mem_range.mp hi
    omega
  · rintro ⟨h0, h1⟩
    exact ⟨x.toNat, List.mem_range.mpr (by omega), Int.toNat_of_nonneg h0⟩
structure House (n : Int) (D : List (Int × Int)) : Prop where
  pos : 1 ≤ n
  ex : ∃ o E, o.Perm (iota n) ∧ Joins o E ∧ D = sortP E
theorem iota_len (n : Int) : (iota n).length = n.toNat := by simp [iota]
theorem House.len {n : Int} {D : List (Int × Int)} (h : House n D) : (D.length : Int) < n := by
  obtain ⟨o, E, h1, h2, rfl⟩ := h.ex
  have a := h2.len
  have b := h1.length_eq
  rw [iota_len] at b
  rw [(sortP_perm E).length_eq]
  have := h.pos
  omega
/-! the store's last list -/
theorem St.weak {m m' : Nat} {R S : Store} (h : St m R S) (hm : m' ≤ m) : St m' R S := let ⟨b, c, t, h1, h2, h3, h4⟩ := h; ⟨b, c, t, h1, h2, by omega, h4⟩
theorem St.len {m : Nat} {R S : Store} (h : St m R S) : S.length = R.length + 3 := by
  obtain ⟨b, c, t, _, _, _, rfl⟩ := h
  simp [stS]
theorem St.push {m : Nat} {R S : Store} (h : St m R S) (o : Obj1) : St m (R ++ [o]) (S ++ [o]) := by
  obtain ⟨b, c, t, h1, h2, h3, rfl⟩ := h
  exact ⟨b, c, t, h1, h2, h3, rfl⟩
theorem St.last {m : Nat} {R S : Store} {o : Obj1} (h : St m (R ++ [o]) S) : S[R.length + 3]? = some o := by
  obtain ⟨b, c, t, h1, h2, h3, rfl⟩ := h
  simp [stS]
theorem St.setLast {m : Nat} {R S : Store} {o o' : Obj1} (h : St m (R ++ [o]) S) : St m (R ++ [o']) (S.set (R.length + 3) o') := by
  obtain ⟨b, c, t, h1, h2, h3, rfl⟩ := h
  exact ⟨b, c, t, h1, h2, h3, by simp [stS]⟩
def F__law_house : FSpec := fun ds S Q _ => ∃ m R lo hi, ds = [.ref 2, .int lo, .int hi] ∧ 1 ≤ lo ∧ lo ≤ hi ∧ hi ≤ 60 ∧ St (m + 500) R S ∧ ∀ n D R' S', lo ≤ n → n ≤ hi → House n D → St m (R ++ R') S' → Q (.v (hv n D)) S'
def ws__law_house : WpS :=
  (wsSeq (wsSet true 3 (w2 (by2 gAdd) (wVar 1) (wCall (fun ds S Q Xq => ds.length = 2 ∧ F__law_draw ds S Q Xq) (wCons (wVar 0) (wCons (w2 (by2 gAdd) (w2 (by2 gSub) (wVar 2) (wVar 1)) (wC (.int 1))) wNil)))))
  (wsSeq (wsPar3 true 4 5 6 (wShare (wLRg (wG1 (wVar 3)))) (wLst wNil) (wLst wNil))
  (wsSeq (wsWhile (wTst (w2 (by2 gNe) (wVar 4) (wLst wNil)))
  (wsAppend true 5 (wPopAt (wVar 4) (wCall (fun ds S Q Xq => ds.length = 2 ∧ F__law_draw ds S Q Xq) (wCons (wVar 0) (wCons (wN (byN gLen) (wCons (wVar 4) wNil)) wNil))))))
  (wsSeq (wsSet true 7 (w2 (by2 gIx) (wLst (wCons (wC (.int 0)) (wCons (wC (.int 0)) (wCons (wC (.int 6)) wNil)))) (wCall (fun ds S Q Xq => ds.length = 2 ∧ F__law_draw ds S Q Xq) (wCons (wVar 0) (wCons (wC (.int 3)) wNil)))))
  (wsSeq (wsFor (wRng2 (wCons (wC (.int 1)) (wCons (wVar 3) wNil))) (.nm 8)
  (wsSeq (wsSet false 9 (w2 (by2 gIx) (wVar 5) (w2 (by2 gIx) (wLst (wCons (w2 (by2 gSub) (wVar 8) (wC (.int 1))) (wCons (wC (.int 0)) (wCons (wCall (fun ds S Q Xq => ds.length = 2 ∧ F__law_draw ds S Q Xq) (wCons (wVar 0) (wCons (wVar 8) wNil))) wNil)))) (wCall (fun ds S Q Xq => ds.length = 2 ∧ F__law_draw ds S Q Xq) (wCons (wVar 0) (wCons (wC (.int 3)) wNil))))))
  (wsIf (wOrT (wTst (w2 (by2 gEq) (wVar 7) (wC (.int 0)))) (wTst (w2 (by2 gGt) (wCall (fun ds S Q Xq => ds.length = 2 ∧ F__law_draw ds S Q Xq) (wCons (wVar 0) (wCons (wVar 7) wNil))) (wC (.int 0)))))
  (wsAppend false 6 (wTup (wCons (wN (byN gMin2) (wCons (wVar 9) (wCons (w2 (by2 gIx) (wVar 5) (wVar 8)) wNil))) (wCons (wN (byN gMax2) (wCons (wVar 9) (wCons (w2 (by2 gIx) (wVar 5) (wVar 8)) wNil))) wNil))))
  wsNext)))
  (wsRet (wTup (wCons (wVar 3) (wCons (wN (byN gTuple) (wCons (wN (byN gSorted) (wCons (wVar 6) wNil)) wNil)) wNil)))))))))
theorem perm_at {α : Type} : ∀ {l : List α} {k : Nat} (h : k < l.length), (l[k] :: l.eraseIdx k).Perm l
  | x :: l, 0, _ => .refl _
  | x :: l, k + 1, h => by
    have h' : k < l.length := by simpa using h
    simp only [List.getElem_cons_succ, List.eraseIdx_cons_succ]
    exact (List.Perm.swap x l[k] _).trans ((perm_at h').cons x)
theorem map_erase {α β : Type} (f : α → β) : ∀ (l : List α) (k : Nat), (l.map f).eraseIdx k = (l.eraseIdx k).map f
  | [], _ => rfl
  | x :: l, 0 => rfl
  | x :: l, k + 1 => by simp [map_erase f l k]
theorem len_at {α : Type} : ∀ {l : List α} {k : Nat} (h : k < l.length), (l.eraseIdx k).length + 1 = l.length
  | x :: l, 0, _ => rfl
  | x :: l, k + 1, h => by
    have h' : k < l.length := by simpa using h
    simp [len_at h']
theorem seqN {k n : Nat} (h : k < n) : seqIndex? (k : Int) n = some k := by
  have e1 : ¬ ((k : Int) < 0) := by omega
  simp [seqIndex?, h, e1]
def houseBody : WpS :=
  (wsSeq (wsSet false 9 (w2 (by2 gIx) (wVar 5) (w2 (by2 gIx) (wLst (wCons (w2 (by2 gSub) (wVar 8) (wC (.int 1))) (wCons (wC (.int 0)) (wCons (wCall (fun ds S Q Xq => ds.length = 2 ∧ F__law_draw ds S Q Xq) (wCons (wVar 0) (wCons (wVar 8) wNil))) wNil)))) (wCall (fun ds S Q Xq => ds.length = 2 ∧ F__law_draw ds S Q Xq) (wCons (wVar 0) (wCons (wC (.int 3)) wNil))))))
  (wsIf (wOrT (wTst (w2 (by2 gEq) (wVar 7) (wC (.int 0)))) (wTst (w2 (by2 gGt) (wCall (fun ds S Q Xq => ds.length = 2 ∧ F__law_draw ds S Q Xq) (wCons (wVar 0) (wCons (wVar 7) wNil))) (wC (.int 0)))))
  (wsAppend false 6 (wTup (wCons (wN (byN gMin2) (wCons (wVar 9) (wCons (w2 (by2 gIx) (wVar 5) (wVar 8)) wNil))) (wCons (wN (byN gMax2) (wCons (wVar 9) (wCons (w2 (by2 gIx) (wVar 5) (wVar 8)) wNil))) wNil))))
  wsNext))
theorem rngD_succ (i : Int) (j : Nat) : rngD i (j + 1) = .int i :: rngD (i + 1) j := by
  unfold rngD
  rw [List.range_succ_eq_map, List.map_cons, List.map_map]
  congr 1
  · simp
  · refine List.map_congr_left fun k _ => ?_
    simp only [Function.comp, Val.int.injEq]
    omega
theorem at_o {o : List Int} {i : Nat} {w : Int} (h0 : 0 ≤ w) (h1 : w < i) (h2 : i ≤ o.length) : ∃ a, L2.atI (iv o) w = some (.int a) ∧ a ∈ o.take i := by
  obtain ⟨k, rfl⟩ : ∃ k : Nat, w = k := ⟨w.toNat, (Int.toNat_of_nonneg h0).symm⟩
  have hk : k < o.length := by omega
  have hk2 : k < i := by omega
  refine ⟨o[k], atN (by simp [hk]), ?_⟩
  rw [List.mem_take_iff_getElem]
  exact ⟨k, by omega, rfl⟩
theorem house_for {lo hi n : Int} {q m : Nat} {R : Store} {o : List Int} {lacks : Int} {Dd : DEnds} {X : XQ} (hl : lacks = 0 ∨ lacks = 6) (hn : o.length ≤ 100) :
    ∀ (j i : Nat) (E : List (Int × Int)) (x y : Option Val) (S : Store), i + j = o.length → 1 ≤ i → Joins (o.take i) E → St (m + 3 * j) R S →
    (∀ E' x y S', Joins o E' → St m R S' → Dd.nx [some (.v (.ref 2)), some (.v (.int lo)), some (.v (.int hi)), some (.v (.int n)), some (.v (.ref q)), some (.l (iv o)), some (.l (E'.map prV)), some (.v (.int lacks)), ov x, ov y] S') →
    wsForGo (.nm 8) houseBody Dd X (rngD i j) [some (.v (.ref 2)), some (.v (.int lo)), some (.v (.int hi)), some (.v (.int n)), some (.v (.ref q)), some (.l (iv o)), some (.l (E.map prV)), some (.v (.int lacks)), ov x, ov y] S
  | 0, i, E, x, y, S, h, _, hJ, hS, k => by
    rw [show o.take i = o from by rw [List.take_of_length_le (by omega)]] at hJ
    exact k E x y S hJ hS
  | j + 1, i, E, x, y, S, h, hi1, hJ, hS, k => by
    have hs := sizeLine_eq
    have hE := hJ.len
    rw [List.length_take] at hE
    rw [rngD_succ]
    refine ⟨_, rfl, ?_⟩
    simp [houseBody]
    refine ⟨m + 3 * j + 2, R, _, rfl, hS.weak (by omega), by omega, by omega, fun r S1 r0 r1 hS1 => ?_⟩
    simp [szl (by omega : 3 ≤ 16777216)]
    refine ⟨m + 3 * j + 1, R, _, rfl, hS1, by omega, by omega, fun r2 S2 a0 a1 hS2 => ?_⟩
    obtain ⟨w, w0, w1, hw⟩ : ∃ w : Int, 0 ≤ w ∧ w < i ∧ L2.atI [Val.int ((i : Int) - 1), Val.int 0, Val.int r] r2 = some (.int w) := by
      have : r2 = 0 ∨ r2 = 1 ∨ r2 = 2 := by omega
      rcases this with rfl | rfl | rfl
      · exact ⟨i - 1, by omega, by omega, at0⟩
      · exact ⟨0, by omega, by omega, at1⟩
      · exact ⟨r, r0, r1, at2⟩
    obtain ⟨a, ha, ham⟩ := at_o w0 w1 (by omega : i ≤ o.length)
    have hi2 : i < o.length := by omega
    have hb : L2.atI (iv o) (i : Int) = some (.int o[i]) := atN (by simp [hi2])
    have tk : o.take (i + 1) = o.take i ++ [o[i]] := by rw [List.take_succ_eq_append_getElem hi2]
    have door := fun S' (hS' : St (m + 3 * j) R S') => house_for (Dd := Dd) (X := X) (lo := lo) (hi := hi) (n := n) (q := q) hl hn j (i + 1) (E ++ [(if o[i] < a then o[i] else a, if o[i] > a then o[i] else a)]) (some (.int i)) (some (.int a)) S' (by omega) (by omega) (by rw [tk]; exact hJ.door _ ham) hS' k
    have skip := fun S' (hS' : St (m + 3 * j) R S') => house_for (Dd := Dd) (X := X) (lo := lo) (hi := hi) (n := n) (q := q) hl hn j (i + 1) E (some (.int i)) (some (.int a)) S' (by omega) (by omega) (by rw [tk]; exact hJ.skip _) hS' k
    simp [houseBody, ov] at door skip
    simp [hw, ha, hb]
    have l1 : E.length < sizeLine := szl' (by omega)
    have l2 : 2 ≤ sizeLine := szl (by omega)
    by_cases h0 : lacks = 0
    · rw [if_pos h0]
      exact ⟨l1, l2, door _ (hS2.weak (by omega))⟩
    · rw [if_neg h0]
      refine ⟨m + 3 * j, R, lacks, rfl, hS2, by omega, by omega, fun r3 S3 b0 b1 hS3 => ?_⟩
      simp
      by_cases h1 : 0 < r3
      · rw [if_pos h1]
        exact ⟨l1, l2, door _ hS3⟩
      · rw [if_neg h1]
        exact skip _ hS3
theorem p__law_house : ∀ ds S Qd Xd, ds.length = 3 → F__law_house ds S Qd Xd → ws__law_house { nx := fun _ S' => Qd (.v .non) S', rt := Qd } (startD ["_law_stream_here", "_law_least", "_law_most", "_law_rooms", "_law_left", "_law_order", "_law_doors", "_law_lacks", "_law_k", "_law_on"] ds) S (fun x _ S' => Xd x S') := by
  rintro ds S Qd Xd - ⟨m, R, lo, hi, rfl, h1, h2, h3, hS, h⟩
  have hs := sizeLine_eq
  simp [ws__law_house, startD]
  refine ⟨m + 499, R, _, rfl, hS, by omega, by omega, fun r S' r0 r1 hS' => ?_⟩
  obtain ⟨n, hn⟩ : ∃ n, n = lo + r := ⟨_, rfl⟩
  simp [← hn, rngD0]
  refine ⟨⟨by omega, by omega, by omega, by omega, by omega⟩, ?_⟩
  have hS2 := hS'.push (.lst (iv (iota n)))
  rw [hS'.len]
  obtain ⟨I, hI⟩ : ∃ I : Nat → DEnv → Store → Prop, I = fun f δ S' => ∃ o l, δ = [some (.v (.ref 2)), some (.v (.int lo)), some (.v (.int hi)), some (.v (.int n)), some (.v (.ref (R.length + 3))), some (.l (iv o)), some (.l []), none, none, none] ∧
    l.length = f ∧ (o ++ l).Perm (iota n) ∧ St (m + 399 + l.length) (R ++ [.lst (iv l)]) S' := ⟨_, rfl⟩
  refine ⟨I, ⟨(iota n).length, by rw [hI]; exact ⟨[], iota n, rfl, rfl, .refl _, hS2.weak (by rw [iota_len]; omega)⟩⟩, ?_⟩
  intro f δ S1 hi1
  rw [hI] at hi1
  obtain ⟨o, l, rfl, rfl, hp, hS3⟩ := hi1
  have hol := hp.length_eq
  rw [iota_len, List.length_append] at hol
  cases l with
  | nil =>
    have hol2 : o.length = n.toNat := by simpa using hol
    simp [o_nr, hS3.last]
    refine ⟨szl (by omega), m + 398, R ++ [.lst (iv [])], _, rfl, hS3.weak (by simp), by omega, by omega, fun r2 S2 a0 a1 hS4 => ?_⟩
    obtain ⟨lacks, hl, hw⟩ : ∃ w : Int, (w = 0 ∨ w = 6) ∧ L2.atI [Val.int 0, Val.int 0, Val.int 6] r2 = some (.int w) := by
      have : r2 = 0 ∨ r2 = 1 ∨ r2 = 2 := by omega
      rcases this with rfl | rfl | rfl
      · exact ⟨0, .inl rfl, at0⟩
      · exact ⟨0, .inl rfl, at1⟩
      · exact ⟨6, .inr rfl, at2⟩
    obtain ⟨x0, o', rfl⟩ : ∃ x0 o', o = x0 :: o' := by
      cases o with
      | nil => simp at hol2; omega
      | cons x0 o' => exact ⟨x0, o', rfl⟩
    rw [List.append_nil] at hp
    have e1 : n.toNat - 1 = o'.length := by simp at hol2; omega
    simp [hw, e1]
    refine ⟨⟨by omega, by omega⟩, ⟨by omega, by omega⟩, ?_⟩
    show wsForGo (.nm 8) houseBody _ _ (rngD ((1 : Nat) : Int) o'.length) [some (.v (.ref 2)), some (.v (.int lo)), some (.v (.int hi)), some (.v (.int n)), some (.v (.ref (R.length + 3))), some (.l (iv (x0 :: o'))), some (.l (([] : List (Int × Int)).map prV)), some (.v (.int lacks)), ov none, ov none] S2
    refine house_for (m := m) (R := R ++ [.lst (iv [])]) hl (by simp at hol2 ⊢; omega) o'.length 1 [] none none S2 (by simp; omega) (by omega) (.one x0) (hS4.weak (by simp at hol2; omega)) ?_
    intro E' x y S3 hJ hS5
    have hjl := hJ.len
    have hlt64 : E'.length < 64 := by simp at hjl hol2; omega
    have hnn : ∀ p ∈ E', 0 ≤ p.1 ∧ 0 ≤ p.2 := fun p hp2 => by
      have a := hJ.mem p hp2
      exact ⟨(mem_iota.mp (hp.mem_iff.mp a.1)).1, (mem_iota.mp (hp.mem_iff.mp a.2)).1⟩
    simp [o_sort_lp hlt64 hnn, -prV_eq]
    refine ⟨szl (by omega), ?_⟩
    exact h n (sortP E') [.lst (iv [])] S3 (by omega) (by omega) ⟨by omega, x0 :: o', E', hp, hJ, rfl⟩ hS5
  | cons x l =>
    have hol2 : o.length + (l.length + 1) = n.toNat := by simpa using hol
    simp [o_nr, hS3.last, s_popAt, o_lenr]
    refine ⟨by omega, m + 399 + l.length, R ++ [.lst (iv (x :: l))], _, rfl, hS3.weak (by simp; omega), by omega, by omega, fun r2 S2 a0 a1 hS4 => ?_⟩
    obtain ⟨k, rfl⟩ : ∃ k : Nat, r2 = k := ⟨r2.toNat, (Int.toNat_of_nonneg a0).symm⟩
    have hk : k < (x :: l).length := by simp; omega
    have e2 : seqIndex? (k : Int) (iv (x :: l)).length = some k := by rw [List.length_map]; exact seqN hk
    have e3 : (iv (x :: l))[k]? = some (.int (x :: l)[k]) := by
      rw [List.getElem?_map, List.getElem?_eq_getElem hk]; rfl
    have e5 := len_at hk
    rw [List.length_cons] at e5 hk
    simp only [fz_v, hS4.last, e2, e3]
    refine ⟨by omega, by omega, l.length, by omega, ?_⟩
    rw [hI]
    refine ⟨o ++ [(x :: l)[k]], (x :: l).eraseIdx k, by simp, by omega, ?_, ?_⟩
    · refine List.Perm.trans ?_ hp
      rw [List.append_assoc]
      exact (perm_at _).append_left o
    · rw [map_erase]
      exact hS4.setLast.weak (by omega)
end DL
/-! S6: repr of small data. -/
namespace DL
open PySem PySem.Spec PyProof.Rows L2 RZ
/-- data whose repr is known to be short -/
structure Rp (d : Val) : Prop where
  shp : shp d = true
  sh : (toPy d).showable = true
  it : (toPy d).intsShort 13 = true
  wt : (toPy d).weight ≤ 2 ^ 20
def rpS (d : Val) : Str := (toPy d).shown
def inD (n : Int) (D : List (Int × Int)) : Prop := ∀ p ∈ D, 0 ≤ p.1 ∧ p.1 < n ∧ 0 ≤ p.2 ∧ p.2 < n
theorem House.inD {n : Int} {D : List (Int × Int)} (h : House n D) : inD n D := by
  obtain ⟨o, E, h1, h2, rfl⟩ := h.ex
  intro p hp
  have hp2 := (sortP_perm E).mem_iff.mp hp
  obtain ⟨a, b⟩ := h2.mem p hp2
  have a' := mem_iota.mp (h1.mem_iff.mp a)
  have b' := mem_iota.mp (h1.mem_iff.mp b)
  exact ⟨a'.1, a'.2, b'.1, b'.2⟩
/-! ### loops with an invariant -/
theorem for_inv {tg : Tg} {b : WpS} {Dd : DEnds} {X : XQ} (P : Nat → DEnv → Store → Prop) : ∀ (items : List Val),
    (∀ x ∈ items, ∀ (j : Nat) (N : DEnv → Store → Prop), (∀ δ S, P j δ S → N δ S) → ∀ δ S, P (j + 1) δ S → ∃ δ2, tgSet tg x δ = some δ2 ∧ b { Dd with nx := N, ct := N, bk := Dd.nx } δ2 S X) →
    ∀ δ S, P items.length δ S → (∀ δ S, P 0 δ S → Dd.nx δ S) → wsForGo tg b Dd X items δ S
  | [], _, δ, S, h, k => k δ S h
  | x :: items, step, δ, S, h, k => by
    obtain ⟨δ2, e, hb⟩ := step x (List.mem_cons_self ..) items.length (fun δ3 S3 => wsForGo tg b Dd X items δ3 S3) (fun δ3 S3 h3 => for_inv P items (fun y hy => step y (List.mem_cons_of_mem _ hy)) δ3 S3 h3 k) δ S h
    exact ⟨δ2, e, hb⟩
theorem mem_rngD {x : Val} {lo : Int} {n : Nat} (h : x ∈ rngD lo n) : ∃ i : Int, x = .int i ∧ lo ≤ i ∧ i < lo + n := by
  unfold rngD at h
  obtain ⟨k, hk, rfl⟩ := List.mem_map.mp h
  have := List.mem_range.mp hk
  exact ⟨_, rfl, by omega, by omega⟩
theorem rngD_len (lo : Int) (n : Nat) : (rngD lo n).length = n := by simp [rngD]
theorem fold_ok {D : List (Int × Int)} {B : Nat} {h : Int} {p : List Int} : ∀ (ts : List Int) (m : Mp) (st : List Int), SOk D B m st → (∀ t ∈ ts, t ∈ ends D) → lk m h = some p → SOk D B (ts.foldl (visit p) (m, st)).1 (ts.foldl (visit p) (m, st)).2
  | [], m, st, o, _, _ => o
  | t :: ts, m, st, o, hts, hp => by
    have hts' : ∀ t ∈ ts, t ∈ ends D := fun u hu => hts u (List.mem_cons_of_mem _ hu)
    rw [List.foldl_cons]
    cases e : lk m t with
    | some q => rw [visit_seen (by rw [e]; rfl)]; exact fold_ok ts m st o hts' hp
    | none =>
      rw [visit_new e]
      obtain ⟨o', _, hp'⟩ := o.visit (hts t (List.mem_cons_self ..)) e hp
      exact fold_ok ts _ _ o' hts' hp'
end DL
/-! S7: random names. -/
namespace DL
open PySem PySem.Spec PyProof.Rows L2 RZ
/-! ### comprehensions with an invariant over the store -/
/-! ### texts by their signs -/
def ofL (l : List Nat) : Str := ⟨l.toArray⟩
theorem ofL_inj {a b : List Nat} (h : ofL a = ofL b) : a = b := by
  have := congrArg (fun s : Str => s.cps.toList) h
  simpa [ofL] using this
/-- a small letter -/
def isL (c : Nat) : Prop := 97 ≤ c ∧ c ≤ 122
structure NameOk (s : Str) : Prop where
  ex : ∃ l, s = ofL l ∧ 1 ≤ l.length ∧ l.length ≤ 8 ∧ ∀ c ∈ l, isL c
structure NamesOk (ns : List Str) : Prop where
  nd : ns.Nodup
  srt : ns.Pairwise fun a b => leS a b = true
  ok : ∀ x ∈ ns, NameOk x
theorem iota_nodup (n : Int) : (iota n).Nodup := by
  unfold iota
  refine List.pairwise_map.mpr (List.nodup_range.imp fun {a b} h e => h ?_)
  omega
end DL
/-! S8: random placements. -/
namespace DL
open PySem PySem.Spec PyProof.Rows L2 RZ
abbrev Plm := List (Str × Int)
def peV (q : Str × Int) : Val := .tup [.str q.1, .int q.2]
@[simp] theorem peV_eq (q : Str × Int) : peV q = .tup [.str q.1, .int q.2] := rfl
structure Plc (n most : Int) (P : Plm) : Prop where
  nm : NamesOk (P.map (·.1))
  len : (P.length : Int) ≤ most
  rm : ∀ q ∈ P, 0 ≤ q.2 ∧ q.2 < n
theorem cut_to {ds : List Val} {k : Int} (h : 0 ≤ k) : cutD ds none (some k) = ds.take k.toNat := by
  have e : ¬ k < 0 := by omega
  simp [cutD, HT.sIx, e]
end DL
/-! S9: placements: lookups, moves, validity of valid ones. -/
namespace DL
open PySem PySem.Spec PyProof.Rows L2 RZ
theorem NameOk.strOk {s : Str} (h : NameOk s) : PyData.strOk s = true := by
  obtain ⟨l, rfl, _, _, h3⟩ := h.ex
  unfold PyData.strOk ofL
  simp only [List.all_toArray, List.all_eq_true, decide_eq_true_eq]
  intro c hc
  have := (h3 c hc).2
  omega
/-- names that compare well -/
def NmOk (P : Plm) : Prop := ∀ q ∈ P, PyData.strOk q.1 = true
/-- no int (a bool is none) -/
def NotI (d : Val) : Prop := ∃ t, tyName d = some t ∧ t ≠ "int" ∧ ∀ S, drf S d = d
def F_is_integer : FSpec := fun ds S Q _ => (∃ i lo hi, ds = [.int i, .int lo, .int hi] ∧ Q (.v (.bl (decide (lo ≤ i ∧ i ≤ hi)))) S) ∨ ∃ d lo hi, ds = [d, .int lo, .int hi] ∧ NotI d ∧ Q (.v (.bl false)) S
/-- the moves that are possible -/
def mvs (D : List (Int × Int)) (P : Plm) : Plm := P.flatMap fun q => ((nb D q.2).filter fun t => decide (t ∈ P.map (·.2))).map fun t => (q.1, t)
def ws_is_integer : WpS :=
  (wsRet (wAnd (wN (byN gIsi) (wCons (wVar 0) (wCons (wC (.opq (.ty "int"))) wNil))) (wAnd (w1 (by1 gNot) (wN (byN gIsi) (wCons (wVar 0) (wCons (wC (.opq (.ty "bool"))) wNil)))) (wChain (by2 gLe) (by2 gLe) (wVar 1) (wVar 0) (wVar 2)))))
theorem gIsi_ii {S : Store} {i : Int} : gIsi S [.int i, .opq (.ty "int")] = some (.v (.bl true)) := rfl
theorem gIsi_ib {S : Store} {i : Int} : gIsi S [.int i, .opq (.ty "bool")] = some (.v (.bl false)) := rfl
theorem gIsi_tt {S : Store} {i : List Val} : gIsi S [.tup i, .opq (.ty "tuple")] = some (.v (.bl true)) := rfl
theorem p_is_integer : ∀ ds S Qd Xd, ds.length = 3 → F_is_integer ds S Qd Xd → ws_is_integer { nx := fun _ S' => Qd (.v .non) S', rt := Qd } (startD ["value", "low", "high"] ds) S (fun x _ S' => Xd x S') := by
  rintro ds S Qd Xd - (⟨i, lo, hi, rfl, h⟩ | ⟨d, lo, hi, rfl, ⟨t, h1, h2, h3⟩, h⟩)
  · simp [ws_is_integer, startD, gIsi_ii, gIsi_ib]
    by_cases h1 : lo ≤ i
    · simpa [h1] using h
    · simpa [h1] using h
  · have e1 : ∀ S, gIsi S [d, .opq (.ty "int")] = some (.v (.bl (decide (t = "bool")))) := fun S => by
      simp [gIsi, h3, h1, isiB, h2]
    have e2 : ∀ S, gIsi S [d, .opq (.ty "bool")] = some (.v (.bl (decide (t = "bool")))) := fun S => by
      simp [gIsi, h3, h1, isiB]
    by_cases hb : t = "bool"
    · simp [ws_is_integer, startD, e1, e2, hb]
      exact h
    · simp [ws_is_integer, startD, e1, hb]
      exact h
end DL
/-! S10: placements, second part. -/
namespace DL
open PySem PySem.Spec PyProof.Rows L2 RZ
theorem cut_l {ds : List Val} {k : Nat} : cutD ds none (some (k : Int)) = ds.take k := by
  have := cut_to (ds := ds) (k := (k : Int)) (by omega)
  simpa using this
theorem cut_r {ds : List Val} {k : Nat} : cutD ds (some (k : Int)) none = ds.drop k := by
  have e : ¬ ((k : Int) < 0) := by omega
  simp only [cutD, HT.sIx, e, if_false, Int.toNat_natCast]
  rcases Nat.le_total k ds.length with h | h
  · rw [Nat.min_eq_left h, List.take_of_length_le (by simp)]
  · rw [Nat.min_eq_right h, List.drop_of_length_le (Nat.le_refl _), List.drop_of_length_le h]; simp
theorem lc_lt : ∀ a b : List Nat, PySem.Spec.ltCps a b = decide (a < b)
  | [], [] => by simp [PySem.Spec.ltCps]
  | [], _ :: _ => by simp [PySem.Spec.ltCps]
  | _ :: _, [] => by simp [PySem.Spec.ltCps]
  | a :: r, b :: t => by
    simp only [PySem.Spec.ltCps, lc_lt r t, List.cons_lt_cons_iff]
    by_cases h1 : a < b <;> by_cases h2 : a = b <;> simp [h1, h2]
theorem sLt_of {a b : Str} (h : leS a b = true) (hn : a ≠ b) : sLt a b = true := by
  unfold sLt
  rw [← lc_lt]
  cases e : PySem.Spec.ltCps a.cps.toList b.cps.toList with
  | true => rfl
  | false =>
    exfalso
    have h2 : leS b a = true := by unfold leS; rw [e]; rfl
    exact hn (leS_anti h h2)
theorem gdv_notI {B : Nat} {v : Val} (h : gdv B v = true) (hn : ∀ i, v ≠ .int i) : NotI v := by
  obtain ⟨t, ht⟩ := gdv_ty h
  refine ⟨t, ht, fun z => ?_, gdv_drf h⟩
  cases v <;> simp [tyName] at ht <;> subst ht <;> first | exact absurd z (by decide) | exact hn _ rfl
/-! ### placements are values -/
end DL
/-! S11: repr and comparison of placements; possible moves. -/
namespace DL
open PySem PySem.Spec PyProof.Rows L2 RZ
theorem nb_in {n : Int} {D : List (Int × Int)} (hD : inD n D) {r t : Int} (h : t ∈ nb D r) : 0 ≤ t ∧ t < n := by
  have h1 := (sortI_perm _).mem_iff.mp h
  rcases List.mem_append.mp h1 with h1 | h1
  · obtain ⟨p, hp, rfl⟩ := List.mem_map.mp h1
    have := hD p (List.mem_filter.mp hp).1
    exact ⟨this.2.2.1, this.2.2.2⟩
  · obtain ⟨p, hp, rfl⟩ := List.mem_map.mp h1
    have := hD p (List.mem_filter.mp hp).1
    exact ⟨this.1, this.2.1⟩
end DL
/-! S12: connected rooms: reachability, what the searches find. -/
namespace DL
open PySem PySem.Spec PyProof.Rows L2 RZ
theorem mem_nb {D : List (Int × Int)} {r t : Int} : t ∈ nb D r ↔ (r, t) ∈ D ∨ (t, r) ∈ D := by
  unfold nb
  rw [(sortI_perm _).mem_iff, List.mem_append]
  constructor
  · rintro (h | h)
    · obtain ⟨⟨a, b⟩, hp, rfl⟩ := List.mem_map.mp h
      obtain ⟨h1, h2⟩ := List.mem_filter.mp hp
      obtain rfl : a = r := by simpa using h2
      exact .inl h1
    · obtain ⟨⟨a, b⟩, hp, rfl⟩ := List.mem_map.mp h
      obtain ⟨h1, h2⟩ := List.mem_filter.mp hp
      obtain rfl : b = r := by simpa using h2
      exact .inr h1
  · rintro (h | h)
    · exact .inl (List.mem_map.mpr ⟨(r, t), List.mem_filter.mpr ⟨h, by simp⟩, rfl⟩)
    · exact .inr (List.mem_map.mpr ⟨(t, r), List.mem_filter.mpr ⟨h, by simp⟩, rfl⟩)
theorem nb_symm {D : List (Int × Int)} {r t : Int} : t ∈ nb D r ↔ r ∈ nb D t := by rw [mem_nb, mem_nb]; exact Or.comm
/-- y is reached from x through rooms of R -/
inductive Re (D : List (Int × Int)) (R : List Int) (x : Int) : Int → Prop
  | refl : Re D R x x
  | step {y z : Int} : Re D R x y → y ∈ R → z ∈ R → z ∈ nb D y → Re D R x z
section
variable {D : List (Int × Int)} {R R' : List Int} {x y z : Int}
theorem Re.trans (h : Re D R x y) (g : Re D R y z) : Re D R x z := by
  induction g with
  | refl => exact h
  | step _ a b c ih => exact .step ih a b c
theorem Re.symm (h : Re D R x y) : Re D R y x := by
  induction h with
  | refl => exact .refl
  | step _ a b c ih => exact (Re.step .refl b a (nb_symm.mp c)).trans ih
theorem Re.inR (h : Re D R x y) (hx : x ∈ R) : y ∈ R := by
  cases h with
  | refl => exact hx
  | step _ _ b _ => exact b
theorem Re.ends (h : Re D R x y) : y = x ∨ y ∈ ends D := by
  cases h with
  | refl => exact .inl rfl
  | step _ _ _ c => exact .inr (nb_ends c)
end
def dd : List Int → List Int
  | [] => []
  | x :: l => if x ∈ l then dd l else x :: dd l
theorem mem_dd {y : Int} : ∀ {l : List Int}, y ∈ dd l ↔ y ∈ l
  | [] => Iff.rfl
  | x :: l => by
    unfold dd
    split
    · rename_i h
      rw [mem_dd, List.mem_cons]
      constructor
      · exact .inr
      · rintro (rfl | h2)
        · exact h
        · exact h2
    · rw [List.mem_cons, mem_dd, List.mem_cons]
theorem dd_nodup : ∀ l : List Int, (dd l).Nodup
  | [] => List.nodup_nil
  | x :: l => by
    unfold dd
    split
    · exact dd_nodup l
    · rename_i h
      exact List.nodup_cons.mpr ⟨fun z => h (mem_dd.mp z), dd_nodup l⟩
open Classical in
/-- the rooms that are reached, ascending -/
noncomputable def conn (D : List (Int × Int)) (R : List Int) (x : Int) : List Int := sortI ((dd (x :: ends D)).filter fun y => decide (Re D R x y))
section
variable {D : List (Int × Int)} {R R' : List Int} {x y z : Int}
open Classical in
theorem mem_conn : y ∈ conn D R x ↔ Re D R x y := by
  unfold conn
  rw [(sortI_perm _).mem_iff, List.mem_filter, mem_dd, List.mem_cons]
  refine (and_congr_right fun _ => (decide_eq_true_iff ..)).trans ?_
  exact ⟨fun h => h.2, fun h => ⟨h.ends, h⟩⟩
theorem conn_nodup : (conn D R x).Nodup := (sortI_perm _).nodup_iff.mpr ((dd_nodup _).filter _)
theorem conn_asc : (conn D R x).Pairwise (· < ·) := by
  have h1 : (conn D R x).Pairwise (· ≤ ·) := sortI_sorted _
  exact (List.Pairwise.and h1 conn_nodup).imp fun h => by have := h.1; have := h.2; omega
theorem asc_uniq {l l' : List Int} (h1 : l.Nodup) (h2 : l'.Nodup) (h : ∀ y, y ∈ l ↔ y ∈ l') : sortI l = sortI l' :=
  sortI_unique ((sortI_perm l).trans ((List.perm_ext_iff_of_nodup h1 h2).mpr h)) (sortI_sorted l)
theorem conn_eq {l : List Int} (h1 : l.Nodup) (h : ∀ y, y ∈ l ↔ Re D R x y) : sortI l = conn D R x := by
  have e : sortI (conn D R x) = conn D R x := sortI_id (sortI_sorted _)
  rw [← e]
  exact asc_uniq h1 conn_nodup fun y => (h y).trans mem_conn.symm
theorem conn_same (h : Re D R x y) : conn D R x = conn D R y := by
  have e2 : sortI (conn D R x) = conn D R x := sortI_id (sortI_sorted _)
  rw [← e2]
  exact conn_eq conn_nodup fun z => mem_conn.trans ⟨fun g => h.symm.trans g, fun g => h.trans g⟩
theorem self_conn : x ∈ conn D R x := mem_conn.mpr .refl
end
/-! ### the search by paths -/
def kys (m : Mp) : List Int := m.map (·.1)
theorem lk_kys {m : Mp} {t : Int} : (lk m t).isSome = true ↔ t ∈ kys m := by
  unfold lk kys
  rw [Option.isSome_map, List.find?_isSome]
  constructor
  · rintro ⟨q, hq, e⟩
    exact List.mem_map.mpr ⟨q, hq, by simpa using e⟩
  · intro h
    obtain ⟨q, hq, e⟩ := List.mem_map.mp h
    exact ⟨q, hq, by simpa using e⟩
theorem kys_app {m : Mp} {t : Int} {p : List Int} : kys (m ++ [(t, p)]) = kys m ++ [t] := by simp [kys]
theorem fold_kys {D : List (Int × Int)} {B : Nat} {h : Int} {p : List Int} : ∀ (ts : List Int) (m : Mp) (st : List Int), SOk D B m st → (∀ t ∈ ts, t ∈ ends D) → lk m h = some p → (kys m).Nodup →
    (kys (ts.foldl (visit p) (m, st)).1).Nodup ∧ (∀ t ∈ kys m, t ∈ kys (ts.foldl (visit p) (m, st)).1) ∧ (∀ t ∈ ts, t ∈ kys (ts.foldl (visit p) (m, st)).1) ∧ (∀ t ∈ kys (ts.foldl (visit p) (m, st)).1, t ∈ kys m ∨ t ∈ ts) ∧
    (∀ t ∈ kys (ts.foldl (visit p) (m, st)).1, t ∈ kys m ∨ t ∈ (ts.foldl (visit p) (m, st)).2) ∧ (∀ t ∈ st, t ∈ (ts.foldl (visit p) (m, st)).2) ∧ mea D (ts.foldl (visit p) (m, st)).1 (ts.foldl (visit p) (m, st)).2 ≤ mea D m st
  | [], m, st, o, _, _, nd => ⟨nd, fun _ h => h, fun _ h => by simp at h, fun _ h => .inl h, fun _ h => .inl h, fun _ h => h, Nat.le_refl _⟩
  | t :: ts, m, st, o, hts, hp, nd => by
    have hts' : ∀ t ∈ ts, t ∈ ends D := fun u hu => hts u (List.mem_cons_of_mem _ hu)
    rw [List.foldl_cons]
    cases e : lk m t with
    | some q =>
      have ht : t ∈ kys m := lk_kys.mp (by rw [e]; rfl)
      rw [visit_seen (by rw [e]; rfl)]
      obtain ⟨a1, a2, a3, a4, a5, a6, a7⟩ := fold_kys ts m st o hts' hp nd
      refine ⟨a1, a2, fun u hu => ?_, fun u hu => ?_, a5, a6, a7⟩
      · rcases List.mem_cons.mp hu with rfl | hu
        · exact a2 _ ht
        · exact a3 u hu
      · exact (a4 u hu).imp id (List.mem_cons_of_mem _)
    | none =>
      rw [visit_new e]
      have hn : t ∉ kys m := fun z => by have := lk_kys.mpr z; rw [e] at this; cases this
      obtain ⟨o', me, hp'⟩ := o.visit (hts t (List.mem_cons_self ..)) e hp
      obtain ⟨a1, a2, a3, a4, a5, a6, a7⟩ := fold_kys ts (m ++ [(t, p ++ [t])]) (st ++ [t]) o' hts' hp' (by
        rw [kys_app, List.nodup_append]
        exact ⟨nd, by simp, fun u hu v hv ee => by rw [List.mem_singleton.mp hv] at ee; exact hn (ee ▸ hu)⟩)
      rw [kys_app] at a2 a4 a5
      refine ⟨a1, fun u hu => a2 u (by simp [hu]), fun u hu => ?_, fun u hu => ?_, fun u hu => ?_, fun u hu => a6 u (by simp [hu]), by omega⟩
      · rcases List.mem_cons.mp hu with rfl | hu
        · exact a2 _ (by simp)
        · exact a3 u hu
      · rcases a4 u hu with h2 | h2
        · rcases List.mem_append.mp h2 with h2 | h2
          · exact .inl h2
          · exact .inr (by rw [List.mem_singleton.mp h2]; exact List.mem_cons_self ..)
        · exact .inr (List.mem_cons_of_mem _ h2)
      · rcases a5 u hu with h2 | h2
        · rcases List.mem_append.mp h2 with h2 | h2
          · exact .inl h2
          · exact .inr (a6 u (by simp [List.mem_singleton.mp h2]))
        · exact .inr h2
theorem srch_kys {D : List (Int × Int)} {B : Nat} {P : Int → Prop} (hP : ∀ h, P h → ∀ t ∈ nb D h, P t) : ∀ (f : Nat) (m : Mp) (st : List Int), SOk D B m st → mea D m st ≤ f → (kys m).Nodup → (∀ h ∈ kys m, h ∉ st → ∀ t ∈ nb D h, t ∈ kys m) → (∀ h ∈ kys m, P h) →
    (kys (srch D f m st)).Nodup ∧ (∀ h ∈ kys (srch D f m st), ∀ t ∈ nb D h, t ∈ kys (srch D f m st)) ∧ (∀ h ∈ kys (srch D f m st), P h) ∧ (∀ h ∈ kys m, h ∈ kys (srch D f m st))
  | f, m, [], o, hf, nd, cl, pp => by
    rw [srch_nil]
    exact ⟨nd, fun h hh => cl h hh (by simp), pp, fun _ h => h⟩
  | 0, m, u :: st, o, hf, nd, cl, pp => by unfold mea at hf; simp at hf
  | f + 1, m, u :: st, o, hf, nd, cl, pp => by
    obtain ⟨v, st', e⟩ : ∃ v st', u :: st = st' ++ [v] := ⟨(u :: st).getLast (by simp), (u :: st).dropLast, (List.dropLast_concat_getLast (by simp)).symm⟩
    rw [e] at o hf cl ⊢
    rw [srch_snoc]
    have hv := o.st v (by simp)
    obtain ⟨p, hp⟩ := Option.isSome_iff_exists.mp hv
    have o1 : SOk D B m st' := ⟨o.len, o.ps, fun z hz => o.st z (by simp [hz])⟩
    have hm : mea D m st' ≤ f := by unfold mea at hf ⊢; simp at hf; omega
    rw [hp, Option.getD_some]
    obtain ⟨a1, a2, a3, a4, a5, a6, a7⟩ := fold_kys (nb D v) m st' o1 (fun t ht => nb_ends ht) hp nd
    have o2 := fold_ok (nb D v) m st' o1 (fun t ht => nb_ends ht) hp
    have vk : v ∈ kys m := lk_kys.mp hv
    dsimp only
    have c1 : ∀ h ∈ kys ((nb D v).foldl (visit p) (m, st')).1, h ∉ ((nb D v).foldl (visit p) (m, st')).2 → ∀ t ∈ nb D h, t ∈ kys ((nb D v).foldl (visit p) (m, st')).1 := by
      intro h hh hn t ht
      rcases a5 h hh with h2 | h2
      · by_cases ev : h = v
        · subst ev
          exact a3 t ht
        · refine a2 t (cl h h2 (fun z => ?_) t ht)
          rcases List.mem_append.mp z with z | z
          · exact hn (a6 h z)
          · exact ev (List.mem_singleton.mp z)
      · exact absurd h2 hn
    have c2 : ∀ h ∈ kys ((nb D v).foldl (visit p) (m, st')).1, P h := by
      intro h hh
      rcases a4 h hh with h2 | h2
      · exact pp h h2
      · exact hP v (pp v vk) h h2
    obtain ⟨b1, b2, b3, b4⟩ := srch_kys hP f _ _ o2 (by omega) a1 c1 c2
    exact ⟨b1, b2, b3, fun h hh => b4 h (a2 h hh)⟩
theorem paths_kys {D : List (Int × Int)} {R : List Int} {a : Int} : (kys (pathsM (D.filter fun p => decide (p.1 ∈ R) && decide (p.2 ∈ R)) a)).Nodup ∧ ∀ y, y ∈ kys (pathsM (D.filter fun p => decide (p.1 ∈ R) && decide (p.2 ∈ R)) a) ↔ Re D R a y := by
  have nbf : ∀ h t, t ∈ nb (D.filter fun p => decide (p.1 ∈ R) && decide (p.2 ∈ R)) h ↔ t ∈ nb D h ∧ h ∈ R ∧ t ∈ R := fun h t => by
    rw [mem_nb, mem_nb, List.mem_filter, List.mem_filter]
    simp only [Bool.and_eq_true, decide_eq_true_eq]
    constructor
    · rintro (⟨h1, h2, h3⟩ | ⟨h1, h2, h3⟩)
      · exact ⟨.inl h1, h2, h3⟩
      · exact ⟨.inr h1, h3, h2⟩
    · rintro ⟨h1 | h1, h2, h3⟩
      · exact .inl ⟨h1, h2, h3⟩
      · exact .inr ⟨h1, h3, h2⟩
  generalize hE : (D.filter fun p => decide (p.1 ∈ R) && decide (p.2 ∈ R)) = E at *
  obtain ⟨b1, b2, b3, b4⟩ := srch_kys (D := E) (P := fun y => Re D R a y) (fun h hh t ht => by
      obtain ⟨c1, c2, c3⟩ := (nbf h t).mp ht
      exact .step hh c2 c3 c1) (mea E [(a, [a])] [a]) [(a, [a])] [a] (SOk.start E a) (Nat.le_refl _) (by simp [kys]) (fun h hh hn => by simp [kys] at hh; simp [hh] at hn) (fun h hh => by simp [kys] at hh; subst hh; exact .refl)
  refine ⟨b1, fun y => ⟨b3 y, fun h => ?_⟩⟩
  induction h with
  | refl => exact b4 a (by simp [kys])
  | step _ c1 c2 c3 ih => exact b2 _ ih _ ((nbf _ _).mpr ⟨c3, c1, c2⟩)
/-! ### houses -/
/-- no room twice beside another -/
def Gd (D : List (Int × Int)) : Prop := ∀ h, (nb D h).Nodup
/-- the parts of R, in the order of their first rooms -/
noncomputable def comps (D : List (Int × Int)) (R : List Int) : List (List Int) := R.foldl (fun acc r => if acc.any (fun c => decide (r ∈ c)) = true then acc else acc ++ [conn D R r]) []
theorem lex_head {a b : Int} {l m : List Int} (h : a < b) : LexLt (a :: l) (b :: m) := .inl h
theorem conn_head {D : List (Int × Int)} {R : List Int} {r : Int} (h : ∀ y, Re D R r y → r ≤ y) : ∃ l, conn D R r = r :: l := by
  have h1 := conn_asc (D := D) (R := R) (x := r)
  have h2 := self_conn (D := D) (R := R) (x := r)
  cases e : conn D R r with
  | nil => rw [e] at h2; simp at h2
  | cons a l =>
    rw [e] at h1 h2
    have ha : Re D R r a := mem_conn.mp (by rw [e]; simp)
    have := h a ha
    rcases List.mem_cons.mp h2 with rfl | h3
    · exact ⟨l, rfl⟩
    · have := (List.pairwise_cons.mp h1).1 r h3
      omega
theorem comps_go {D : List (Int × Int)} {R : List Int} : ∀ (B A : List Int) (acc : List (List Int)), R = A ++ B → R.Pairwise (· < ·) → (∀ k, k ∈ acc ↔ ∃ r ∈ A, k = conn D R r) → acc.Pairwise LexLt → (∀ k ∈ acc, ∃ r ∈ A, ∃ l, k = r :: l) →
    (B.foldl (fun acc r => if acc.any (fun c => decide (r ∈ c)) = true then acc else acc ++ [conn D R r]) acc).Pairwise LexLt ∧ ∀ k, k ∈ B.foldl (fun acc r => if acc.any (fun c => decide (r ∈ c)) = true then acc else acc ++ [conn D R r]) acc ↔ ∃ r ∈ R, k = conn D R r
  | [], A, acc, e, _, h1, h2, _ => by
    rw [List.append_nil] at e
    subst e
    exact ⟨h2, h1⟩
  | r :: B, A, acc, e, hR, h1, h2, h3 => by
    rw [List.foldl_cons]
    have e' : R = (A ++ [r]) ++ B := by rw [e]; simp
    have rR : r ∈ R := by rw [e]; simp
    have lt : ∀ a ∈ A, a < r := fun a ha => by
      rw [e] at hR
      exact (List.pairwise_append.mp hR).2.2 a ha r (List.mem_cons_self ..)
    have before : ∀ y ∈ R, y < r → y ∈ A := fun y hy hlt => by
      rw [e] at hy hR
      rcases List.mem_append.mp hy with hy | hy
      · exact hy
      · rcases List.mem_cons.mp hy with rfl | hy
        · omega
        · have := (List.pairwise_cons.mp (List.pairwise_append.mp hR).2.1).1 y hy
          omega
    by_cases hs : acc.any (fun c => decide (r ∈ c)) = true
    · rw [if_pos hs]
      obtain ⟨c, hc, hrc⟩ := List.any_eq_true.mp hs
      obtain ⟨q, hq, rfl⟩ := (h1 c).mp hc
      have hrq : Re D R q r := mem_conn.mp (by simpa using hrc)
      refine comps_go B (A ++ [r]) acc e' hR (fun k => (h1 k).trans ⟨fun ⟨a, ha, ee⟩ => ⟨a, by simp [ha], ee⟩, fun ⟨a, ha, ee⟩ => ?_⟩) h2 fun k hk => let ⟨a, ha, l, ee⟩ := h3 k hk; ⟨a, by simp [ha], l, ee⟩
      rcases List.mem_append.mp ha with ha | ha
      · exact ⟨a, ha, ee⟩
      · rw [List.mem_singleton.mp ha] at ee
        exact ⟨q, hq, by rw [ee, conn_same hrq]⟩
    · rw [if_neg hs]
      have new : ∀ a ∈ A, ¬ Re D R a r := fun a ha z => hs (List.any_eq_true.mpr ⟨conn D R a, (h1 _).mpr ⟨a, ha, rfl⟩, by simpa using mem_conn.mpr z⟩)
      have least : ∀ y, Re D R r y → r ≤ y := fun y hy => by
        by_cases h : r ≤ y
        · exact h
        · exact absurd hy.symm (new y (before y (hy.inR rR) (by omega)))
      obtain ⟨l, el⟩ := conn_head least
      refine comps_go B (A ++ [r]) (acc ++ [conn D R r]) e' hR (fun k => ?_) ?_ fun k hk => ?_
      · rw [List.mem_append, h1 k, List.mem_singleton]
        constructor
        · rintro (⟨a, ha, ee⟩ | ee)
          · exact ⟨a, by simp [ha], ee⟩
          · exact ⟨r, by simp, ee⟩
        · rintro ⟨a, ha, ee⟩
          rcases List.mem_append.mp ha with ha | ha
          · exact .inl ⟨a, ha, ee⟩
          · rw [List.mem_singleton.mp ha] at ee
            exact .inr ee
      · rw [List.pairwise_append]
        refine ⟨h2, by simp, fun k hk m hm => ?_⟩
        rw [List.mem_singleton.mp hm, el]
        obtain ⟨a, ha, l2, rfl⟩ := h3 k hk
        exact lex_head (lt a ha)
      · rcases List.mem_append.mp hk with hk | hk
        · obtain ⟨a, ha, l2, ee⟩ := h3 k hk
          exact ⟨a, by simp [ha], l2, ee⟩
        · rw [List.mem_singleton.mp hk, el]
          exact ⟨r, by simp, l, rfl⟩
theorem comps_ok {D : List (Int × Int)} {R : List Int} (hR : R.Pairwise (· < ·)) : (comps D R).Pairwise LexLt ∧ ∀ k, k ∈ comps D R ↔ ∃ r ∈ R, k = conn D R r :=
  comps_go R [] [] rfl hR (fun k => by simp) .nil fun _ z => nomatch z
end DL
/-! S13: connected rooms, parts, regions: the defs keep their promises. -/
namespace DL
open PySem PySem.Spec PyProof.Rows L2 RZ
/-- a list or a tuple of rooms -/
def IsR (d : Val) (R : List Int) : Prop := d = .tup (iv R) ∨ d = .lst (iv R)
theorem IsR.inn {d : Val} {R : List Int} (h : IsR d R) {S : Store} {neg : Bool} {x : Int} : gIn neg S (.int x) d = some (.v (.bl (neg != decide (x ∈ R)))) := by
  rcases h with rfl | rfl
  · exact o_in_ti
  · exact o_in_li
theorem IsR.seq {d : Val} {R : List Int} (h : IsR d R) : seqOf d = some (iv R) := by rcases h with rfl | rfl <;> rfl
theorem IsR.noL {d : Val} {R : List Int} (h : IsR d R) {S : Store} : drf S d = drf S d := rfl
/-- small rooms, no room twice beside another -/
structure Hs (n : Int) (D : List (Int × Int)) : Prop where
  n0 : 0 ≤ n
  n1 : n ≤ 60
  inn : inD n D
  len : D.length ≤ 1000
  gd : Gd D
theorem nodup_le {n : Int} {l : List Int} (h : l.Nodup) (h2 : ∀ y ∈ l, 0 ≤ y ∧ y < n) : l.length ≤ n.toNat := by
  have e : (l.map Int.toNat).length ≤ (List.range n.toNat).length := L2.nat_nodup_len _ _ (by
      rw [List.Nodup, List.pairwise_map]
      exact List.Pairwise.imp_of_mem (fun {a b} ha hb hne z => hne (by have := h2 a ha; have := h2 b hb; omega)) h) fun x hx => by
    obtain ⟨y, hy, rfl⟩ := List.mem_map.mp hx
    have := h2 y hy
    exact List.mem_range.mpr (by omega)
  simpa using e
theorem Re.range {n : Int} {D : List (Int × Int)} {R : List Int} {x y : Int} (hD : inD n D) (hx : 0 ≤ x ∧ x < n) (h : Re D R x y) : 0 ≤ y ∧ y < n := by
  cases h with
  | refl => exact hx
  | step _ _ _ c => exact nb_in hD c
def nbR (D : List (Int × Int)) (r : Int) : List Int := (D.filter fun p => decide (p.1 = r)).map (·.2) ++ (D.filter fun p => decide (p.2 = r)).map (·.1)
theorem mem_nbR {D : List (Int × Int)} {r t : Int} : t ∈ nbR D r ↔ t ∈ nb D r := ((sortI_perm _).mem_iff).symm
theorem nbR_nodup {D : List (Int × Int)} {r : Int} : (nb D r).Nodup ↔ (nbR D r).Nodup := (sortI_perm _).nodup_iff
theorem nbR_perm {D E : List (Int × Int)} (h : D.Perm E) (r : Int) : (nbR D r).Perm (nbR E r) := ((h.filter _).map _).append ((h.filter _).map _)
theorem Gd.perm {D E : List (Int × Int)} (h : D.Perm E) (g : Gd E) : Gd D := fun r => nbR_nodup.mpr ((nbR_perm h r).nodup_iff.mpr (nbR_nodup.mp (g r)))
theorem nbR_snoc {D : List (Int × Int)} {p q r : Int} : (nbR (D ++ [(p, q)]) r).Perm (nbR D r ++ ((if p = r then [q] else []) ++ (if q = r then [p] else []))) := by
  unfold nbR
  rw [List.filter_append, List.filter_append, List.map_append, List.map_append]
  have e1 : (List.filter (fun p : Int × Int => decide (p.1 = r)) [(p, q)]).map (·.2) = if p = r then [q] else [] := by by_cases h : p = r <;> simp [h]
  have e2 : (List.filter (fun p : Int × Int => decide (p.2 = r)) [(p, q)]).map (·.1) = if q = r then [p] else [] := by by_cases h : q = r <;> simp [h]
  rw [e1, e2]
  generalize (List.filter (fun p : Int × Int => decide (p.1 = r)) D).map (·.2) = A
  generalize (List.filter (fun p : Int × Int => decide (p.2 = r)) D).map (·.1) = B
  generalize (if p = r then [q] else []) = C
  generalize (if q = r then [p] else []) = F
  have : (A ++ C ++ (B ++ F)).Perm (A ++ B ++ (C ++ F)) := by
    rw [List.append_assoc, List.append_assoc]
    refine List.Perm.append_left A ?_
    rw [← List.append_assoc, ← List.append_assoc]
    exact List.Perm.append_right F List.perm_append_comm
  exact this
theorem gd_snoc {o : List Int} {D : List (Int × Int)} {a x p q : Int} (hm : ∀ p ∈ D, p.1 ∈ o ∧ p.2 ∈ o) (g : Gd D) (ha : a ∈ o) (hx : x ∉ o) (hpq : (p = a ∧ q = x) ∨ (p = x ∧ q = a)) : Gd (D ++ [(p, q)]) := by
  intro r
  rw [nbR_nodup, nbR_snoc.nodup_iff]
  have nx : x ∉ nbR D r := fun z => by
    rcases mem_nb.mp (mem_nbR.mp z) with h | h
    · exact hx (hm _ h).2
    · exact hx (hm _ h).1
  have nil : r = x → nbR D r = [] := fun e => by
    cases h : nbR D r with
    | nil => rfl
    | cons t l =>
      have ht : t ∈ nbR D r := by rw [h]; simp
      rcases mem_nb.mp (mem_nbR.mp ht) with h | h
      · exact absurd (hm _ h).1 (by rw [e]; exact hx)
      · exact absurd (hm _ h).2 (by rw [e]; exact hx)
  have ne : a ≠ x := fun e => hx (e ▸ ha)
  have g' := nbR_nodup.mp (g r)
  by_cases h1 : r = a
  · subst h1
    have e : ((if p = r then [q] else []) ++ (if q = r then [p] else [])) = [x] := by
      rcases hpq with ⟨rfl, rfl⟩ | ⟨rfl, rfl⟩ <;> simp [ne, Ne.symm ne]
    rw [e, List.nodup_append]
    exact ⟨g', by simp, fun u hu v hv ee => by rw [List.mem_singleton.mp hv] at ee; exact nx (ee ▸ hu)⟩
  · by_cases h2 : r = x
    · rw [nil h2]
      subst h2
      rcases hpq with ⟨rfl, rfl⟩ | ⟨rfl, rfl⟩ <;> simp [ne, Ne.symm ne]
    · have e : ((if p = r then [q] else []) ++ (if q = r then [p] else [])) = [] := by
        rcases hpq with ⟨rfl, rfl⟩ | ⟨rfl, rfl⟩ <;> simp [Ne.symm h1, Ne.symm h2]
      rw [e, List.append_nil]
      exact g'
theorem Joins.gd {o : List Int} {E : List (Int × Int)} (h : Joins o E) : o.Nodup → Gd E := by
  induction h with
  | one x => intro _ r; simp [nb, sortI]
  | skip x _ ih => intro nd; exact ih (List.nodup_append.mp nd).1
  | @door o E a x hj ha ih =>
    intro nd
    obtain ⟨n1, n2, n3⟩ := List.nodup_append.mp nd
    have hx : x ∉ o := fun z => n3 x z x (by simp) rfl
    refine gd_snoc hj.mem (ih n1) ha hx ?_
    have ne : a ≠ x := fun e => hx (e ▸ ha)
    rcases Int.lt_trichotomy x a with h | h | h
    · exact .inr ⟨by rw [if_pos h], by rw [if_neg (by omega)]⟩
    · exact absurd h.symm ne
    · exact .inl ⟨by rw [if_neg (by omega)], by rw [if_pos h]⟩
theorem House.gd {n : Int} {D : List (Int × Int)} (h : House n D) : Gd D := by
  obtain ⟨o, E, h1, h2, rfl⟩ := h.ex
  exact Gd.perm (sortP_perm E) (h2.gd (h1.nodup_iff.mpr (iota_nodup n)))
theorem House.hs {n : Int} {D : List (Int × Int)} (h : House n D) (hn : n ≤ 60) : Hs n D := ⟨by have := h.pos; omega, hn, h.inD, by have := h.len; omega, h.gd⟩
/-- the right rooms but perhaps for x itself -/
def IsRx (x : Int) (d : Val) (R : List Int) : Prop := ∃ R0, IsR d R0 ∧ ∀ y, y ≠ x → (y ∈ R0 ↔ y ∈ R)
theorem IsR.toX {x : Int} {d : Val} {R : List Int} (h : IsR d R) : IsRx x d R := ⟨R, h, fun _ _ => Iff.rfl⟩
theorem IsRx.inl {x : Int} {d : Val} {R : List Int} (h : d = .tup (iv R)) : IsRx x d R := IsR.toX (Or.inl h)
theorem IsRx.inr {x : Int} {d : Val} {R : List Int} (h : d = .lst (iv R)) : IsRx x d R := IsR.toX (Or.inr h)
instance (x : Int) (d : Val) (R : List Int) : Coe (IsR d R) (IsRx x d R) := ⟨IsR.toX⟩
def F__law_connected : FSpec := fun ds S Q _ => ∃ n D rv R x, ds = [hv n D, rv, .int x] ∧ IsRx x rv R ∧ Hs n D ∧ 0 ≤ x ∧ x < n ∧ x ∈ R ∧ Q (.v (tv (conn D R x))) S
def ws__law_connected : WpS :=
  (wsSeq (wsPar2 true 3 4 (wLst (wCons (wVar 2) wNil)) (wC (.int 0)))
  (wsSeq (wsWhile (wTst (w2 (by2 gLt) (wVar 4) (wN (byN gLen) (wCons (wVar 3) wNil))))
  (wsSeq (wsExtend false 3 (wLc (wSeq (wCall (fun ds S Q Xq => ds.length = 2 ∧ F__law_neighbors ds S Q Xq) (wCons (wVar 0) (wCons (w2 (by2 gIx) (wVar 3) (wVar 4)) wNil)))) (.nm 5) (wAndT (wTst (w2 (by2 (gIn false)) (wVar 5) (wVar 1))) (wTst (w2 (by2 (gIn true)) (wVar 5) (wVar 3)))) (wVar 5) [5]))
  (wsSet true 4 (w2 (by2 gAdd) (wVar 4) (wC (.int 1))))))
  (wsRet (wN (byN gTuple) (wCons (wN (byN gSorted) (wCons (wVar 3) wNil)) wNil)))))
theorem p__law_connected : ∀ ds S Qd Xd, ds.length = 3 → F__law_connected ds S Qd Xd → ws__law_connected { nx := fun _ S' => Qd (.v .non) S', rt := Qd } (startD ["_law_house_here", "_law_rooms", "_law_room", "_law_found", "_law_spot", "_law_there"] ds) S (fun x _ S' => Xd x S') := by
  rintro ds S Qd Xd - ⟨n, D, rv, R, x, rfl, ⟨R0, hR, hRx⟩, hH, x0, x1, xR, h⟩
  have hs := sizeLine_eq
  have hlen := hH.len
  have hn1 := hH.n1
  have z1 : 1 ≤ sizeLine := szl (by omega)
  simp [ws__law_connected, startD, z1]
  obtain ⟨I, hI⟩ : ∃ I : Nat → DEnv → Store → Prop, I = fun f δ S' => S' = S ∧ ∃ (F : List Int) (k : Int) (y : Option Val), δ = [some (.v (hv n D)), some (.v rv), some (.v (.int x)), some (.l (iv F)), some (.v (.int k)), ov y] ∧ 0 ≤ k ∧ k ≤ F.length ∧ (n - k).toNat = f ∧ F.Nodup ∧ (∀ y ∈ F, Re D R x y) ∧ x ∈ F ∧
      ∀ (i : Nat) u, (i : Int) < k → F[i]? = some u → ∀ t ∈ nb D u, t ∈ R → t ∈ F := ⟨_, rfl⟩
  refine ⟨I, ⟨n.toNat, by rw [hI]; exact ⟨rfl, [x], 0, none, rfl, by omega, by simp, by simp, by simp, fun y hy => by rw [List.mem_singleton.mp hy]; exact .refl, by simp, fun i u hi => by omega⟩⟩, ?_⟩
  intro f δ S' hi
  rw [hI] at hi
  obtain ⟨rfl, F, k, y, rfl, k0, k1, hf, nd, hre, hx, hcl⟩ := hi
  have fr : ∀ y ∈ F, 0 ≤ y ∧ y < n := fun y hy => (hre y hy).range hH.inn ⟨x0, x1⟩
  have fl := nodup_le nd fr
  simp
  by_cases hk : k < F.length
  · have hk2 : k.toNat < F.length := by omega
    have ha : L2.atI (iv F) k = some (.int F[k.toNat]) := atI' k0 (by simp [hk2])
    have hu : F[k.toNat] ∈ F := List.getElem_mem hk2
    generalize hug : F[k.toNat] = u at ha hu
    have hul := nb_len D u
    simp [hk, ha]
    refine ⟨n, D, u, rfl, hlen, ?_⟩
    simp
    refine lc_pure Val.int .int (fun t => decide (t ∈ R) && !decide (t ∈ F)) id S' (fun t => ⟨by simp, _, rfl, fun QT hq => ?_, by simp⟩) (nb D u) [] (by simp; omega) ?_
    · simp [hR.inn]
      by_cases h2 : t ∈ F
      · by_cases h1 : t ∈ R0 <;> simp_all
      · have h3 : t ≠ x := fun e => h2 (e ▸ hx)
        have h4 := hRx t h3
        by_cases h1 : t ∈ R
        · have h5 := h4.mpr h1
          simp_all
        · have h5 : t ∉ R0 := fun z => h1 (h4.mp z)
          simp_all
    · have fl2 := List.length_filter_le (fun t => decide (t ∈ R) && !decide (t ∈ F)) (nb D u)
      simp
      refine ⟨by omega, (n - (k + 1)).toNat, ?_, ?_⟩
      · have := fr u hu
        omega
      · rw [hI]
        have mem : ∀ z, z ∈ F ++ (nb D u).filter (fun t => decide (t ∈ R) && !decide (t ∈ F)) ↔ z ∈ F ∨ (z ∈ nb D u ∧ z ∈ R ∧ z ∉ F) := fun z => by
          rw [List.mem_append, List.mem_filter]; simp
        refine ⟨rfl, F ++ (nb D u).filter (fun t => decide (t ∈ R) && !decide (t ∈ F)), k + 1, y, by simp [ov], by omega, by simp; omega, rfl, ?_, fun z hz => ?_, by simp [hx], fun i v hi hv t ht hr => ?_⟩
        · rw [List.nodup_append]
          refine ⟨nd, (hH.gd u).filter _, fun a ha b hb e => ?_⟩
          have := (List.mem_filter.mp hb).2
          simp at this
          exact this.2 (e ▸ ha)
        · rcases (mem z).mp hz with h2 | ⟨h2, h3, h4⟩
          · exact hre z h2
          · have := hre u hu
            exact .step this (this.inR xR) h3 h2
        · rw [mem]
          by_cases h5 : t ∈ F
          · exact .inl h5
          · by_cases h6 : (i : Int) < k
            · have hi2 : i < F.length := by omega
              rw [List.getElem?_append_left hi2] at hv
              exact absurd (hcl i v h6 hv t ht hr) h5
            · have e : i = k.toNat := by omega
              subst e
              rw [List.getElem?_append_left hk2, List.getElem?_eq_getElem hk2, hug] at hv
              cases hv
              exact .inr ⟨ht, hr, h5⟩
  · simp [hk]
    have ek : k = F.length := by omega
    have e : sortI F = conn D R x := conn_eq nd fun z => ⟨hre z, fun hz => by
      induction hz with
      | refl => exact hx
      | step _ a b c ih =>
        obtain ⟨i, hi⟩ := List.getElem?_of_mem ih
        have := (List.getElem?_eq_some_iff.mp hi).1
        exact hcl i _ (by omega) hi _ c b⟩
    rw [e]
    exact h
end DL
/-! S14: parts, regions: the defs keep their promises. -/
namespace DL
open PySem PySem.Spec PyProof.Rows L2 RZ
@[simp] theorem gAny_bl {S : Store} {bs : List Bool} : gAny S [.lst (bs.map Val.bl)] = some (.v (.bl (bs.any id))) := by
  simp [gAny, gAllAny, lsq, DL.sq, blsOf_map]
theorem hv_ix0 {S : Store} {n : Int} {D : List (Int × Int)} : gIx S (hv n D) (.int 0) = some (.v (.int n)) := by simp [hv, at0]
theorem hv_ix1 {S : Store} {n : Int} {D : List (Int × Int)} : gIx S (hv n D) (.int 1) = some (.v (.tup (D.map prV))) := by simp only [hv, o_ix_t, at1]; rfl
/-! ### the law's own search -/
/-! ### regions -/
/-- the rooms in which somebody is, ascending -/
def occ (n : Int) (P : Plm) : List Int := (iota n).filter fun r => decide (r ∈ P.map (·.2))
theorem iota_asc (n : Int) : (iota n).Pairwise (· < ·) := by
  unfold iota
  rw [List.pairwise_map]
  exact List.pairwise_lt_range.imp fun h => by omega
/-- the people of a room -/
def ppl (P : Plm) (r : Int) : List Str := (P.filter fun q => decide (q.2 = r)).map (·.1)
theorem IsR.len {d : Val} {R : List Int} (h : IsR d R) {S : Store} : gLen S [d] = some (.v (.int (R.length : Nat))) := by
  rcases h with rfl | rfl <;> simp
end DL
/-! S15: dicts by names; random walks. -/
namespace DL
open PySem PySem.Spec PyProof.Rows L2 RZ
/-! ### dicts from names to rooms -/
def lkS (F : Plm) (s : Str) : Option Int := (F.find? fun q => decide (q.1 = s)).map (·.2)
theorem lkS_mem {F : Plm} {s : Str} (h : s ∈ F.map (·.1)) : ∃ r, lkS F s = some r ∧ (s, r) ∈ F := by
  obtain ⟨q, hq, e⟩ := List.mem_map.mp h
  have : (F.find? fun q => decide (q.1 = s)).isSome = true := List.find?_isSome.mpr ⟨q, hq, by simpa using e⟩
  obtain ⟨p, hp⟩ := Option.isSome_iff_exists.mp this
  have h1 := List.mem_of_find?_eq_some hp
  have h2 := List.find?_some hp
  have h3 : p.1 = s := by simpa using h2
  exact ⟨p.2, by unfold lkS; rw [hp]; rfl, by rw [← h3]; exact h1⟩
theorem lkS_of {F : Plm} (hnd : (F.map (·.1)).Nodup) {s : Str} {r : Int} (h : (s, r) ∈ F) : lkS F s = some r := by
  obtain ⟨r', e, h2⟩ := lkS_mem (List.mem_map.mpr ⟨(s, r), h, rfl⟩)
  rw [e]
  congr 1
  induction F with
  | nil => simp at h
  | cons q F ih =>
    obtain ⟨n1, n2⟩ := List.nodup_cons.mp (show (q.1 :: F.map (·.1)).Nodup from hnd)
    rcases List.mem_cons.mp h with h3 | h3
    · subst h3
      rcases List.mem_cons.mp h2 with e2 | h2
      · exact (Prod.mk.inj e2).2
      · exact absurd (show s ∈ F.map (·.1) from List.mem_map.mpr ⟨(s, r'), h2, rfl⟩) n1
    · rcases List.mem_cons.mp h2 with h4 | h4
      · subst h4
        exact absurd (show s ∈ F.map (·.1) from List.mem_map.mpr ⟨(s, r), h3, rfl⟩) n1
      · unfold lkS at e
        rw [List.find?_cons] at e
        have hne : ¬ q.1 = s := fun z => n1 (List.mem_map.mpr ⟨_, h3, z.symm⟩)
        simp only [hne, decide_false] at e
        exact ih n2 h3 e h4
/-! ### random walks -/
/-- the placement with s in room r -/
def setP (P : Plm) (s : Str) (r : Int) : Plm := P.map fun q => if q.1 = s then (q.1, r) else q
inductive Walk (D : List (Int × Int)) (P : Plm) : Plm → Plm → Prop
  | nil : Walk D P [] P
  | snoc {M P' : Plm} {q : Str × Int} : Walk D P M P' → q ∈ mvs D P' → Walk D P (M ++ [q]) (setP P' q.1 q.2)
theorem setP_keys {P : Plm} {s : Str} {r : Int} : (setP P s r).map (·.1) = P.map (·.1) := by
  unfold setP
  rw [List.map_map]
  refine List.map_congr_left fun q _ => ?_
  simp only [Function.comp]
  split <;> rfl
theorem Walk.keys {D : List (Int × Int)} {P M P' : Plm} (h : Walk D P M P') : P'.map (·.1) = P.map (·.1) := by
  induction h with
  | nil => rfl
  | snoc _ _ ih => rw [setP_keys, ih]
theorem atLast {α : Type} {xs : List α} {x : α} : L2.atI (xs ++ [x]) (-1) = some x := by
  unfold L2.atI L2.ixN
  have h1 : ¬ (0 ≤ (-1 : Int)) := by omega
  rw [if_neg h1]
  have h2 : -((xs ++ [x]).length : Int) ≤ -1 := by simp; omega
  rw [if_pos h2]
  have h3 : (-1 + ((xs ++ [x]).length : Int)).toNat = xs.length := by simp; omega
  rw [h3]; simp
theorem Plc.weak {n m m' : Int} {P : Plm} (h : Plc n m P) (hm : m ≤ m') : Plc n m' P := ⟨h.nm, Int.le_trans h.len hm, h.rm⟩
end DL
/-! S16: random targets. -/
namespace DL
open PySem PySem.Spec PyProof.Rows L2 RZ
theorem Plc.nil {n m : Int} (hm : 0 ≤ m) : Plc n m [] := ⟨⟨by simp, by simp, by simp⟩, by simpa using hm, by simp⟩
end DL
/-! S17: regions of a room; people outside; people passing. -/
namespace DL
open PySem PySem.Spec PyProof.Rows L2 RZ
/-- a target of these people -/
structure Tg2 (n : Int) (P T : Plm) : Prop where
  nm : T.map (·.1) = P.map (·.1)
  rm : ∀ q ∈ T, 0 ≤ q.2 ∧ q.2 < n
def hom (T : Plm) (s : Str) : Int := (lkS T s).getD 0
theorem Tg2.at {n : Int} {P T : Plm} (h : Tg2 n P T) {q : Str × Int} (hq : q ∈ P) : lkS T q.1 = some (hom T q.1) ∧ 0 ≤ hom T q.1 ∧ hom T q.1 < n := by
  have hm : q.1 ∈ T.map (·.1) := by rw [h.nm]; exact List.mem_map.mpr ⟨q, hq, rfl⟩
  obtain ⟨r, e, hr⟩ := lkS_mem hm
  unfold hom
  rw [e]
  exact ⟨rfl, h.rm _ hr⟩
/-! ### people passing -/
/-- the path from a to b has r inside -/
def pss (D : List (Int × Int)) (a b r : Int) : Bool := !decide (r = a) && (!decide (r = b) && match lk (pathsM D a) b with | some p => decide (r ∈ p) | none => false)
end DL
/-! S18: repr of lists of houses and placements; comparisons. -/
namespace DL
open PySem PySem.Spec PyProof.Rows L2 RZ
/-- data whose repr is known, with its weight -/
structure Rw (d : Val) (w : Nat) : Prop where
  py : isPy d = true
  dp : dep d ≤ 30
  sh : (toPy d).showable = true
  it : (toPy d).intsShort 13 = true
  wt : (toPy d).weight ≤ w
end DL
/-! S19: free rooms; full houses; near targets. -/
namespace DL
open PySem PySem.Spec PyProof.Rows L2 RZ
/-- where the people of R are and want to be -/
def trips (P T : Plm) (R : List Int) : List (Int × Int) := (P.filter fun q => decide (q.2 ∈ R)).map fun q => (q.2, hom T q.1)
/-- the rooms of R that nobody of R wants or passes -/
def frees (D : List (Int × Int)) (P T : Plm) (R : List Int) : List Int := (R.filter fun r => !decide (r ∈ (trips P T R).map (·.2))).filter fun r => !(trips P T R).any fun p => pss D p.1 p.2 r
/-! ### full houses -/
end DL
/-! S20: near targets; what holds of free rooms. -/
namespace DL
open PySem PySem.Spec PyProof.Rows L2 RZ
end DL
/-! S21: regions of rooms, with what is raised; regions hold. -/
namespace DL
open PySem PySem.Spec PyProof.Rows L2 RZ
theorem o_ne_lnil {S : Store} {ds : List Val} (h1 : isPys ds = true) (h2 : deps ds ≤ 60) : gNe S (.lst ds) (.lst []) = some (.v (.bl (decide (ds ≠ [])))) := by
  have s1 : shp (.lst ds) = true := by
    unfold shp
    rw [Bool.and_eq_true, decide_eq_true_eq]
    exact ⟨by simpa [isPy] using h1, by simp only [dep]; omega⟩
  unfold gNe
  refine (if_pos (show shp (drf S (Val.lst ds)) = true ∧ shp (drf S (Val.lst [])) = true from ⟨s1, rfl⟩)).trans ?_
  cases ds <;> rfl
theorem Rp.fmt {d : Val} (h : Rp d) {S : Store} (hd : drf S d = d) : FmtD S d := by
  have hl : PyData.layable0 (toPy d) = true := by
    have h1 := h.shp
    unfold DL.shp at h1
    rw [Bool.and_eq_true, decide_eq_true_eq] at h1
    unfold PyData.layable0
    rw [lay_toPy d h1.1, dep_toPy d h1.1]
    simp [h1.2, h.wt]
  have := _root_.PyProof.Rows.shown_le13 hl h.it
  refine ⟨by rw [hd]; exact shp_R h.shp, by rw [hd]; exact h.sh, by rw [hd]; omega, fun z hz => ?_⟩
  rw [hd] at hz
  have w := h.wt
  rw [hz] at w
  have e : PyData.weight (.str z) = z.cps.size := by simp only [PyData.weight]
  have : z.length = z.cps.size := rfl
  omega
end DL
/-! S22: possible moves: which ones are accepted. -/
namespace DL
open PySem PySem.Spec PyProof.Rows L2 RZ
/-- a move is accepted -/
def acc (D : List (Int × Int)) (P : Plm) (r t : Int) : Bool := decide (t ∈ nb D r) && decide (t ∈ P.map (·.2))
end DL
/-! S23: paths, step by step; the next room; values of any kind. -/
namespace DL
open PySem PySem.Spec PyProof.Rows L2 RZ
theorem Tg2.mem {n : Int} {P T : Plm} (h : Tg2 n P T) {s : Str} {r : Int} (hq : (s, r) ∈ P) : (s, hom T s) ∈ T := by
  have hm : s ∈ T.map (·.1) := by rw [h.nm]; exact List.mem_map.mpr ⟨_, hq, rfl⟩
  obtain ⟨r', e, hr⟩ := lkS_mem hm
  unfold hom
  rw [e]
  exact hr
end DL
/-! S24: the outcome of next_toward_target, and what is expected. -/
namespace DL
open PySem PySem.Spec PyProof.Rows L2 RZ
/-! ### values of any kind -/
theorem Rp.ok {d : Val} (h : Rp d) (hd : ∀ S, drf S d = d) : reprOk d = true := by
  have f := (h.fmt (hd [])).ln
  rw [hd []] at f
  unfold reprOk
  rw [Bool.and_eq_true, Bool.and_eq_true, decide_eq_true_eq]
  exact ⟨⟨shp_R h.shp, h.sh⟩, szl (by omega)⟩
theorem Rw.mono {d : Val} {w w' : Nat} (h : Rw d w) (hw : w ≤ w') : Rw d w' := ⟨h.py, h.dp, h.sh, h.it, Nat.le_trans h.wt hw⟩
end DL
/-! S25: random values; what moves raise. -/
namespace DL
open PySem PySem.Spec PyProof.Rows L2 RZ
/-- the values of all kinds -/
def rndL : List Val := [.non, .bl true, .bl false, .int 0, .int 1, .int (-1), .int 9, .int 100000000000000000000000000000000000000000000000000000000000, .str "", .str "a", .str "A", .str "a1", .str "abcdefghi", .tup [], .lst [], .dct [], .tup [.int 0], .tup [.int 1, .int 0], .lst [.int 0, .int 1],
  .tup [.int 0, .int 0], .tup [.int 0, .int 1, .int 2], .tup [.tup [.int 0, .int 1]], .tup [.str "a", .int 0], .str "a b", .tup [.tup [.str "a", .int 0]]]
theorem at_mem {l : List Val} {r : Int} (h0 : 0 ≤ r) (h1 : r < l.length) : ∃ v, L2.atI l r = some v ∧ v ∈ l := by
  obtain ⟨k, rfl⟩ : ∃ k : Nat, r = k := ⟨r.toNat, (Int.toNat_of_nonneg h0).symm⟩
  have hk : k < l.length := by omega
  exact ⟨l[k], atN (List.getElem?_eq_getElem hk), List.getElem_mem hk⟩
def F__law_random_value : FSpec := fun ds S Q _ => ∃ m R, ds = [.ref 2] ∧ St (m + 1) R S ∧ ∀ v S', v ∈ rndL → St m R S' → Q (.v v) S'
def ws__law_random_value : WpS :=
  (wsSeq (wsSet true 1 (wLst (wCons (wC .non) (wCons (wC (.bl true)) (wCons (wC (.bl false)) (wCons (wC (.int 0)) (wCons (wC (.int 1)) (wCons (w1 (by1 gNeg) (wC (.int 1))) (wCons (wC (.int 9)) (wCons (w2 (by2 gPow) (wC (.int 10)) (wC (.int 59))) (wCons (wC (.str ("" : Str))) (wCons (wC (.str ("a" : Str))) (wCons (wC (.str ("A" : Str))) (wCons (wC (.str ("a1" : Str))) (wCons (wC (.str ("abcdefghi" : Str))) (wCons (wTup wNil) (wCons (wLst wNil) (wCons wDNew (wCons (wTup (wCons (wC (.int 0)) wNil)) (wCons (wTup (wCons (wC (.int 1)) (wCons (wC (.int 0)) wNil))) (wCons (wLst (wCons (wC (.int 0)) (wCons (wC (.int 1)) wNil))) wNil)))))))))))))))))))))
  (wsSeq (wsSet true 1 (w2 (by2 gAdd) (wVar 1) (wLst (wCons (wTup (wCons (wC (.int 0)) (wCons (wC (.int 0)) wNil))) (wCons (wTup (wCons (wC (.int 0)) (wCons (wC (.int 1)) (wCons (wC (.int 2)) wNil)))) (wCons (wTup (wCons (wTup (wCons (wC (.int 0)) (wCons (wC (.int 1)) wNil))) wNil)) (wCons (wTup (wCons (wC (.str ("a" : Str))) (wCons (wC (.int 0)) wNil))) (wCons (wC (.str ("a b" : Str))) (wCons (wTup (wCons (wTup (wCons (wC (.str ("a" : Str))) (wCons (wC (.int 0)) wNil))) wNil)) wNil)))))))))
  (wsRet (w2 (by2 gIx) (wVar 1) (wCall (fun ds S Q Xq => ds.length = 2 ∧ F__law_draw ds S Q Xq) (wCons (wVar 0) (wCons (wC (.int 25)) wNil)))))))
theorem p__law_random_value : ∀ ds S Qd Xd, ds.length = 1 → F__law_random_value ds S Qd Xd → ws__law_random_value { nx := fun _ S' => Qd (.v .non) S', rt := Qd } (startD ["_law_stream_here", "_law_some"] ds) S (fun x _ S' => Xd x S') := by
  rintro ds S Qd Xd - ⟨m, R, rfl, hS, h⟩
  have hs := sizeLine_eq
  have zz : ∀ k, k ≤ 100 → k ≤ sizeLine := fun k hk => by omega
  have ep : ∀ S, gPow S (.int 10) (.int 59) = some (.v (.int (10 ^ 59))) := fun S => o_pow (by decide +kernel)
  simp [ws__law_random_value, startD, ep]
  refine ⟨zz _ (by omega), zz _ (by omega), zz _ (by omega), zz _ (by omega), zz _ (by omega), zz _ (by omega), zz _ (by omega), zz _ (by omega), zz _ (by omega), zz _ (by omega), ?_⟩
  rw [show gAdd S (.lst _) (.lst _) = some (.l rndL) from o_add_l (zz _ (by decide))]
  simp only []
  refine ⟨m, R, _, rfl, hS, by decide, by decide, fun r S1 a0 a1 hS1 => ?_⟩
  obtain ⟨v, ev, hv⟩ := at_mem (l := rndL) a0 (by show r < 25; omega)
  have e2 : gIx S1 (.lst rndL) (.int r) = (L2.atI rndL r).map .v := by simp
  simp only [fz, e2, ev]
  exact h v S1 hv hS1
/-! ### moves that fail -/
def F__law_is_integer : FSpec := F_is_integer
def ws__law_is_integer : WpS :=
  (wsRet (wAnd (wN (byN gIsi) (wCons (wVar 0) (wCons (wC (.opq (.ty "int"))) wNil))) (wAnd (w1 (by1 gNot) (wN (byN gIsi) (wCons (wVar 0) (wCons (wC (.opq (.ty "bool"))) wNil)))) (wChain (by2 gLe) (by2 gLe) (wVar 1) (wVar 0) (wVar 2)))))
theorem p__law_is_integer : ∀ ds S Qd Xd, ds.length = 3 → F__law_is_integer ds S Qd Xd → ws__law_is_integer { nx := fun _ S' => Qd (.v .non) S', rt := Qd } (startD ["_law_value", "_law_low", "_law_high"] ds) S (fun x _ S' => Xd x S') := p_is_integer
end DL
/-! S26: what moves are expected to raise. -/
namespace DL
open PySem PySem.Spec PyProof.Rows L2 RZ
/-! ### values that may be handed in -/
end DL
/-! S27: direct moves. -/
namespace DL
open PySem PySem.Spec PyProof.Rows L2 RZ
/-- who is reached has a path -/
theorem lk_conn {D : List (Int × Int)} {R : List Int} {a t : Int} (h : t ∈ conn D R a) : ∃ p, lk (pathsM D a) t = some p := by
  have e : (D.filter fun p => decide (p.1 ∈ ends D) && decide (p.2 ∈ ends D)) = D := List.filter_eq_self.mpr fun p hp => by
    have h1 : p.1 ∈ ends D := List.mem_append.mpr (.inl (List.mem_map.mpr ⟨p, hp, rfl⟩))
    have h2 : p.2 ∈ ends D := List.mem_append.mpr (.inr (List.mem_map.mpr ⟨p, hp, rfl⟩))
    simp [h1, h2]
  have k := (paths_kys (D := D) (R := ends D) (a := a)).2 t
  rw [e] at k
  have r : Re D (ends D) a t := by
    have g := mem_conn.mp h
    clear h k
    induction g with
    | refl => exact .refl
    | step _ _ _ c ih => exact .step ih (nb_ends (nb_symm.mp c)) (nb_ends c) c
  exact Option.isSome_iff_exists.mp (lk_kys.mpr (k.mpr r))
/-! ### values that may be handed in -/
theorem deps_mk {n : Nat} : ∀ {ds : List Val}, (∀ d ∈ ds, dep d ≤ n) → deps ds ≤ n
  | [], _ => by simp [deps]
  | d :: ds, h => by
    simp only [deps]
    have := h d (by simp)
    have := deps_mk (n := n) (ds := ds) fun e he => h e (by simp [he])
    omega
end DL
/-! S28: people counted; who is not known. -/
namespace DL
open PySem PySem.Spec PyProof.Rows L2 RZ
/-! ### rows of names, one for each room -/
/-! ### values that may be no names -/
end DL
/-! S29: surjections counted. -/
namespace DL
open PySem PySem.Spec PyProof.Rows L2 RZ
/-! ### the program's way: rows of ways -/
def csRow (r : Nat) : Nat → List Int → List Int
  | 0, w => w
  | k + 1, w => csRow r k (w.set (k + 1) (w.getD (k + 1) 0 * ((k + 1 : Nat) : Int) + w.getD k 0 * ((r : Int) - ((k + 1 : Nat) : Int) + 1)))
def csT (r : Nat) : Nat → List Int
  | 0 => 1 :: List.replicate r 0
  | t + 1 => (csRow r r (csT r t)).set 0 0
def cs (p r : Nat) : Int := (csT r p).getD r 0
theorem getD_set {w : List Int} {i j : Nat} {v : Int} (h : j < w.length) : (w.set j v).getD i 0 = if i = j then v else w.getD i 0 := by
  rw [List.getD_eq_getElem?_getD, List.getD_eq_getElem?_getD, List.getElem?_set]
  by_cases e : j = i
  · subst e; simp [h]
  · have e2 : ¬ i = j := fun z => e z.symm
    simp [e, e2]
structure RowB (r B k : Nat) (w : List Int) : Prop where
  len : w.length = r + 1
  lo : ∀ i, i ≤ k → (w.getD i 0).natAbs ≤ B
  hi : ∀ i, (w.getD i 0).natAbs ≤ B * (r + 1)
theorem RowB.step {r B k : Nat} {w : List Int} (h : RowB r B (k + 1) w) (hk : k + 1 ≤ r) : RowB r B k (w.set (k + 1) (w.getD (k + 1) 0 * ((k + 1 : Nat) : Int) + w.getD k 0 * ((r : Int) - ((k + 1 : Nat) : Int) + 1))) := by
  have hl : k + 1 < w.length := by rw [h.len]; omega
  have a1 := h.lo (k + 1) (Nat.le_refl _)
  have a2 := h.lo k (by omega)
  have e : ((r : Int) - ((k + 1 : Nat) : Int) + 1) = ((r - k : Nat) : Int) := by omega
  refine ⟨by simp [h.len], fun i hi => ?_, fun i => ?_⟩
  · rw [getD_set hl, if_neg (by omega)]
    exact h.lo i (by omega)
  · rw [getD_set hl]
    split
    · rw [e]
      have b1 : (w.getD (k + 1) 0 * ((k + 1 : Nat) : Int)).natAbs ≤ B * (k + 1) := by rw [Int.natAbs_mul, Int.natAbs_natCast]; exact Nat.mul_le_mul_right _ a1
      have b2 : (w.getD k 0 * ((r - k : Nat) : Int)).natAbs ≤ B * (r - k) := by rw [Int.natAbs_mul, Int.natAbs_natCast]; exact Nat.mul_le_mul_right _ a2
      have b3 := Int.natAbs_add_le (w.getD (k + 1) 0 * ((k + 1 : Nat) : Int)) (w.getD k 0 * ((r - k : Nat) : Int))
      have b4 : B * (k + 1) + B * (r - k) = B * (r + 1) := by rw [← Nat.mul_add]; congr 1; omega
      omega
    · exact h.hi i
theorem RowB.run {r B : Nat} : ∀ (k : Nat) {w : List Int}, RowB r B k w → k ≤ r → RowB r B 0 (csRow r k w)
  | 0, w, h, _ => h
  | k + 1, w, h, hk => by
    unfold csRow
    exact RowB.run k (h.step hk) (by omega)
/-! ### the walk -/
/-! ### the law's way: inclusion, exclusion -/
end DL
/-! S30: sizes of classes. -/
namespace DL
open PySem PySem.Spec PyProof.Rows L2 RZ
/-! ### the law's products -/
end DL
/-! S31: placements that reach each other. -/
namespace DL
open PySem PySem.Spec PyProof.Rows L2 RZ
theorem Tg2.len {n : Int} {P T : Plm} (h : Tg2 n P T) : T.length = P.length := by have := congrArg List.length h.nm; simpa using this
end DL
/-! S32: the law's mutual; other placements. -/
namespace DL
open PySem PySem.Spec PyProof.Rows L2 RZ
/-! ### both ways -/
theorem hom_self {n most : Int} {P : Plm} (hP : Plc n most P) {q : Str × Int} (hq : q ∈ P) : hom P q.1 = q.2 := by unfold hom; rw [lkS_of hP.nm.nd hq]; rfl
/-! ### other placements -/
end DL
/-! S33: solvable pieces: the program. -/
namespace DL
open PySem PySem.Spec PyProof.Rows L2 RZ
def nxtO (D : List (Int × Int)) (a b : Int) : Option Int := match lk (pathsM D a) b with
  | some (_ :: y :: _) => some y
  | _ => none
/-- where the first person of the room goes next -/
def nxr (D : List (Int × Int)) (P T : Plm) (r : Int) : Option Int := match ppl P r with
  | s :: _ => nxtO D r (hom T s)
  | [] => none
theorem ppl_mem {P : Plm} {r : Int} {s : Str} (h : s ∈ ppl P r) : (s, r) ∈ P := by
  obtain ⟨q, hq, rfl⟩ := List.mem_map.mp h
  obtain ⟨h1, h2⟩ := List.mem_filter.mp hq
  have : q.2 = r := by simpa using h2
  subst this
  exact h1
/-! ### the search -/
theorem frees_sub {D : List (Int × Int)} {P T : Plm} {R : List Int} {r : Int} (h : r ∈ frees D P T R) : r ∈ R := (List.mem_filter.mp (List.mem_filter.mp h).1).1
end DL
/-! S34: solvable pieces: the law; stuck regions. -/
namespace DL
open PySem PySem.Spec PyProof.Rows L2 RZ
end DL
/-! S35: stuck regions, helpers. -/
namespace DL
open PySem PySem.Spec PyProof.Rows L2 RZ
/-! ### the law's stuck regions -/
/-! ### helpers -/
end DL
/-! S36: values that are bent. -/
namespace DL
open PySem PySem.Spec PyProof.Rows L2 RZ
/-- bent: how far a value may grow -/
structure Alt (B : Nat) (v v' : Val) : Prop where
  g : gdv (B + 9) v' = true
  d : dep v' ≤ dep v + 3
  w : gw v' ≤ 2 * gw v + 1000
theorem rnd_gd : ∀ v ∈ rndL, gdv (10 ^ 59) v = true ∧ dep v ≤ 2 ∧ gw v ≤ 1000 := by decide +kernel
def FR__law_altered : Nat → FSpec
  | 0 => fun _ _ _ _ => False
  | i + 1 => fun ds S Q _ => ∃ m R v B, ds = [.ref 2, v] ∧ gdv B v = true ∧ 10 ^ 59 ≤ B ∧ dep v ≤ i ∧ gw v ≤ 100000 ∧ St (m + 5 * (i + 1)) R S ∧ ∀ v' S', Alt B v v' → St m R S' → Q (.v v') S'
def F__law_altered : FSpec := FR__law_altered 9
def ws__law_altered (FR : FSpec) : WpS :=
  (wsSeq (wsIf (wOrT (wNotT (wTru (byT truV) (wN (byN gIsi) (wCons (wVar 1) (wCons (wC (.opq (.ty "tuple"))) wNil))))) (wOrT (wTst (w2 (by2 gEqE) (wVar 1) (wTup wNil))) (wTst (w2 (by2 gEq) (wCall (fun ds S Q Xq => ds.length = 2 ∧ F__law_draw ds S Q Xq) (wCons (wVar 0) (wCons (wC (.int 6)) wNil))) (wC (.int 0))))))
  (wsRet (wCall (fun ds S Q Xq => ds.length = 1 ∧ F__law_random_value ds S Q Xq) (wCons (wVar 0) wNil)))
  wsNext)
  (wsSeq (wsSet true 2 (wCall (fun ds S Q Xq => ds.length = 2 ∧ F__law_draw ds S Q Xq) (wCons (wVar 0) (wCons (wN (byN gLen) (wCons (wVar 1) wNil)) wNil))))
  (wsSeq (wsSet true 3 (wCall (fun ds S Q Xq => ds.length = 2 ∧ F__law_draw ds S Q Xq) (wCons (wVar 0) (wCons (wC (.int 8)) wNil))))
  (wsSeq (wsIf (wTst (w2 (by2 gLt) (wVar 3) (wC (.int 4))))
  (wsSeq (wsSet true 4 (wLst (wCons (w2 (by2 gAdd) (wSl (wVar 1) wNo (wSo (wVar 2))) (wSl (wVar 1) (wSo (w2 (by2 gAdd) (wVar 2) (wC (.int 1)))) wNo)) (wCons (w2 (by2 gAdd) (wSl (wVar 1) wNo (wSo (w2 (by2 gAdd) (wVar 2) (wC (.int 1))))) (wSl (wVar 1) (wSo (wVar 2)) wNo)) (wCons (wRev (wVar 1)) (wCons (wN (byN gList) (wCons (wVar 1) wNil)) wNil))))))
  (wsRet (w2 (by2 gIx) (wVar 4) (wVar 3))))
  wsNext)
  (wsSeq (wsIf (wAndT (wTst (w2 (by2 gEq) (wVar 3) (wC (.int 4)))) (wTru (byT truV) (wN (byN gIsi) (wCons (w2 (by2 gIx) (wVar 1) (wVar 2)) (wCons (wC (.opq (.ty "int"))) wNil)))))
  (wsSeq (wsSet true 5 (w2 (by2 gAddB) (w2 (by2 gIx) (wVar 1) (wVar 2)) (w2 (by2 gIx) (wLst (wCons (wC (.int 1)) (wCons (w1 (by1 gNeg) (wC (.int 1))) (wCons (wC (.int 2)) (wCons (w1 (by1 gNeg) (wC (.int 9))) (wCons (wC (.int 8)) wNil)))))) (wCall (fun ds S Q Xq => ds.length = 2 ∧ F__law_draw ds S Q Xq) (wCons (wVar 0) (wCons (wC (.int 5)) wNil))))))
  (wsRet (w2 (by2 gAdd) (w2 (by2 gAdd) (wSl (wVar 1) wNo (wSo (wVar 2))) (wTup (wCons (wVar 5) wNil))) (wSl (wVar 1) (wSo (w2 (by2 gAdd) (wVar 2) (wC (.int 1)))) wNo))))
  wsNext)
  (wsRet (w2 (by2 gAdd) (w2 (by2 gAdd) (wSl (wVar 1) wNo (wSo (wVar 2))) (wTup (wCons (wCall (fun ds S Q Xq => ds.length = 2 ∧ FR ds S Q Xq) (wCons (wVar 0) (wCons (w2 (by2 gIx) (wVar 1) (wVar 2)) wNil))) wNil))) (wSl (wVar 1) (wSo (w2 (by2 gAdd) (wVar 2) (wC (.int 1)))) wNo))))))))
theorem cut_to0 {ds : List Val} {A C : List Val} {x : Val} (h : ds = A ++ x :: C) : cutD ds none (some ((A.length : Nat) : Int)) = A := by
  rw [cut_l, h]; exact List.take_left' rfl
theorem cut_to1 {ds : List Val} {A C : List Val} {x : Val} (h : ds = A ++ x :: C) : cutD ds none (some (((A.length : Nat) : Int) + 1)) = A ++ [x] := by
  rw [show ((A.length : Nat) : Int) + 1 = ((A.length + 1 : Nat) : Int) by omega, cut_l, h, show A ++ x :: C = (A ++ [x]) ++ C by simp]
  exact List.take_left' (by simp)
theorem cut_fr0 {ds : List Val} {A C : List Val} {x : Val} (h : ds = A ++ x :: C) : cutD ds (some ((A.length : Nat) : Int)) none = x :: C := by
  rw [cut_r, h]; exact List.drop_left' rfl
theorem cut_fr1 {ds : List Val} {A C : List Val} {x : Val} (h : ds = A ++ x :: C) : cutD ds (some (((A.length : Nat) : Int) + 1)) none = C := by
  rw [show ((A.length : Nat) : Int) + 1 = ((A.length + 1 : Nat) : Int) by omega, cut_r, h, show A ++ x :: C = (A ++ [x]) ++ C by simp]
  exact List.drop_left' (by simp)
theorem split_i {ds : List Val} {r : Int} (h0 : 0 ≤ r) (h1 : r < ds.length) : ∃ A x C, ds = A ++ x :: C ∧ r = ((A.length : Nat) : Int) := by
  obtain ⟨k, rfl⟩ : ∃ k : Nat, r = k := ⟨r.toNat, (Int.toNat_of_nonneg h0).symm⟩
  have hk : k < ds.length := by omega
  refine ⟨ds.take k, ds[k], ds.drop (k + 1), by simp, ?_⟩
  rw [List.length_take]
  omega
theorem at3 {α : Type} {x y z w : α} {xs : List α} : L2.atI (x :: y :: z :: w :: xs) 3 = some w := atN (n := 3) rfl
theorem atI_mid {A C : List Val} {x : Val} : L2.atI (A ++ x :: C) ((A.length : Nat) : Int) = some x := atN (by simp)
theorem p__law_altered (i : Nat) : ∀ ds S Qd Xd, ds.length = 2 → FR__law_altered (i + 1) ds S Qd Xd → ws__law_altered (FR__law_altered i) { nx := fun _ S' => Qd (.v .non) S', rt := Qd } (startD ["_law_stream_here", "_law_value", "_law_spot", "_law_course", "_law_some", "_law_more"] ds) S (fun x _ S' => Xd x S') := by
  rintro ds S Qd Xd - ⟨m, R, v, B, rfl, hg, hB, hd, hw, hS, h⟩
  have hs := sizeLine_eq
  have rnd : ∀ v' S', v' ∈ rndL → St m R S' → Qd (.v v') S' := fun v' S' hm hS' => by
    obtain ⟨a, b, c⟩ := rnd_gd v' hm
    exact h v' S' ⟨gdv_mono (by omega) _ a, by omega, by omega⟩ hS'
  by_cases ht : ∃ ds, v = .tup ds
  · obtain ⟨ds, rfl⟩ := ht
    have gt := gdv_t.mp hg
    simp [ws__law_altered, startD, gIsi_tt]
    by_cases hds : ds = []
    · rw [if_pos hds]
      exact ⟨m, R, rfl, hS.weak (by omega), fun v' S' hm hS' => rnd v' S' hm hS'⟩
    · rw [if_neg hds]
      refine ⟨m + 5 * (i + 1) - 1, R, 6, rfl, hS.weak (by omega), by decide, by decide, fun r S1 r0 r6 hS1 => ?_⟩
      by_cases rz : r = 0
      · subst rz
        simp
        exact ⟨m, R, rfl, hS1.weak (by omega), fun v' S' hm hS' => rnd v' S' hm hS'⟩
      · simp [rz]
        have hl := gws_len ds
        have hp : 0 < ds.length := List.length_pos_iff.mpr hds
        have hww : gws ds + 1 ≤ 100000 := by simpa [gw] using hw
        refine ⟨m + 5 * (i + 1) - 2, R, _, rfl, hS1.weak (by omega), by omega, by omega, fun r S2 q0 q1 hS2 => ?_⟩
        obtain ⟨A, x, C, ed, rfl⟩ := split_i q0 q1
        simp
        refine ⟨m + 5 * (i + 1) - 3, R, _, rfl, hS2.weak (by omega), by decide, by decide, fun k S3 k0 k8 hS3 => ?_⟩
        have c1 := cut_to0 ed
        have c2 := cut_to1 ed
        have c3 := cut_fr0 ed
        have c4 := cut_fr1 ed
        have c5 : L2.atI ds ((A.length : Nat) : Int) = some x := by rw [ed]; exact atI_mid
        have lA : A.length + 1 + C.length = ds.length := by rw [ed]; simp; omega
        have wA : gws A + (gw x + gws C) = gws ds := by rw [ed, gws_app]; simp [gws]
        have gx : gdv B x = true := gt x (by rw [ed]; simp)
        have gA : ∀ d ∈ A, gdv B d = true := fun d hd => gt d (by rw [ed]; simp [hd])
        have gC : ∀ d ∈ C, gdv B d = true := fun d hd => gt d (by rw [ed]; simp [hd])
        have dx : deps ds ≤ i - 1 ∧ 1 ≤ i := by simp only [dep] at hd; omega
        have ddA : ∀ d ∈ A, dep d ≤ deps ds := fun d hd => deps_iff.mp (Nat.le_refl _) d (by rw [ed]; simp [hd])
        have ddC : ∀ d ∈ C, dep d ≤ deps ds := fun d hd => deps_iff.mp (Nat.le_refl _) d (by rw [ed]; simp [hd])
        have ddx : dep x ≤ deps ds := deps_iff.mp (Nat.le_refl _) x (by rw [ed]; simp)
        have mid : ∀ y : Val, gdv (B + 9) y = true → dep y ≤ dep x + 3 → gw y ≤ 2 * gw x + 1000 → Alt B (.tup ds) (.tup (A ++ y :: C)) := fun y y1 y2 y3 => by
          refine ⟨gdv_t.mpr fun d hd => ?_, ?_, ?_⟩
          · rcases List.mem_append.mp hd with hd | hd
            · exact gdv_mono (by omega) _ (gA d hd)
            · rcases List.mem_cons.mp hd with rfl | hd
              · exact y1
              · exact gdv_mono (by omega) _ (gC d hd)
          · simp only [dep]
            have : deps (A ++ y :: C) ≤ deps ds + 3 := deps_iff.mpr fun d hd => by
              rcases List.mem_append.mp hd with hd | hd
              · have := ddA d hd; omega
              · rcases List.mem_cons.mp hd with rfl | hd
                · omega
                · have := ddC d hd; omega
            omega
          · simp only [gw, gws_app, gws]
            omega
        have l1 : A.length + C.length ≤ sizeLine := by omega
        have l2 : A.length + 1 + (C.length + 1) ≤ sizeLine := by omega
        have l3 : A.length + 1 ≤ sizeLine := by omega
        have l4 : A.length + 1 + C.length ≤ sizeLine := by omega
        have l5 : ds.length ≤ sizeLine := by omega
        have l6 : 1 ≤ sizeLine := by omega
        have l7 : 4 ≤ sizeLine := by omega
        have l8 : 5 ≤ sizeLine := by omega
        by_cases k4 : k < 4
        · simp [k4, c1, c2, c3, c4, l1, l2, l5, l7]
          have hk : k = 0 ∨ k = 1 ∨ k = 2 ∨ k = 3 := by omega
          rcases hk with rfl | rfl | rfl | rfl
          · simp [at0]
            refine h _ _ ⟨gdv_t.mpr fun d hd => ?_, ?_, ?_⟩ (hS3.weak (by omega))
            · rcases List.mem_append.mp hd with hd | hd
              · exact gdv_mono (by omega) _ (gA d hd)
              · exact gdv_mono (by omega) _ (gC d hd)
            · simp only [dep]
              have : deps (A ++ C) ≤ deps ds := deps_iff.mpr fun d hd => by
                rcases List.mem_append.mp hd with hd | hd
                · exact ddA d hd
                · exact ddC d hd
              omega
            · simp only [gw, gws_app]; omega
          · simp [at1]
            refine h _ _ ⟨gdv_t.mpr fun d hd => ?_, ?_, ?_⟩ (hS3.weak (by omega))
            · simp only [List.append_assoc, List.mem_append, List.mem_cons, List.not_mem_nil, or_false] at hd
              rcases hd with hd | rfl | rfl | hd
              · exact gdv_mono (by omega) _ (gA d hd)
              · exact gdv_mono (by omega) _ gx
              · exact gdv_mono (by omega) _ gx
              · exact gdv_mono (by omega) _ (gC d hd)
            · simp only [dep]
              have : deps (A ++ ([x] ++ x :: C)) ≤ deps ds := deps_iff.mpr fun d hd => by
                simp only [List.append_assoc, List.mem_append, List.mem_cons, List.not_mem_nil, or_false] at hd
                rcases hd with hd | rfl | rfl | hd
                · exact ddA d hd
                · exact ddx
                · exact ddx
                · exact ddC d hd
              simp at this ⊢
              omega
            · simp only [gw, gws_app, gws]; omega
          · simp [at2]
            refine h _ _ ⟨gdv_t.mpr fun d hd => gdv_mono (by omega) _ (gt d (List.mem_reverse.mp hd)), ?_, ?_⟩ (hS3.weak (by omega))
            · simp only [dep]
              have : deps ds.reverse ≤ deps ds := deps_iff.mpr fun d hd => deps_iff.mp (Nat.le_refl _) d (List.mem_reverse.mp hd)
              omega
            · simp only [gw, gws_rev]; omega
          · simp [at3]
            refine h _ _ ⟨gdv_l.mpr fun d hd => gdv_mono (by omega) _ (gt d hd), ?_, ?_⟩ (hS3.weak (by omega))
            · simp only [dep]; omega
            · simp only [gw]; omega
        · simp [k4]
          obtain ⟨j, rfl⟩ : ∃ j, i = j + 1 := ⟨i - 1, by omega⟩
          have last : FR__law_altered (j + 1) [.ref 2, x] S3 (fun c S4 => Qd (.v (.tup (A ++ fz c :: C))) S4) (fun x S' => Xd x S') := by
            refine ⟨m, R, x, B, rfl, gx, hB, by omega, by omega, hS3.weak (by omega), fun y S4 hy hS4 => ?_⟩
            exact h _ _ (mid y hy.g hy.d hy.w) hS4
          by_cases k5 : k = 4
          · subst k5
            simp [c5]
            have isx : (∃ i0 : Int, (x = .int i0 ∨ ∃ b : Bool, x = .bl b ∧ i0 = if b = true then 1 else 0) ∧ i0.natAbs ≤ B ∧ (∀ S, gIsi S [x, .opq (.ty "int")] = some (.v (.bl true))) ∧ ∀ S (c : Int), gAddB S x (.int c) = some (.v (.int (i0 + c)))) ∨ ∀ S, gIsi S [x, .opq (.ty "int")] = some (.v (.bl false)) := by
              cases x with
              | int i0 => exact .inl ⟨i0, .inl rfl, by simpa [gdv] using gx, fun _ => rfl, fun _ _ => rfl⟩
              | bl b => exact .inl ⟨if b = true then 1 else 0, .inr ⟨b, rfl, rfl⟩, by cases b <;> simp <;> omega, fun _ => rfl, fun _ _ => rfl⟩
              | _ => exact .inr fun S => gdv_isi gx fun t ht => by simp [tyName] at ht <;> subst ht <;> simp [isiB]
            rcases isx with ⟨i0, hx, hi, e1, e2⟩ | e1
            · simp [e1, c5, e2, c1, c4]
              refine ⟨l8, m, R, _, rfl, hS3.weak (by omega), by decide, by decide, fun q S4 u0 u5 hS4 => ?_⟩
              obtain ⟨c, ec, hc⟩ : ∃ c : Int, L2.atI [Val.int 1, Val.int (-1), Val.int 2, Val.int (-9), Val.int 8] q = some (.int c) ∧ c.natAbs ≤ 9 := by
                have hq : q = 0 ∨ q = 1 ∨ q = 2 ∨ q = 3 ∨ q = 4 := by omega
                rcases hq with rfl | rfl | rfl | rfl | rfl
                · exact ⟨1, rfl, by decide⟩
                · exact ⟨-1, rfl, by decide⟩
                · exact ⟨2, rfl, by decide⟩
                · exact ⟨-9, rfl, by decide⟩
                · exact ⟨8, rfl, by decide⟩
              simp [ec, e2, c1, c4, l3, l4, l6, l8]
              refine h _ _ (mid _ ?_ (by simp [dep]) ?_) hS4
              · simp only [gdv, decide_eq_true_eq]; omega
              · have := gw_pos x
                simp only [gw]; omega
            · simp [e1, c5, c1, c4]
              refine ?_
              unfold FR__law_altered at last ⊢
              obtain ⟨m', R', v', B', a1, a2, a3, a4, a5, a6, a7⟩ := last
              refine ⟨m', R', v', B', a1, a2, a3, a4, a5, a6, fun y S4 hy hS4 => ?_⟩
              have := a7 y S4 hy hS4
              simp [l3, l4, l6]
              simpa using this
          · simp [k5, c5, c1, c4]
            unfold FR__law_altered at last ⊢
            obtain ⟨m', R', v', B', a1, a2, a3, a4, a5, a6, a7⟩ := last
            refine ⟨m', R', v', B', a1, a2, a3, a4, a5, a6, fun y S4 hy hS4 => ?_⟩
            have := a7 y S4 hy hS4
            simp [l3, l4, l6]
            simpa using this
  · have e1 : gIsi S [v, .opq (.ty "tuple")] = some (.v (.bl false)) := gdv_notT hg fun ds hd => ht ⟨ds, hd⟩
    simp [ws__law_altered, startD, e1]
    exact ⟨m, R, rfl, hS.weak (by omega), fun v' S' hm hS' => rnd v' S' hm hS'⟩
theorem alt_ok {m : Nat} {R S : Store} {v : Val} {B : Nat} {Q : CQ} {X' : Xn → Store → Prop} (hg : gdv B v = true) (hB : 10 ^ 59 ≤ B) (hd : dep v ≤ 8) (hw : gw v ≤ 100000) (hS : St (m + 45) R S) (h : ∀ v' S', Alt B v v' → St m R S' → Q (.v v') S') : F__law_altered [.ref 2, v] S Q X' :=
  ⟨m, R, v, B, rfl, hg, hB, hd, hw, hS, h⟩
end DL
/-! S37: placements of any kind of value. -/
namespace DL
open PySem PySem.Spec PyProof.Rows L2 RZ
theorem NmOk.names {P : Plm} (h : NmOk P) : ∀ x ∈ P.map (·.1), PyData.strOk x = true := fun x hx => by
  obtain ⟨q, hq, rfl⟩ := List.mem_map.mp hx
  exact h q hq
end DL
/-! S38: k05: both checks; near placements. -/
namespace DL
open PySem PySem.Spec PyProof.Rows L2 RZ
theorem gdv_repr {B : Nat} {v : Val} (h : gdv B v = true) (hB : B < 10 ^ 61) (hd : dep v ≤ 64) (hw : gw v ≤ 200000) {S : Store} : gRepr S [v] = some (.v (.str (rpS v))) := by
  have hs := sizeLine_eq
  have h1 := gdv_shown h hB hw
  unfold gRepr
  dsimp only
  rw [gdv_drf h S, if_pos ⟨gdv_shpR h hd, gdv_sh hB v h, szl (by omega)⟩]
  rfl
end DL
/-! S39: legal moves; moves in a row. -/
namespace DL
open PySem PySem.Spec PyProof.Rows L2 RZ
end DL
/-! S40: k11: moves that are bent. -/
namespace DL
open PySem PySem.Spec PyProof.Rows L2 RZ
/-- a value of any kind, not large -/
structure OkW (v : Val) : Prop where
  g : gdv (10 ^ 59 + 18) v = true
  d : dep v ≤ 12
  w : gw v ≤ 90000
theorem OkW.len {vs : List Val} (h : OkW (.tup vs)) : vs.length ≤ 100000 := by
  have h1 := gws_len vs
  have h2 := h.w
  simp only [gw] at h2
  omega
end DL
/-! S58: values whose reprs are had. -/
namespace DL
open PySem PySem.Spec PyProof.Rows L2 RZ
structure RpW (v : Val) (w : Nat) : Prop where
  g : gdv (10 ^ 59 + 18) v = true
  d : dep v ≤ 12
  w : gw v ≤ w
theorem RpW.mono {v : Val} {w w' : Nat} (h : RpW v w) (hw : w ≤ w') : RpW v w' := ⟨h.g, h.d, Nat.le_trans h.w hw⟩
end DL
/-! DL48: the signs of a text, one by one. -/
namespace DL
open PySem PySem.Spec PyProof.Rows L2 RZ
section
variable {K : PySem.W.Frag} {mg : Str → Option Value} {W : WX} {H H' H0 H1 H2 : Hp} {L L' L0 L1 L2 : LP} {ρ ρ' ρ0 ρ1 ρ2 : List Addr} {σ : Sg} {δ : DEnv} {S S' : Store} {O : LP} {g : Gh}
def chD (x : Str) : List Val := x.cps.toList.map fun c => Val.str ⟨#[c]⟩
def wChars (w : Wp) : WpI := fun δ S Q X => wV w δ S (fun d S1 => ∃ x, d = .str x ∧ Q (chD x) S1) X
end
section
variable {δ : DEnv} {S : Store} {X : XQ} {w : Wp} {QL : List Val → Store → Prop}
@[simp ↓] theorem s_chars : wChars w δ S QL X = w δ S (fun c S1 => match fz c with | .str x => QL (chD x) S1 | _ => False) X := by
  unfold wChars wV
  congr 1; funext c S1
  cases fz c <;> simp
end
end DL
/-! DL49: zip of a list and a tuple. -/
namespace DL
open PySem PySem.Spec PyProof.Rows L2 RZ
/-! ### over data -/
def wZipM (wr : WpA) : WpI := fun δ S Q X => wr δ S (fun ds S1 => ∃ as bs, ds = [.lst as, .tup bs] ∧ Q (zipD as bs) S1) X
section
variable {δ : DEnv} {S : Store} {X : XQ} {wr : WpA} {QL : List Val → Store → Prop}
@[simp ↓] theorem s_zipM : wZipM wr δ S QL X = wr δ S (fun ds S1 => match ds with
    | [.lst as, .tup bs] => QL (zipD as bs) S1
    | _ => False) X := by
  unfold wZipM
  congr 1; funext ds S1
  split
  · rename_i as bs
    refine propext ⟨?_, fun h => ⟨as, bs, rfl, h⟩⟩
    rintro ⟨as', bs', e, h⟩
    cases e
    exact h
  · rename_i h
    simp only [eq_iff_iff, iff_false, not_exists, not_and]
    rintro as bs rfl
    exact absurd rfl (h as bs)
end
end DL
/-! DL50: slices of texts. -/
namespace DL
open PySem PySem.Spec PyProof.Rows L2 RZ
def gSlS (lo hi : Option Int) : G1 := fun S x => match x with
  | .str z => if z.length ≤ sizeLine then some (.v (.str (Txt.slice z lo hi))) else none
  | _ => none
section
variable {K : PySem.W.Frag} {mg : Str → Option Value} {W : WX}
def wSlS (we : Wp) (wl wh : WpO) : Wp := fun δ S Q X => wV we δ S (fun x S1 => wl δ S1 (fun lo S2 => wh δ S2 (fun hi S3 => ∃ c, gSlS lo hi S3 x = some c ∧ Q c S3) X) X) X
end
section
variable {δ : DEnv} {S : Store} {Q : CQ} {X : XQ} {we : Wp} {wl wh : WpO}
@[simp ↓] theorem s_slS : wSlS we wl wh δ S Q X = we δ S (fun c S1 => wl δ S1 (fun lo S2 => wh δ S2 (fun hi S3 => match gSlS lo hi S3 (fz c) with | some c => Q c S3 | none => False) X) X) X := by
  unfold wSlS wV
  congr 1; funext c S1; dsimp only
  congr 1; funext lo S2
  congr 1; funext hi S3
  cases gSlS lo hi S3 (fz c) <;> simp
end
end DL
/-! DL51: x.upper(). -/
namespace DL
open PySem PySem.Spec PyProof.Rows L2 RZ
section
variable {K : PySem.W.Frag} {mg : Str → Option Value} {W : WX}
def wUp (we : Wp) : Wp := fun δ S Q X => wV we δ S (fun x S1 => ∃ a, x = .str a ∧ a.length ≤ 5592405 ∧ Q (.v (.str (Txt.upper a))) S1) X
end
section
variable {δ : DEnv} {S : Store} {Q : CQ} {X : XQ} {we : Wp}
@[simp ↓] theorem s_up : wUp we δ S Q X = we δ S (fun c S1 => match fz c with | .str a => a.length ≤ 5592405 ∧ Q (.v (.str (Txt.upper a))) S1 | _ => False) X := by
  unfold wUp wV
  congr 1; funext c S1
  cases fz c <;> simp
end
end DL
/-! DL52: slices of lists in the store. -/
namespace DL
open PySem PySem.Spec PyProof.Rows L2 RZ
def gSlR (lo hi : Option Int) : G1 := fun S x => match x with
  | .ref n => match S[n]? with
    | some (.lst ds) => some (.l (cutD ds lo hi))
    | _ => none
  | _ => none
section
variable {K : PySem.W.Frag} {mg : Str → Option Value} {W : WX}
def wSlR (we : Wp) (wl wh : WpO) : Wp := fun δ S Q X => wV we δ S (fun x S1 => wl δ S1 (fun lo S2 => wh δ S2 (fun hi S3 => ∃ c, gSlR lo hi S3 x = some c ∧ Q c S3) X) X) X
end
section
variable {δ : DEnv} {S : Store} {Q : CQ} {X : XQ} {we : Wp} {wl wh : WpO}
@[simp ↓] theorem s_slR : wSlR we wl wh δ S Q X = we δ S (fun c S1 => wl δ S1 (fun lo S2 => wh δ S2 (fun hi S3 => match gSlR lo hi S3 (fz c) with | some c => Q c S3 | none => False) X) X) X := by
  unfold wSlR wV
  congr 1; funext c S1; dsimp only
  congr 1; funext lo S2
  congr 1; funext hi S3
  cases gSlR lo hi S3 (fz c) <;> simp
end
end DL
/-! DL53: tuple(zip(x, y)). -/
namespace DL
open PySem PySem.Spec PyProof.Rows
open Sem (wp)
theorem nlt {a b n : Addr} (h1 : a < n) (h2 : n ≤ b) : b ≠ a := fun e => by subst e; exact absurd h1 (Nat.not_lt.mpr h2)
section
variable {prog : Program} {w : World} {A : Around} {E : Value → Shared → Prop} {s : Shared} {z TI TO T i1 i2 : Addr} {fp1 fp2 : List Addr} {n1 n2 i : Nat} {P1 P2 : Nat → Value → Prop} {St1 St2 : Nat → Heap → Prop} {f : Bool} {oT : Obj}
/-- the pairs that were handed out -/
def Outs (P1 P2 : Nat → Value → Prop) (n0 : Nat) (Ts : List Addr) (h : Heap) : Prop := Ts.Nodup ∧ ∀ j T, Ts[j]? = some T → n0 ≤ T ∧ ∃ x y, P1 j x ∧ P2 j y ∧ IsTupOf2 h T x y
theorem Outs.keep {n0 : Nat} {Ts : List Addr} {h h' : Heap} (x : Outs P1 P2 n0 Ts h) (k : ∀ b o, n0 ≤ b → h.get? b = some o → h'.get? b = some o) : Outs P1 P2 n0 Ts h' :=
  ⟨x.1, fun j T e => let ⟨a, x', y, p, q, r⟩ := x.2 j T e; ⟨a, x', y, p, q, k _ _ a r⟩⟩
theorem Outs.snoc {n0 : Nat} {Ts : List Addr} {h h' : Heap} {x y : Value} (o : Outs P1 P2 n0 Ts h) (k : ∀ b o, n0 ≤ b → h.get? b = some o → h'.get? b = some o) (hn : n0 ≤ h.objs.size) (p : P1 Ts.length x) (q : P2 Ts.length y) (r : IsTupOf2 h' h.objs.size x y) : Outs P1 P2 n0 (Ts ++ [h.objs.size]) h' := by
  refine ⟨List.nodup_append.mpr ⟨o.1, by simp, fun a ha b hb e => ?_⟩, fun j T e => ?_⟩
  · rw [List.mem_singleton.mp hb] at e
    subst e
    obtain ⟨j, hj⟩ := List.getElem?_of_mem ha
    obtain ⟨_, x', y', _, _, r'⟩ := o.2 j _ hj
    exact Nat.lt_irrefl _ (Heap.lt_size r')
  · by_cases hj : j < Ts.length
    · rw [List.getElem?_append_left hj] at e
      exact (o.keep k).2 j T e
    · rw [List.getElem?_append_right (by omega)] at e
      have h0 : j - Ts.length = 0 := by
        cases h : j - Ts.length with
        | zero => rfl
        | succ m => rw [h] at e; simp at e
      rw [h0] at e
      simp at e
      have : j = Ts.length := by omega
      subst this
      subst e
      exact ⟨hn, x, y, p, q, r⟩
/-- where such a walk stands -/
structure ZS (z TI TO i1 i2 : Addr) (St1 St2 : Nat → Heap → Prop) (P1 P2 : Nat → Value → Prop) (n0 : Nat) (i : Nat) (Ts : List Addr) (h : Heap) : Prop where
  ti : IsTupOf2 h TI (.ref i1) (.ref i2)
  s1 : St1 i h
  s2 : St2 i h
  zp : (IsZip h z TI TO .none ∧ ∃ a b, IsTupOf2 h TO a b) ∨ ∃ T f oT, IsZipHeld h z TI TO T f ∧ h.get? T = some oT ∧ n0 ≤ T
  len : Ts.length = i
  out : Outs P1 P2 n0 Ts h
theorem ZS.keep {n0 : Nat} {Ts : List Addr} {h h' : Heap} (D1 : Draws prog w A i1 fp1 n1 P1 St1) (D2 : Draws prog w A i2 fp2 n2 P2 St2) (x : ZS z TI TO i1 i2 St1 St2 P1 P2 n0 i Ts h) {S : Addr} (hS : S < n0) (hz : S ≠ z) (hTI : S ≠ TI) (hTO : S ≠ TO) (h1 : S ∉ fp1) (h2 : S ∉ fp2)
    (k : ∀ b o, b ≠ S → h.get? b = some o → h'.get? b = some o) : ZS z TI TO i1 i2 St1 St2 P1 P2 n0 i Ts h' where
  ti := k _ _ (Ne.symm hTI) x.ti
  s1 := D1.frame _ _ _ x.s1 fun b hb o e => k b o (fun q => h1 (q ▸ hb)) e
  s2 := D2.frame _ _ _ x.s2 fun b hb o e => k b o (fun q => h2 (q ▸ hb)) e
  zp := by
    rcases x.zp with ⟨a, b, c, d⟩ | ⟨T, f, oT, a, b, c⟩
    · exact .inl ⟨k _ _ (Ne.symm hz) a, b, c, k _ _ (Ne.symm hTO) d⟩
    · exact .inr ⟨T, f, oT, k _ _ (Ne.symm hz) a, k _ _ (nlt hS c) b, c⟩
  len := x.len
  out := x.out.keep fun b o hb e => k b o (nlt hS hb) e
end
/-- an argument of zip -/
structure ZA (prog : Program) (w : World) (h : Heap) (a : Addr) (its : Array Value) (o : Obj) (G : Heap → Prop) (St : Addr → Nat → Heap → Prop) : Prop where
  B : Begins (.ref a) o G
  h0 : G h
  D : ∀ it, a ≠ it → ∀ A : Around, A.handled = none → Draws prog w A it [it, a] its.size (fun i v => its[i]? = some v) (St it)
  S : ∀ it h', (∀ b u, h.get? b = some u → h'.get? b = some u) → h'.get? it = some o → St it 0 h'
  lt : a < h.objs.size
theorem ZA.list {prog : Program} {w : World} {h : Heap} {a : Addr} {its : Array Value} (p : h.IsList a its) : ZA prog w h a its { cls := .type "list_iterator", data := .fields #[.ref a, .int 0 0] } (fun h => h.IsList a its) (fun it i h => h.IsListIter it a i ∧ h.IsList a its) where
  B := begins_list a its
  h0 := p
  D := fun it hne A hh => Draws.list hh it a hne its
  S := fun it h' k g => ⟨⟨_, g, rfl, rfl⟩, p.at fun o e => k _ o e⟩
  lt := by obtain ⟨o, e, _⟩ := p; exact Heap.lt_size e
theorem ZA.tup {prog : Program} {w : World} {h : Heap} {a : Addr} {its : Array Value} (p : h.IsTuple a its) : ZA prog w h a its { cls := .type "tuple_iterator", data := .fields #[.ref a, .int 0 0] } (fun h => h.IsTuple a its) (fun it i h => h.IsTupleIter it a i ∧ h.IsTuple a its) where
  B := begins_tuple a its
  h0 := p
  D := fun it hne A hh => Draws.tuple hh it a hne its
  S := fun it h' k g => ⟨⟨_, g, rfl, rfl⟩, by obtain ⟨o, e, r⟩ := p; exact ⟨o, k _ _ e, r⟩⟩
  lt := by obtain ⟨o, e, _⟩ := p; exact Heap.lt_size e
end DL
/-! DL54: tuple(zip(x, y)) over data. -/
namespace DL
open PySem PySem.Spec PyProof.Rows L2 RZ
/-! ### many objects laid at once -/
/-! ### over data -/
end DL
/-! DL55: x[a], x[b] = u, v for lists of the store. -/
namespace DL
open PySem PySem.Spec PyProof.Rows L2 RZ
section
variable {K : PySem.W.Frag} {mg : Str → Option Value} {W : WX} {H H' H0 H1 H2 H3 : Hp} {L L' L0 L1 LL : LP} {ρ ρ' ρ0 ρ1 ρ2 : List Addr} {σ σ' : Sg} {δ δ' : DEnv} {S S' : Store} {O : LP} {g : Gh}
def wStPut (wo wi : Wp) (d : Val) (δ : DEnv) (S : Store) (k : Store → Prop) (X : XQ) : Prop := wV wo δ S (fun x S2 => wV wi δ S2 (fun y S3 => ∃ n ds kk j, x = .ref n ∧ y = .int kk ∧ S3[n]? = some (.lst ds) ∧ L2.ixN ds.length kk = some j ∧ noL d = true ∧ k (S3.set n (.lst (ds.set j d)))) X) X
def wsStSet2 (wo1 wi1 wo2 wi2 wa wb : Wp) : WpS := fun Dd δ S X => wV wa δ S (fun d1 S1 => wV wb δ S1 (fun d2 S2 => wStPut wo1 wi1 d1 δ S2 (fun S3 => wStPut wo2 wi2 d2 δ S3 (fun S4 => Dd.nx δ S4) X) X) X) X
end
section
variable {δ : DEnv} {S : Store} {X : XQ} {wo wi wo1 wi1 wo2 wi2 wa wb : Wp} {c : WpS} {Dd : DEnds} {d : Val} {k : Store → Prop}
@[simp ↓] theorem s_stPut : wStPut wo wi d δ S k X = wo δ S (fun x S2 => wi δ S2 (fun y S3 => match fz x, fz y with
    | .ref n, .int kk => (match S3[n]? with | some (.lst ds) => (match L2.ixN ds.length kk with | some jj => noL d = true ∧ k (S3.set n (.lst (ds.set jj d))) | none => False) | none => False)
    | _, _ => False) X) X := by
  unfold wStPut wV
  congr 1; funext x S2; (try dsimp only); congr 1; funext y S3; (try dsimp only)
  cases fz x <;> cases fz y <;> simp
  rename_i n kk
  cases S3[n]? with
  | none => simp
  | some o =>
    cases o with
    | lst ds =>
      simp
      cases L2.ixN ds.length kk <;> simp
@[simp ↓] theorem s_stSet2 : wsStSet2 wo1 wi1 wo2 wi2 wa wb Dd δ S X = wa δ S (fun c1 S1 => wb δ S1 (fun c2 S2 => wStPut wo1 wi1 (fz c1) δ S2 (fun S3 => wStPut wo2 wi2 (fz c2) δ S3 (fun S4 => Dd.nx δ S4) X) X) X) X := rfl
@[simp ↓] theorem q_stSet2 : wsSeq (wsStSet2 wo1 wi1 wo2 wi2 wa wb) c Dd δ S X = wa δ S (fun c1 S1 => wb δ S1 (fun c2 S2 => wStPut wo1 wi1 (fz c1) δ S2 (fun S3 => wStPut wo2 wi2 (fz c2) δ S3 (fun S4 => c Dd δ S4 X) X) X) X) X := rfl
end
end DL
/-! DL56: equality of closed values without bools. -/
namespace DL
open PySem PySem.Spec PyProof.Rows L2 RZ
mutual
/-- closed, without bools -/
def nbv : Val → Bool
  | .non => true
  | .int _ => true
  | .str x => PyData.strOk x
  | .tup ds => nbvs ds
  | .lst ds => nbvs ds
  | _ => false
def nbvs : List Val → Bool
  | [] => true
  | d :: ds => nbv d && nbvs ds
end
mutual
theorem nb_py : ∀ {d : Val}, nbv d = true → isPy d = true
  | .non, _ => rfl
  | .int _, _ => rfl
  | .str x, h => h
  | .tup ds, h => by simp only [nbv] at h; simp only [isPy]; exact nbs_py h
  | .lst ds, h => by simp only [nbv] at h; simp only [isPy]; exact nbs_py h
  | .bl _, h => by simp [nbv] at h
  | .dct _, h => by simp [nbv] at h
  | .ref _, h => by simp [nbv] at h
  | .opq _, h => by simp [nbv] at h
  | .scr _, h => by simp [nbv] at h
  | .rtup _, h => by simp [nbv] at h
  | .exn _ _ _ _, h => by simp [nbv] at h
  | .ld _, h => by simp [nbv] at h
theorem nbs_py : ∀ {ds : List Val}, nbvs ds = true → isPys ds = true
  | [], _ => rfl
  | d :: ds, h => by
    simp only [nbvs, Bool.and_eq_true] at h
    simp only [isPys, Bool.and_eq_true]
    exact ⟨nb_py h.1, nbs_py h.2⟩
end
theorem nbvs_iff : ∀ {ds : List Val}, nbvs ds = true ↔ ∀ d ∈ ds, nbv d = true
  | [] => by simp [nbvs]
  | d :: ds => by simp [nbvs, nbvs_iff (ds := ds)]
end DL
/-! S59: is the target reached; rooms exchanged. -/
namespace DL
open PySem PySem.Spec PyProof.Rows L2 RZ
end DL
/-! G0: simple paths; trees. -/
namespace DL
section
variable {A A' : Int → Int → Prop} {a b x y z : Int} {l m : List Int}
/-- neighbours in a row -/
def ch (A : Int → Int → Prop) : List Int → Prop
  | [] => True
  | [_] => True
  | x :: y :: l => A x y ∧ ch A (y :: l)
theorem ch.tl (h : ch A (x :: l)) : ch A l := by
  cases l with
  | nil => trivial
  | cons y l => exact h.2
theorem ch_cons : ch A (x :: l) ↔ ch A l ∧ ∀ y, l.head? = some y → A x y := by
  cases l with
  | nil => simp [ch]
  | cons y l => simp [ch, and_comm]
theorem ch_app : ∀ {l m : List Int}, ch A (l ++ m) ↔ ch A l ∧ ch A m ∧ ∀ u v, l.getLast? = some u → m.head? = some v → A u v
  | [], m => by simp [ch]
  | [x], m => by
    rw [List.singleton_append, ch_cons]
    simp only [ch, true_and, List.getLast?_singleton, Option.some.injEq]
    exact and_congr_right fun _ => ⟨fun h u v e => e ▸ h v, fun h v => h x v rfl⟩
  | x :: y :: l, m => by
    have ih := ch_app (l := y :: l) (m := m)
    simp only [List.cons_append] at ih ⊢
    simp only [ch, ih, and_assoc, List.getLast?_cons_cons]
theorem ch_rev (s : ∀ u v, A u v → A v u) : ∀ {l : List Int}, ch A l → ch A l.reverse
  | [], _ => trivial
  | x :: l, h => by
    rw [List.reverse_cons, ch_app]
    refine ⟨ch_rev s h.tl, trivial, fun u v h1 h2 => ?_⟩
    rw [List.getLast?_reverse] at h1
    simp at h2
    subst h2
    exact s _ _ ((ch_cons.mp h).2 u h1)
theorem ch.mono (e : ∀ u v, A u v → A' u v) : ∀ {l : List Int}, ch A l → ch A' l
  | [], _ => trivial
  | [_], _ => trivial
  | x :: y :: l, h => ⟨e _ _ h.1, ch.mono e h.2⟩
/-- a simple path -/
structure SP (A : Int → Int → Prop) (a b : Int) (l : List Int) : Prop where
  c : ch A l
  n : l.Nodup
  hd : l.head? = some a
  lt : l.getLast? = some b
/-- joined, step by step -/
inductive Cn (A : Int → Int → Prop) (x : Int) : Int → Prop
  | refl : Cn A x x
  | step {y z : Int} : Cn A x y → A y z → Cn A x z
theorem Cn.trans (h : Cn A x y) (g : Cn A y z) : Cn A x z := by
  induction g with
  | refl => exact h
  | step _ a ih => exact .step ih a
theorem Cn.symm (s : ∀ u v, A u v → A v u) (h : Cn A x y) : Cn A y x := by
  induction h with
  | refl => exact .refl
  | step _ a ih => exact (Cn.step .refl (s _ _ a)).trans ih
theorem Cn.mono (e : ∀ u v, A u v → A' u v) (h : Cn A x y) : Cn A' x y := by
  induction h with
  | refl => exact .refl
  | step _ a ih => exact .step ih (e _ _ a)
theorem ch_Cn : ∀ {l : List Int} {a : Int}, ch A l → l.head? = some a → ∀ b ∈ l, Cn A a b
  | [], a, _, h, _, _ => by simp at h
  | [x], a, _, h, b, hb => by
    simp at h hb
    subst h; subst hb
    exact .refl
  | x :: y :: l, a, h, e, b, hb => by
    simp at e
    subst e
    rcases List.mem_cons.mp hb with rfl | hb
    · exact .refl
    · exact (Cn.step .refl h.1).trans (ch_Cn (l := y :: l) h.2 rfl b hb)
theorem SP.Cn (h : SP A a b l) : Cn A a b := ch_Cn h.c h.hd b (List.mem_of_getLast? h.lt)
theorem SP.one : SP A a a [a] := ⟨trivial, by simp, rfl, rfl⟩
theorem SP.mono (e : ∀ u v, A u v → A' u v) (h : SP A a b l) : SP A' a b l := ⟨h.c.mono e, h.n, h.hd, h.lt⟩
theorem SP.rev (s : ∀ u v, A u v → A v u) (h : SP A a b l) : SP A b a l.reverse :=
  ⟨ch_rev s h.c, (List.reverse_perm l).nodup_iff.mpr h.n, by rw [List.head?_reverse]; exact h.lt, by rw [List.getLast?_reverse]; exact h.hd⟩
/-- a part at the front -/
theorem SP.pre {l1 l2 : List Int} (h : SP A a b (l1 ++ y :: l2)) : SP A a y (l1 ++ [y]) := by
  have e : l1 ++ y :: l2 = (l1 ++ [y]) ++ l2 := by simp
  obtain ⟨c, n, hd, lt⟩ := h
  rw [e] at c n
  refine ⟨(ch_app.mp c).1, (List.nodup_append.mp n).1, ?_, by simp⟩
  cases l1 with
  | nil => simpa using hd
  | cons z l1 => simpa using hd
theorem SP.suf {l1 l2 : List Int} (h : SP A a b (l1 ++ y :: l2)) : SP A y b (y :: l2) := by
  obtain ⟨c, n, hd, lt⟩ := h
  refine ⟨(ch_app.mp c).2.1, (List.nodup_append.mp n).2.1, rfl, ?_⟩
  rw [List.getLast?_append] at lt
  cases e : (y :: l2).getLast? with
  | none => simp at e
  | some w => rw [e] at lt; exact lt
theorem SP.snoc (h : SP A a y l) (e : A y z) (n : z ∉ l) : SP A a z (l ++ [z]) := by
  refine ⟨ch_app.mpr ⟨h.c, trivial, fun u v h1 h2 => ?_⟩, ?_, ?_, by simp⟩
  · rw [h.lt] at h1; cases h1
    simp at h2; subst h2
    exact e
  · rw [List.nodup_append]
    exact ⟨h.n, by simp, fun u hu v hv ee => by simp at hv; subst hv; subst ee; exact n hu⟩
  · cases l with
    | nil => have := h.hd; simp at this
    | cons w l => simpa using h.hd
theorem Cn.sp (h : Cn A a b) : ∃ l, SP A a b l := by
  induction h with
  | refl => exact ⟨_, .one⟩
  | @step y z _ e ih =>
    obtain ⟨l, hl⟩ := ih
    by_cases hz : z ∈ l
    · obtain ⟨l1, l2, rfl⟩ := List.append_of_mem hz
      exact ⟨_, hl.pre⟩
    · exact ⟨_, hl.snoc e hz⟩
theorem SP.left (h : SP A a b l) : ∀ c ∈ l, DL.Cn A a c := ch_Cn h.c h.hd
/-- at most one simple path -/
def UP (A : Int → Int → Prop) : Prop := ∀ a b l m, SP A a b l → SP A a b m → l = m
theorem UP.mono (e : ∀ u v, A' u v → A u v) (h : UP A) : UP A' := fun a b l m h1 h2 => h a b l m (h1.mono e) (h2.mono e)
theorem UP.nil (e : ∀ u v, ¬ A u v) : UP A := fun a b l m h1 h2 => by
  have k : ∀ l, SP A a b l → l = [a] := fun l h => by
    match l, h with
    | [], h => have := h.hd; simp at this
    | [x], h => have := h.hd; simp at this; rw [this]
    | x :: y :: l, h => exact absurd h.c.1 (e _ _)
  rw [k l h1, k m h2]
theorem ch_split {x y : Int} (hA : ∀ u v, A' u v ↔ A u v ∨ (u = x ∧ v = y) ∨ (u = y ∧ v = x)) : ∀ {l : List Int}, ch A' l → l.Nodup →
    ch A l ∨ ∃ l1 l2, l = l1 ++ l2 ∧ ch A l1 ∧ ch A l2 ∧ ((l1.getLast? = some x ∧ l2.head? = some y) ∨ (l1.getLast? = some y ∧ l2.head? = some x))
  | [], _, _ => .inl trivial
  | [u], _, _ => .inl trivial
  | u :: v :: w, h, n => by
    have n2 := List.nodup_cons.mp n
    rcases ch_split hA (l := v :: w) h.2 n2.2 with ih | ⟨l1, l2, e, c1, c2, k⟩
    · rcases (hA _ _).mp h.1 with k | ⟨rfl, rfl⟩ | ⟨rfl, rfl⟩
      · exact .inl ⟨k, ih⟩
      · exact .inr ⟨[u], v :: w, rfl, trivial, ih, .inl ⟨rfl, rfl⟩⟩
      · exact .inr ⟨[u], v :: w, rfl, trivial, ih, .inr ⟨rfl, rfl⟩⟩
    · have in1 : ∀ z, l1.getLast? = some z → z ∈ v :: w := fun z hz => by rw [e]; exact List.mem_append.mpr (.inl (List.mem_of_getLast? hz))
      have in2 : ∀ z, l2.head? = some z → z ∈ v :: w := fun z hz => by rw [e]; exact List.mem_append.mpr (.inr (List.mem_of_head? hz))
      have xin : x ∈ v :: w := by rcases k with ⟨k1, k2⟩ | ⟨k1, k2⟩; exact in1 _ k1; exact in2 _ k2
      have yin : y ∈ v :: w := by rcases k with ⟨k1, k2⟩ | ⟨k1, k2⟩; exact in2 _ k2; exact in1 _ k1
      rcases (hA _ _).mp h.1 with kk | ⟨rfl, rfl⟩ | ⟨rfl, rfl⟩
      · cases l1 with
        | nil => rcases k with ⟨k1, _⟩ | ⟨k1, _⟩ <;> simp at k1
        | cons p l1 =>
          simp only [List.cons_append, List.cons.injEq] at e
          obtain ⟨rfl, e⟩ := e
          refine .inr ⟨u :: v :: l1, l2, by simp [e], ⟨kk, c1⟩, c2, ?_⟩
          simpa only [List.getLast?_cons_cons] using k
      · exact absurd xin n2.1
      · exact absurd yin n2.1
/-- a door between two parts makes no second path -/
theorem UP.join {x y : Int} (hA : ∀ u v, A' u v ↔ A u v ∨ (u = x ∧ v = y) ∨ (u = y ∧ v = x)) (s : ∀ u v, A u v → A v u) (dis : ¬ DL.Cn A x y) (up : UP A) : UP A' := by
  intro a b l m hl hm
  have parts : ∀ {l1 l2 : List Int} {p q : Int}, SP A' a b (l1 ++ l2) → ch A l1 → ch A l2 → l1.getLast? = some p → l2.head? = some q → SP A a p l1 ∧ SP A q b l2 := by
    intro l1 l2 p q h c1 c2 e1 e2
    have n := List.nodup_append.mp h.n
    refine ⟨⟨c1, n.1, ?_, e1⟩, ⟨c2, n.2.1, e2, ?_⟩⟩
    · have := h.hd
      cases l1 with
      | nil => simp at e1
      | cons w l1 => simpa using this
    · have := h.lt
      rw [List.getLast?_append] at this
      cases e : l2.getLast? with
      | none => simp at e; rw [e] at e2; simp at e2
      | some w => rw [e] at this; exact this
  rcases ch_split hA hl.c hl.n with cl | ⟨l1, l2, rfl, c1, c2, k⟩
  · rcases ch_split hA hm.c hm.n with cm | ⟨m1, m2, rfl, d1, d2, kk⟩
    · exact up a b l m ⟨cl, hl.n, hl.hd, hl.lt⟩ ⟨cm, hm.n, hm.hd, hm.lt⟩
    · exfalso
      have ab := (SP.mk (A := A) cl hl.n hl.hd hl.lt).Cn
      rcases kk with ⟨e1, e2⟩ | ⟨e1, e2⟩
      · obtain ⟨p1, p2⟩ := parts hm d1 d2 e1 e2
        exact dis ((p1.Cn.symm s).trans (ab.trans (p2.Cn.symm s)))
      · obtain ⟨p1, p2⟩ := parts hm d1 d2 e1 e2
        exact dis (p2.Cn.trans ((ab.symm s).trans p1.Cn))
  · rcases ch_split hA hm.c hm.n with cm | ⟨m1, m2, rfl, d1, d2, kk⟩
    · exfalso
      have ab := (SP.mk (A := A) cm hm.n hm.hd hm.lt).Cn
      rcases k with ⟨e1, e2⟩ | ⟨e1, e2⟩
      · obtain ⟨p1, p2⟩ := parts hl c1 c2 e1 e2
        exact dis ((p1.Cn.symm s).trans (ab.trans (p2.Cn.symm s)))
      · obtain ⟨p1, p2⟩ := parts hl c1 c2 e1 e2
        exact dis (p2.Cn.trans ((ab.symm s).trans p1.Cn))
    · rcases k with ⟨e1, e2⟩ | ⟨e1, e2⟩ <;> rcases kk with ⟨f1, f2⟩ | ⟨f1, f2⟩
      · obtain ⟨p1, p2⟩ := parts hl c1 c2 e1 e2
        obtain ⟨q1, q2⟩ := parts hm d1 d2 f1 f2
        rw [up _ _ _ _ p1 q1, up _ _ _ _ p2 q2]
      · obtain ⟨p1, p2⟩ := parts hl c1 c2 e1 e2
        obtain ⟨q1, q2⟩ := parts hm d1 d2 f1 f2
        exact absurd ((p1.Cn.symm s).trans q1.Cn) dis
      · obtain ⟨p1, p2⟩ := parts hl c1 c2 e1 e2
        obtain ⟨q1, q2⟩ := parts hm d1 d2 f1 f2
        exact absurd ((q1.Cn.symm s).trans p1.Cn) dis
      · obtain ⟨p1, p2⟩ := parts hl c1 c2 e1 e2
        obtain ⟨q1, q2⟩ := parts hm d1 d2 f1 f2
        rw [up _ _ _ _ p1 q1, up _ _ _ _ p2 q2]
/-- two ways that part never meet again -/
theorem UP.part (up : UP A) {p c1 c2 : List Int} {w u v b1 b2 : Int} (h1 : SP A a b1 (p ++ w :: u :: c1)) (h2 : SP A a b2 (p ++ w :: v :: c2)) (n : u ≠ v) : ∀ t, t ∈ u :: c1 → t ∉ v :: c2 := by
  intro t t1 t2
  obtain ⟨d1, d2, e⟩ := List.append_of_mem t1
  obtain ⟨f1, f2, g⟩ := List.append_of_mem t2
  have q1 : SP A a t ((p ++ [w] ++ d1) ++ [t]) := SP.pre (l2 := d2) (by simpa [e] using h1)
  have q2 : SP A a t ((p ++ [w] ++ f1) ++ [t]) := SP.pre (l2 := f2) (by simpa [g] using h2)
  have k := up _ _ _ _ q1 q2
  simp at k
  cases d1 with
  | nil =>
    simp at e
    obtain ⟨rfl, rfl⟩ := e
    cases f1 with
    | nil => simp at g; exact n g.1.symm
    | cons z f1 => simp at k
  | cons z d1 =>
    simp at e
    obtain ⟨rfl, rfl⟩ := e
    cases f1 with
    | nil => simp at k
    | cons z f1 => simp at g; simp at k; exact n (k.1.trans g.1.symm)
end
end DL
/-! G1: houses are forests; the search finds the simple path. -/
namespace DL
open PySem PySem.Spec PyProof.Rows L2 RZ
/-- a door joins them -/
def ad (D : List (Int × Int)) (u v : Int) : Prop := v ∈ nb D u
section
variable {D E : List (Int × Int)} {a b u v x y : Int} {n : Int}
theorem ad_symm : ∀ u v, ad D u v → ad D v u := fun _ _ h => nb_symm.mp h
theorem ad_iff : ad D u v ↔ (u, v) ∈ D ∨ (v, u) ∈ D := mem_nb
theorem ad_snoc {p q : Int} : ∀ u v, ad (D ++ [(p, q)]) u v ↔ ad D u v ∨ (u = p ∧ v = q) ∨ (u = q ∧ v = p) := fun u v => by
  rw [ad_iff, ad_iff, List.mem_append, List.mem_append, List.mem_singleton, List.mem_singleton, Prod.mk.injEq, Prod.mk.injEq]
  constructor
  · rintro ((h | h) | (h | h))
    · exact .inl (.inl h)
    · exact .inr (.inl h)
    · exact .inl (.inr h)
    · exact .inr (.inr ⟨h.2, h.1⟩)
  · rintro ((h | h) | h | h)
    · exact .inl (.inl h)
    · exact .inr (.inl h)
    · exact .inl (.inr h)
    · exact .inr (.inr ⟨h.2, h.1⟩)
theorem ad_perm (h : D.Perm E) : ∀ u v, ad D u v ↔ ad E u v := fun u v => by rw [ad_iff, ad_iff, h.mem_iff, h.mem_iff]
theorem Joins.cn_out {o : List Int} {E : List (Int × Int)} (h : Joins o E) {x : Int} (hx : x ∉ o) {z : Int} (c : Cn (ad E) x z) : z = x := by
  induction c with
  | refl => rfl
  | step _ e ih =>
    subst ih
    rcases ad_iff.mp e with e | e
    · exact absurd (h.mem _ e).1 hx
    · exact absurd (h.mem _ e).2 hx
theorem door_pair {a x : Int} (h : a ≠ x) : ((if x < a then x else a, if x > a then x else a) : Int × Int) = (x, a) ∧ x < a ∨ ((if x < a then x else a, if x > a then x else a) : Int × Int) = (a, x) ∧ a < x := by
  by_cases h1 : x < a
  · left
    have : ¬ x > a := by omega
    simp [h1, this]
  · right
    have : x > a := by omega
    simp [h1, this]
theorem Joins.up {o : List Int} {E : List (Int × Int)} (h : Joins o E) : o.Nodup → UP (ad E) := by
  induction h with
  | one x => intro _; exact UP.nil fun u v z => by rcases ad_iff.mp z with z | z <;> simp at z
  | skip x _ ih => intro nd; exact ih (List.nodup_append.mp nd).1
  | @door o E a x hj ha ih =>
    intro nd
    have n := List.nodup_append.mp nd
    have hx : x ∉ o := fun z => n.2.2 x z x (by simp) rfl
    have ne : a ≠ x := fun e => hx (e ▸ ha)
    have dis : ¬ Cn (ad E) x a := fun c => ne (hj.cn_out hx c)
    have dis2 : ¬ Cn (ad E) a x := fun c => dis (c.symm ad_symm)
    rcases door_pair ne with ⟨e, _⟩ | ⟨e, _⟩
    · rw [e]; exact UP.join ad_snoc ad_symm dis (ih n.1)
    · rw [e]; exact UP.join ad_snoc ad_symm dis2 (ih n.1)
theorem Joins.lt {o : List Int} {E : List (Int × Int)} (h : Joins o E) : o.Nodup → ∀ p ∈ E, p.1 < p.2 := by
  induction h with
  | one x => intro _ p hp; simp at hp
  | skip x _ ih => intro nd; exact ih (List.nodup_append.mp nd).1
  | @door o E a x hj ha ih =>
    intro nd p hp
    have n := List.nodup_append.mp nd
    have ne : a ≠ x := fun e => n.2.2 a ha x (by simp) e
    rcases List.mem_append.mp hp with hp | hp
    · exact ih n.1 p hp
    · rw [List.mem_singleton.mp hp]
      rcases door_pair ne with ⟨e, l⟩ | ⟨e, l⟩
      · rw [e]; exact l
      · rw [e]; exact l
theorem iota_nd (n : Int) : (iota n).Nodup := (iota_asc n).imp fun h => by omega
theorem House.up (h : House n D) : UP (ad D) := by
  obtain ⟨o, E, h1, h2, rfl⟩ := h.ex
  exact UP.mono (fun u v z => (ad_perm (sortP_perm E) u v).mp z) (h2.up (h1.nodup_iff.mpr (iota_nd n)))
theorem House.lt (h : House n D) : ∀ p ∈ D, p.1 < p.2 := by
  obtain ⟨o, E, h1, h2, rfl⟩ := h.ex
  exact fun p hp => h2.lt (h1.nodup_iff.mpr (iota_nd n)) p ((sortP_perm E).mem_iff.mp hp)
/-! ### the search -/
def InvS (D : List (Int × Int)) (a : Int) (m : Mp) : Prop := ∀ x q, lk m x = some q → SP (ad D) a x q ∧ ∀ y ∈ q, (lk m y).isSome = true
theorem fold_S {h : Int} {p : List Int} : ∀ (ts : List Int) (m : Mp) (st : List Int), (∀ t ∈ ts, t ∈ nb D h) → InvS D a m → lk m h = some p → InvS D a (ts.foldl (visit p) (m, st)).1
  | [], m, st, _, hm, _ => hm
  | t :: ts, m, st, hts, hm, hp => by
    have hts' : ∀ t ∈ ts, t ∈ nb D h := fun u hu => hts u (List.mem_cons_of_mem _ hu)
    rw [List.foldl_cons]
    cases e2 : lk m t with
    | some r =>
      rw [visit_seen (by rw [e2]; rfl)]
      exact fold_S ts m st hts' hm hp
    | none =>
      rw [visit_new e2]
      have some_mono : ∀ y, (lk m y).isSome = true → (lk (m ++ [(t, p ++ [t])]) y).isSome = true := fun y hy => by
        rw [lk_app]
        cases e : lk m y with
        | some r => rfl
        | none => rw [e] at hy; cases hy
      refine fold_S ts _ _ hts' (fun y r ey => ?_) (by rw [lk_app, hp])
      rw [lk_app] at ey
      cases e3 : lk m y with
      | some r2 =>
        rw [e3] at ey
        cases ey
        obtain ⟨k1, k2⟩ := hm y _ e3
        exact ⟨k1, fun z hz => some_mono z (k2 z hz)⟩
      | none =>
        rw [e3] at ey
        by_cases hy : t = y
        · subst hy
          rw [if_pos rfl] at ey
          cases ey
          obtain ⟨k1, k2⟩ := hm h p hp
          refine ⟨k1.snoc (hts t (List.mem_cons_self ..)) fun z => ?_, fun z hz => ?_⟩
          · have := k2 t z
            rw [e2] at this; cases this
          · rcases List.mem_append.mp hz with hz | hz
            · exact some_mono z (k2 z hz)
            · rw [List.mem_singleton.mp hz, lk_app, e2]; simp
        · simp [hy] at ey
theorem srch_S {B : Nat} : ∀ (f : Nat) (m : Mp) (st : List Int), SOk D B m st → InvS D a m → InvS D a (srch D f m st)
  | 0, m, st, _, hm => hm
  | f + 1, m, st, o, hm => by
    by_cases hst : st = []
    · subst hst
      rw [srch_nil]
      exact hm
    · obtain ⟨u, st', rfl⟩ : ∃ u st', st = st' ++ [u] := ⟨st.getLast hst, st.dropLast, (List.dropLast_concat_getLast hst).symm⟩
      rw [srch_snoc]
      obtain ⟨r, hr⟩ := Option.isSome_iff_exists.mp (o.st u (by simp))
      rw [hr]
      have o1 : SOk D B m st' := ⟨o.len, o.ps, fun z hz => o.st z (by simp [hz])⟩
      exact srch_S f _ _ (fold_ok (nb D u) m st' o1 (fun t ht => nb_ends ht) hr) (fold_S (nb D u) m st' (fun t ht => ht) hm hr)
theorem lk_SP {p : List Int} (e : lk (pathsM D a) b = some p) : SP (ad D) a b p := by
  refine (srch_S _ _ _ (SOk.start D a) (fun y r ey => ?_) b p e).1
  by_cases hy : y = a
  · subst hy
    have : [y] = r := by simpa [lk] using ey
    subst this
    exact ⟨.one, fun z hz => by rw [List.mem_singleton.mp hz]; simp [lk]⟩
  · have hy2 : ¬ a = y := fun z => hy z.symm
    simp [lk, hy2] at ey
theorem cn_re (h : Cn (ad D) a b) : Re D (ends D) a b := by
  induction h with
  | refl => exact .refl
  | step _ e ih => exact .step ih (nb_ends (nb_symm.mp e)) (nb_ends e) e
theorem lk_Cn (h : Cn (ad D) a b) : ∃ p, lk (pathsM D a) b = some p := lk_conn (mem_conn.mpr (cn_re h))
theorem lk_iff (h : UP (ad D)) {p : List Int} : lk (pathsM D a) b = some p ↔ SP (ad D) a b p := by
  refine ⟨lk_SP, fun g => ?_⟩
  obtain ⟨q, hq⟩ := lk_Cn g.Cn
  rw [hq, h _ _ _ _ g (lk_SP hq)]
theorem lk_none : lk (pathsM D a) b = none ↔ ¬ Cn (ad D) a b := by
  constructor
  · intro h c
    obtain ⟨p, hp⟩ := lk_Cn c
    rw [h] at hp; cases hp
  · intro h
    cases e : lk (pathsM D a) b with
    | none => rfl
    | some p => exact absurd (lk_SP e).Cn h
/-! ### rooms that are reached -/
theorem re_cn {R : List Int} : Re D R a b ↔ Cn (fun u v => u ∈ R ∧ v ∈ R ∧ ad D u v) a b := by
  constructor
  · intro h
    induction h with
    | refl => exact .refl
    | step _ h1 h2 h3 ih => exact .step ih ⟨h1, h2, h3⟩
  · intro h
    induction h with
    | refl => exact .refl
    | step _ h1 ih => exact .step ih h1.1 h1.2.1 h1.2.2
theorem re_all (hD : inD n D) : Re D (iota n) a b ↔ Cn (ad D) a b := by
  rw [re_cn]
  refine ⟨Cn.mono fun u v h => h.2.2, Cn.mono fun u v h => ⟨?_, ?_, h⟩⟩
  · have := nb_in hD (nb_symm.mp h); exact mem_iota.mpr this
  · have := nb_in hD h; exact mem_iota.mpr this
/-! ### as many parts as rooms without doors -/
/-! ### a door taken away -/
section
variable {n : Int} {D : List (Int × Int)} {p : Int × Int}
def less (D : List (Int × Int)) (p : Int × Int) : List (Int × Int) := D.filter fun q => decide (q ≠ p)
theorem ad_less (hp : p ∈ D) : ∀ u v, ad D u v ↔ ad (less D p) u v ∨ (u = p.1 ∧ v = p.2) ∨ (u = p.2 ∧ v = p.1) := fun u v => by
  unfold less
  rw [ad_iff, ad_iff, List.mem_filter, List.mem_filter]
  simp only [decide_eq_true_eq]
  obtain ⟨x, y⟩ := p
  simp only [ne_eq, Prod.mk.injEq]
  constructor
  · rintro (h | h)
    · by_cases e : u = x ∧ v = y
      · exact .inr (.inl e)
      · exact .inl (.inl ⟨h, e⟩)
    · by_cases e : v = x ∧ u = y
      · exact .inr (.inr ⟨e.2, e.1⟩)
      · exact .inl (.inr ⟨h, e⟩)
  · rintro ((h | h) | ⟨rfl, rfl⟩ | ⟨rfl, rfl⟩)
    · exact .inl h.1
    · exact .inr h.1
    · exact .inl hp
    · exact .inr hp
theorem House.cut (h : House n D) (hp : p ∈ D) : ¬ Cn (ad (less D p)) p.1 p.2 := fun c => by
  obtain ⟨l, hl⟩ := c.sp
  have ne : p.1 < p.2 := h.lt p hp
  have l1 : SP (ad D) p.1 p.2 l := hl.mono fun u v z => (ad_less hp u v).mpr (.inl z)
  have l2 : SP (ad D) p.1 p.2 [p.1, p.2] := ⟨⟨(ad_less hp _ _).mpr (.inr (.inl ⟨rfl, rfl⟩)), trivial⟩, by simp; omega, rfl, rfl⟩
  have e := h.up _ _ _ _ l1 l2
  subst e
  have z : ad (less D p) p.1 p.2 := hl.c.1
  rcases ad_iff.mp z with z | z
  · have := (List.mem_filter.mp z).2
    simp at this
  · have := h.lt _ (List.mem_filter.mp z).1
    simp at this
    omega
end
end
end DL
/-! G2: moves and regions. -/
namespace DL
open PySem PySem.Spec PyProof.Rows L2 RZ
section
variable {n most : Int} {D : List (Int × Int)} {P : Plm} {s : Str} {t : Int}
/-- everybody is in their first region -/
def Fi (n : Int) (D : List (Int × Int)) (P0 P : Plm) : Prop := P.map (·.1) = P0.map (·.1) ∧ (∀ r ∈ occ n P, r ∈ occ n P0) ∧ ∀ q ∈ P, q.2 ∈ conn D (occ n P0) (hom P0 q.1)
theorem Fi.refl (hP : Plc n most P) : Fi n D P P := ⟨rfl, fun _ h => h, fun q hq => by rw [hom_self hP hq]; exact self_conn⟩
end
end DL
/-! G3: pieces of tight regions: paths, parts, free rooms. -/
namespace DL
open PySem PySem.Spec PyProof.Rows L2 RZ
section
variable {D : List (Int × Int)} {R S : List Int} {a b r x y z t : Int} {p : List Int}
theorem ch_res {A : Int → Int → Prop} {S : List Int} : ∀ {l : List Int}, ch A l → (∀ z ∈ l, z ∈ S) → ch (fun u v => u ∈ S ∧ v ∈ S ∧ A u v) l
  | [], _, _ => trivial
  | [_], _, _ => trivial
  | x :: y :: l, h, k => ⟨⟨k x (by simp), k y (by simp), h.1⟩, ch_res (l := y :: l) h.2 fun z hz => k z (List.mem_cons_of_mem _ hz)⟩
theorem re_path (hp : SP (ad D) a b p) (h : ∀ z ∈ p, z ∈ S) : Re D S a b := re_cn.mpr (ch_Cn (ch_res hp.c h) hp.hd b (List.mem_of_getLast? hp.lt))
theorem in_path (up : UP (ad D)) (hc : Re D R a b) (ha : a ∈ R) (hp : SP (ad D) a b p) : ∀ z ∈ p, z ∈ R := by
  obtain ⟨l, hl⟩ := (re_cn.mp hc).sp
  have e := up _ _ _ _ hp (hl.mono fun u v h => h.2.2)
  subst e
  exact fun z hz => (re_cn.mpr (hl.left z hz)).inR ha
/-- without a room -/
abbrev wo (R : List Int) (r : Int) : List Int := R.filter fun x => decide (x ≠ r)
theorem mem_wo : x ∈ wo R r ↔ x ∈ R ∧ x ≠ r := by simp [wo]
/-- the first step toward x -/
theorem step1 (up : UP (ad D)) (hc : Re D R r x) (hr : r ∈ R) (hne : x ≠ r) : ∃ t p, SP (ad D) r x (r :: t :: p) ∧ t ∈ nb D r ∧ t ∈ R ∧ t ≠ r ∧ Re D (wo R r) t x ∧ nxtO D r x = some t := by
  obtain ⟨l, hl⟩ := (re_cn.mp hc).sp
  have hl := hl.mono fun u v h => h.2.2
  have hin := in_path up hc hr hl
  match l, hl, hin with
  | [], hl, _ => have := hl.hd; simp at this
  | [u], hl, _ =>
    have h1 := hl.hd; have h2 := hl.lt
    simp at h1 h2
    exact absurd (h2.symm.trans h1) hne
  | u :: t :: p, hl, hin =>
    have h1 := hl.hd
    simp at h1
    subst h1
    have nd := List.nodup_cons.mp hl.n
    have hs : SP (ad D) t x (t :: p) := SP.suf (l1 := [u]) hl
    refine ⟨t, p, hl, hl.c.1, hin t (by simp), fun e => nd.1 (e ▸ List.mem_cons_self ..), re_path hs fun z hz => mem_wo.mpr ⟨hin z (List.mem_cons_of_mem _ hz), fun e => nd.1 (e ▸ hz)⟩, ?_⟩
    unfold nxtO
    rw [(lk_iff up).mpr hl]
theorem comp_con {S : List Int} : ∀ u ∈ conn D S y, ∀ v ∈ conn D S y, Re D (conn D S y) u v := by
  have key : ∀ v, Re D S y v → Re D (conn D S y) y v := fun v h => by
    induction h with
    | refl => exact .refl
    | step h a b c ih => exact .step ih (mem_conn.mpr h) (mem_conn.mpr (.step h a b c)) c
  exact fun u hu v hv => (key u (mem_conn.mp hu)).symm.trans (key v (mem_conn.mp hv))
end
/-- where the person of x wants to be -/
def gl (P T : Plm) (x : Int) : Int := match ppl P x with
  | s :: _ => hom T s
  | [] => x
/-- a closed piece: joined, one person in each room, who wants to be within -/
structure Cl (D : List (Int × Int)) (P T : Plm) (R : List Int) : Prop where
  asc : R.Pairwise (· < ·)
  con : ∀ x ∈ R, ∀ y ∈ R, Re D R x y
  one : ∀ x ∈ R, ∃ s, ppl P x = [s]
  cls : ∀ x ∈ R, gl P T x ∈ R
section
variable {D : List (Int × Int)} {P T : Plm} {R K : List Int} {a b r x y z t : Int} {p : List Int}
theorem Cl.nd (h : Cl D P T R) : R.Nodup := h.asc.imp fun h => by omega
theorem mem_trips (h : Cl D P T R) : (a, b) ∈ trips P T R ↔ a ∈ R ∧ b = gl P T a := by
  unfold trips
  rw [List.mem_map]
  constructor
  · rintro ⟨q, hq, e⟩
    obtain ⟨h1, h2⟩ := List.mem_filter.mp hq
    have h2 : q.2 ∈ R := by simpa using h2
    cases e
    refine ⟨h2, ?_⟩
    obtain ⟨s, hs⟩ := h.one _ h2
    have hm : q.1 ∈ ppl P q.2 := List.mem_map.mpr ⟨q, List.mem_filter.mpr ⟨h1, by simp⟩, rfl⟩
    rw [hs, List.mem_singleton] at hm
    unfold gl
    rw [hs, hm]
  · rintro ⟨h1, rfl⟩
    obtain ⟨s, hs⟩ := h.one a h1
    have hm : (s, a) ∈ P := ppl_mem (by rw [hs]; simp)
    refine ⟨(s, a), List.mem_filter.mpr ⟨hm, by simpa using h1⟩, ?_⟩
    unfold gl
    rw [hs]
theorem mem_frees (h : Cl D P T R) : r ∈ frees D P T R ↔ r ∈ R ∧ (∀ x ∈ R, gl P T x ≠ r) ∧ ∀ x ∈ R, pss D x (gl P T x) r = false := by
  unfold frees
  rw [List.mem_filter, List.mem_filter, and_assoc]
  refine and_congr_right fun _ => and_congr ?_ ?_
  · rw [Bool.not_eq_true', decide_eq_false_iff_not]
    constructor
    · intro h1 x hx e
      exact h1 (List.mem_map.mpr ⟨(x, r), (mem_trips h).mpr ⟨hx, e.symm⟩, rfl⟩)
    · intro h1 hm
      obtain ⟨⟨a, b⟩, hq, e⟩ := List.mem_map.mp hm
      obtain ⟨h2, h3⟩ := (mem_trips h).mp hq
      exact h1 a h2 (by rw [← h3]; exact e)
  · rw [Bool.not_eq_true', List.any_eq_false]
    constructor
    · intro h1 x hx
      have := h1 (x, gl P T x) ((mem_trips h).mpr ⟨hx, rfl⟩)
      simpa using this
    · rintro h1 ⟨a, b⟩ hq
      obtain ⟨h2, h3⟩ := (mem_trips h).mp hq
      subst h3
      simpa using h1 a h2
theorem free_path (up : UP (ad D)) (h : Cl D P T R) (hr : r ∈ frees D P T R) (hx : x ∈ R) (hne : x ≠ r) (hp : SP (ad D) x (gl P T x) p) : r ∉ p := by
  obtain ⟨h1, h2, h3⟩ := (mem_frees h).mp hr
  have := h3 x hx
  unfold pss at this
  rw [(lk_iff up).mpr hp] at this
  intro hm
  have e1 : ¬ r = x := fun e => hne e.symm
  have e2 : ¬ r = gl P T x := fun e => h2 x hx e.symm
  simp [e1, e2, hm] at this
theorem free_stay (up : UP (ad D)) (h : Cl D P T R) (hr : r ∈ frees D P T R) (hx : x ∈ R) (hne : x ≠ r) : Re D (wo R r) x (gl P T x) := by
  obtain ⟨l, hl⟩ := (re_cn.mp (h.con x hx _ (h.cls x hx))).sp
  have hl := hl.mono fun u v h => h.2.2
  have hin := in_path up (h.con x hx _ (h.cls x hx)) hx hl
  have hn := free_path up h hr hx hne hl
  exact re_path hl fun z hz => mem_wo.mpr ⟨hin z hz, fun e => hn (e ▸ hz)⟩
theorem nxr_one (h : Cl D P T R) (hx : x ∈ R) : nxr D P T x = nxtO D x (gl P T x) := by
  obtain ⟨s, hs⟩ := h.one x hx
  unfold nxr gl
  rw [hs]
theorem free_ne (h : Cl D P T R) (hr : r ∈ frees D P T R) : gl P T r ≠ r := ((mem_frees h).mp hr).2.1 r ((mem_frees h).mp hr).1
/-- the parts behind a room -/
theorem part (hasc : R.Pairwise (· < ·)) (hK : K ∈ comps D (wo R r)) : ∃ y ∈ wo R r, K = conn D (wo R r) y := ((comps_ok (hasc.filter _)).2 K).mp hK
theorem part_sub (hasc : R.Pairwise (· < ·)) (hK : K ∈ comps D (wo R r)) : ∀ x ∈ K, x ∈ R ∧ x ≠ r := by
  obtain ⟨y, hy, rfl⟩ := part hasc hK
  exact fun x hx => mem_wo.mp ((mem_conn.mp hx).inR hy)
theorem part_re (hasc : R.Pairwise (· < ·)) (hK : K ∈ comps D (wo R r)) (hx : x ∈ K) (h : Re D (wo R r) x y) : y ∈ K := by
  obtain ⟨w, hw, rfl⟩ := part hasc hK
  exact mem_conn.mpr ((mem_conn.mp hx).trans h)
theorem part_cl (up : UP (ad D)) (h : Cl D P T R) (hr : r ∈ frees D P T R) (hK : K ∈ comps D (wo R r)) : Cl D P T K := by
  have sub := part_sub h.asc hK
  refine ⟨?_, ?_, fun x hx => h.one x (sub x hx).1, fun x hx => part_re h.asc hK hx (free_stay up h hr (sub x hx).1 (sub x hx).2)⟩
  · obtain ⟨y, hy, rfl⟩ := part h.asc hK
    exact conn_asc
  · obtain ⟨y, hy, rfl⟩ := part h.asc hK
    exact comp_con
/-- what is free in the part is free -/
theorem part_free (up : UP (ad D)) (h : Cl D P T R) (hr : r ∈ frees D P T R) (hK : K ∈ comps D (wo R r)) (ht : ∀ t, nxr D P T r = some t → t ∉ K) (hx : x ∈ K) : x ∈ frees D P T K ↔ x ∈ frees D P T R := by
  have hKc := part_cl up h hr hK
  have sub := part_sub h.asc hK
  rw [mem_frees hKc, mem_frees h]
  have rR := frees_sub hr
  -- who is outside of K does not come in
  have out : ∀ z ∈ R, z ∉ K → ∀ p, SP (ad D) z (gl P T z) p → ∀ w ∈ p, w ∉ K := by
    intro z hz hn p hp w hw hwK
    by_cases e : z = r
    · subst e
      have gne := free_ne h hr
      obtain ⟨t, p', h1, h2, h3, h4, h5, h6⟩ := step1 up (h.con z rR _ (h.cls z rR)) rR gne
      have ep := up _ _ _ _ hp h1
      subst ep
      rcases List.mem_cons.mp hw with rfl | hw
      · exact (sub _ hwK).2 rfl
      · have hs : SP (ad D) t (gl P T z) (t :: p') := SP.suf (l1 := [z]) h1
        have nd := List.nodup_cons.mp h1.n
        have hin := in_path up (h.con z rR _ (h.cls z rR)) rR h1
        obtain ⟨u, v, ee⟩ := List.append_of_mem hw
        rw [ee] at hs
        have : Re D (wo R z) t w := re_path hs.pre fun y hy => mem_wo.mpr (by
          have : y ∈ t :: p' := by
            rw [ee]
            rcases List.mem_append.mp hy with q | q
            · exact List.mem_append_left _ q
            · rw [List.mem_singleton.mp q]; simp
          exact ⟨hin y (List.mem_cons_of_mem _ this), fun e => nd.1 (e ▸ this)⟩)
        exact ht t (by rw [nxr_one h rR]; exact h6) (part_re h.asc hK hwK this.symm)
    · have hin := in_path up (h.con z hz _ (h.cls z hz)) hz hp
      have hn' := free_path up h hr hz e hp
      obtain ⟨u, v, ee⟩ := List.append_of_mem hw
      have hp2 := hp
      rw [ee] at hp2
      have : Re D (wo R r) z w := re_path hp2.pre fun y hy => mem_wo.mpr (by
        have : y ∈ p := by
          rw [ee]
          rcases List.mem_append.mp hy with q | q
          · exact List.mem_append_left _ q
          · rw [List.mem_singleton.mp q]; simp
        exact ⟨hin y this, fun e => hn' (e ▸ this)⟩)
      exact hn (part_re h.asc hK hwK this.symm)
  have pth : ∀ z ∈ R, ∃ p, SP (ad D) z (gl P T z) p := fun z hz => by
    obtain ⟨l, hl⟩ := (re_cn.mp (h.con z hz _ (h.cls z hz))).sp
    exact ⟨l, hl.mono fun u v h => h.2.2⟩
  constructor
  · rintro ⟨_, h2, h3⟩
    refine ⟨(sub x hx).1, fun z hz e => ?_, fun z hz => ?_⟩
    · by_cases hzK : z ∈ K
      · exact h2 z hzK e
      · obtain ⟨p, hp⟩ := pth z hz
        exact out z hz hzK p hp _ (List.mem_of_getLast? hp.lt) (e ▸ hx)
    · by_cases hzK : z ∈ K
      · exact h3 z hzK
      · obtain ⟨p, hp⟩ := pth z hz
        have : x ∉ p := fun hm => out z hz hzK p hp x hm hx
        unfold pss
        rw [(lk_iff up).mpr hp]
        simp [this]
  · rintro ⟨_, h2, h3⟩
    exact ⟨hx, fun z hz => h2 z (sub z hz).1, fun z hz => h3 z (sub z hz).1⟩
end
end DL
/-! G4: certificates of pieces that are not solvable. -/
namespace DL
open PySem PySem.Spec PyProof.Rows L2 RZ
abbrev Bk := List (Int × Int)
def lkB (m : Bk) (x : Int) : Option Int := (m.find? fun q => decide (q.1 = x)).map (·.2)
def putB (m : Bk) (x b : Int) : Bk := if x ∈ m.map (·.1) then m.map fun q => if q.1 = x then (q.1, b) else q else m ++ [(x, b)]
theorem putB_keys {m : Bk} {x b : Int} : (putB m x b).map (·.1) = if x ∈ m.map (·.1) then m.map (·.1) else m.map (·.1) ++ [x] := by
  unfold putB
  split
  · rw [List.map_map]
    refine List.map_congr_left fun q _ => ?_
    rw [Function.comp_apply]
    split <;> rfl
  · rw [List.map_append]; rfl
theorem putB_nd {m : Bk} {x b : Int} (h : (m.map (·.1)).Nodup) : ((putB m x b).map (·.1)).Nodup := by
  rw [putB_keys]
  split
  · exact h
  · rename_i hx
    rw [List.nodup_append]
    exact ⟨h, by simp, fun u hu v hv e => by simp at hv; subst hv; subst e; exact hx hu⟩
section
variable (D : List (Int × Int)) (P T : Plm)
def dst (a b : Int) : Int := (((lk (pathsM D a) b).getD []).length : Int)
end
/-- a certificate for a piece, as a map of the rows «back» -/
structure CertM (D : List (Int × Int)) (P T : Plm) (R : List Int) (m : Bk) : Prop where
  row : ∀ x ∈ frees D P T R, ∃ b, lkB m x = some b ∧ b ∈ nb D x ∧ b ∈ R ∧ nxr D P T x ≠ some b
  mtl : ∀ x y, x ∈ frees D P T R → y ∈ frees D P T R → lkB m x = some y → lkB m y = some x → False
  isl : ∀ y ∈ R, y ∉ frees D P T R → (∀ z ∈ conn D (R.filter fun x => decide (x ∉ frees D P T R)) y, gl P T z = z) →
    ∃ r ∈ frees D P T R, (∃ t ∈ nb D r, t ∈ conn D (R.filter fun x => decide (x ∉ frees D P T R)) y) ∧ ∃ b, lkB m r = some b ∧ b ∉ conn D (R.filter fun x => decide (x ∉ frees D P T R)) y
theorem CertM.congr {D : List (Int × Int)} {P T : Plm} {R : List Int} {m m' : Bk} (h : CertM D P T R m) (e : ∀ x ∈ frees D P T R, lkB m' x = lkB m x) : CertM D P T R m' :=
  ⟨fun x hx => by rw [e x hx]; exact h.row x hx, fun x y hx hy h1 h2 => h.mtl x y hx hy (by rw [← e x hx]; exact h1) (by rw [← e y hy]; exact h2), fun y hy hn hs => by
    obtain ⟨r, hr, ht, b, hb, hi⟩ := h.isl y hy hn hs
    exact ⟨r, hr, ht, b, by rw [e r hr]; exact hb, hi⟩⟩
end DL
/-! G5: the search for back rows makes a certificate. -/
namespace DL
open PySem PySem.Spec PyProof.Rows L2 RZ
section
variable {D : List (Int × Int)} {P T : Plm} {R K : List Int} {a b r x y z t first : Int} {p : List Int} {m m' k : Bk} {d : Int}
structure BInv (D : List (Int × Int)) (P T : Plm) (R : List Int) (first : Int) (m : Bk) (d : Int) : Prop where
  ex : ∃ Ks : List (Int × List Int),
    (∀ q ∈ Ks, q.1 ∈ frees D P T R ∧ q.2 ∈ comps D (wo R q.1) ∧ first ∉ q.2 ∧ (∀ t, nxr D P T q.1 = some t → t ∉ q.2) ∧ (∃ b, lkB m q.1 = some b ∧ b ∈ nb D q.1 ∧ b ∈ q.2) ∧ CertM D P T q.2 m ∧ dst D first q.1 ≤ d) ∧
    (∀ q ∈ Ks, ∀ q' ∈ Ks, q.1 ∉ q'.2) ∧
    ∀ x b, lkB m x = some b → x ∈ frees D P T R ∧ ((∃ q ∈ Ks, x ∈ q.2) ∨ ((∀ q ∈ Ks, x ∉ q.2) ∧ dst D first x ≤ d ∧ ((∃ q ∈ Ks, q.1 = x) ∨ (x ≠ first ∧ nxtO D x first = some b ∧ nxr D P T x ≠ some b))))
  fst : ∃ b, lkB m first = some b
theorem BInv.mono {d' : Int} (h : BInv D P T R first m d) (e : d ≤ d') : BInv D P T R first m d' := by
  obtain ⟨Ks, h1, h2, h3⟩ := h.ex
  refine ⟨⟨Ks, fun q hq => ?_, h2, fun x b hb => ?_⟩, h.fst⟩
  · obtain ⟨a1, a2, a3, a4, a5, a6, a7⟩ := h1 q hq
    exact ⟨a1, a2, a3, a4, a5, a6, by omega⟩
  · obtain ⟨b1, b2⟩ := h3 x b hb
    exact ⟨b1, b2.imp id fun ⟨c1, c2, c3⟩ => ⟨c1, by omega, c3⟩⟩
/-- what a part brings -/
structure RecOk (D : List (Int × Int)) (P T : Plm) (R : List Int) (r : Int) (K : List Int) (k : Bk) (b : Int) : Prop where
  part : K ∈ comps D (wo R r)
  nx : ∀ t, nxr D P T r = some t → t ∉ K
  cert : CertM D P T K k
  sub : ∀ x, (lkB k x).isSome = true → x ∈ frees D P T K
  nb : b ∈ nb D r
  inn : b ∈ K
/-- the first piece -/
theorem BInv.start (up : UP (ad D)) (h : Cl D P T R) (hf : first ∈ frees D P T R) (ok : RecOk D P T R first K k b) (hm : ∀ x, lkB m x = if x = first then some b else lkB k x) : BInv D P T R first m (dst D first first) := by
  have subK := part_sub h.asc ok.part
  have fK : first ∉ K := fun z => (subK first z).2 rfl
  refine ⟨⟨[(first, K)], fun q hq => ?_, fun q hq q' hq' => ?_, fun x c hx => ?_⟩, ⟨b, by rw [hm, if_pos rfl]⟩⟩
  · rw [List.mem_singleton.mp hq]
    refine ⟨hf, ok.part, fK, ok.nx, ⟨b, by rw [hm, if_pos rfl], ok.nb, ok.inn⟩, ok.cert.congr fun x hx => ?_, Int.le_refl _⟩
    have ne : x ≠ first := fun e => fK (e ▸ frees_sub hx)
    rw [hm, if_neg ne]
  · rw [List.mem_singleton.mp hq, List.mem_singleton.mp hq']; exact fK
  · rw [hm] at hx
    by_cases e1 : x = first
    · subst e1
      exact ⟨hf, .inr ⟨fun q hq => by rw [List.mem_singleton.mp hq]; exact fK, Int.le_refl _, .inl ⟨(x, K), by simp, rfl⟩⟩⟩
    · rw [if_neg e1] at hx
      have hx2 := ok.sub x (by rw [hx]; rfl)
      exact ⟨(part_free up h hf ok.part ok.nx (frees_sub hx2)).mp hx2, .inl ⟨(first, K), by simp, frees_sub hx2⟩⟩
end
end DL
/-! S41: k04: paths in houses, whole. -/
namespace DL
open PySem PySem.Spec PyProof.Rows L2 RZ
theorem SP.take {A : Int → Int → Prop} {a b : Int} {p : List Int} (h : SP A a b p) {k : Nat} {y : Int} (hk : p[k]? = some y) : SP A a y (p.take (k + 1)) := by
  have e : p = p.take k ++ y :: p.drop (k + 1) := by
    have hk2 := (List.getElem?_eq_some_iff.mp hk)
    obtain ⟨hl, e⟩ := hk2
    rw [← e, List.getElem_cons_drop, List.take_append_drop]
  have e2 : p.take (k + 1) = p.take k ++ [y] := by rw [List.take_succ, hk]; rfl
  rw [e2]
  rw [e] at h
  exact h.pre
@[simp ↓] theorem s_trg {wg : WpG} {δ : DEnv} {S : Store} {Q : CQ} {X : XQ} : wTRg wg δ S Q X = wg δ S (fun a b S1 => rgOk a b ∧ Q (.v (.tup (rngD a (b - a).toNat))) S1) X := rfl
end DL
/-! S42: k13: dicts of names; within. -/
namespace DL
open PySem PySem.Spec PyProof.Rows L2 RZ
theorem o_ne_self {S : Store} {d : Val} (h1 : drf S d = d) (h : shp d = true) : gNe S d d = some (.v (.bl false)) := by
  unfold gNe
  have hp := shp_isPy h
  have e : veq d d = true := eqv_refl d hp
  split
  · simp
  · rw [h1]
    simp [h, e]
/-- a part that lies within one of these -/
def wit (c : List Int) (Ks : List (List Int)) : Bool := Ks.any fun k => c.all fun x => decide (x ∈ k)
end DL
/-! S43: certificates: the program. -/
namespace DL
open PySem PySem.Spec PyProof.Rows L2 RZ
def bkD (m : Bk) : List (Key × Val) := m.map fun q => (Sum.inl q.1, Val.int q.2)
@[simp] theorem bkD_len {m : Bk} : (bkD m).length = m.length := by simp [bkD]
/-- rows of rooms of R -/
def KeyIn (R : List Int) (m : Bk) : Prop := (m.map (·.1)).Nodup ∧ ∀ x ∈ m.map (·.1), x ∈ R
theorem KeyIn.put {R : List Int} {m : Bk} {x b : Int} (h : KeyIn R m) (hx : x ∈ R) : KeyIn R (putB m x b) := by
  refine ⟨putB_nd h.1, fun y hy => ?_⟩
  rw [putB_keys] at hy
  split at hy
  · exact h.2 y hy
  · rcases List.mem_append.mp hy with hy | hy
    · exact h.2 y hy
    · rw [List.mem_singleton.mp hy]; exact hx
theorem KeyIn.len {n : Int} {R : List Int} {m : Bk} (h : KeyIn R m) (hR : ∀ x ∈ R, 0 ≤ x ∧ x < n) : m.length ≤ n.toNat := by
  have := nodup_le h.1 fun y hy => hR y (h.2 y hy)
  simpa using this
/-- a forest of n rooms -/
structure Fo (n : Int) (D : List (Int × Int)) : Prop where
  pos : 1 ≤ n
  len : (D.length : Int) < n
  inD : inD n D
  gd : Gd D
  up : UP (ad D)
theorem Fo.hs {n : Int} {D : List (Int × Int)} (h : Fo n D) (hn : n ≤ 60) : Hs n D := ⟨by have := h.pos; omega, hn, h.inD, by have := h.len; omega, h.gd⟩
structure PcOk (n : Int) (D : List (Int × Int)) (P T : Plm) (R : List Int) : Prop where
  hH : Fo n D
  n9 : n ≤ 9
  hP : Plc n 26 P
  hT : Tg2 n P T
  cl : Cl D P T R
  rng : ∀ x ∈ R, 0 ≤ x ∧ x < n
theorem PcOk.len {n : Int} {D : List (Int × Int)} {P T : Plm} {R : List Int} (h : PcOk n D P T R) : R.length ≤ 9 := by
  have := nodup_le h.cl.nd h.rng
  have := h.n9
  omega
end DL
/-! S44: certificates and blocks: the program. -/
namespace DL
open PySem PySem.Spec PyProof.Rows L2 RZ
end DL
/-! S45: certificates: the law's check of what was found. -/
namespace DL
open PySem PySem.Spec PyProof.Rows L2 RZ
end DL
/-! S53: counts of people; blocks of counts. -/
namespace DL
open PySem PySem.Spec PyProof.Rows L2 RZ
end DL
/-! S54: is a value a block of counts. -/
namespace DL
open PySem PySem.Spec PyProof.Rows L2 RZ
end DL
/-! S55: candidates for blocks of counts. -/
namespace DL
open PySem PySem.Spec PyProof.Rows L2 RZ
end DL
/-! S56: random counts, lists that two names reach. -/
namespace DL
open PySem PySem.Spec PyProof.Rows L2 RZ
theorem St.get {m : Nat} {R S : Store} {k : Nat} (h : St m R S) : S[k + 3]? = R[k]? := by
  obtain ⟨b, c, t, h1, h2, h3, rfl⟩ := h
  simp [stS]
theorem St.put {m : Nat} {R S : Store} {k : Nat} {o : Obj1} (h : St m R S) : St m (R.set k o) (S.set (k + 3) o) := by
  obtain ⟨b, c, t, h1, h2, h3, rfl⟩ := h
  exact ⟨b, c, t, h1, h2, h3, by simp [stS]⟩
/-- counts: one for each room, none too large -/
def CtB (n : Int) (A : List Int) : Prop := (A.length : Int) = n ∧ ∀ x ∈ A, 0 ≤ x ∧ x ≤ 1000000000000
theorem CtB.set {n : Int} {A : List Int} {k : Nat} {x : Int} (h : CtB n A) (h0 : 0 ≤ x) (h1 : x ≤ 1000000000000) : CtB n (A.set k x) :=
  ⟨by rw [List.length_set]; exact h.1, fun y hy => by
    rcases List.mem_or_eq_of_mem_set hy with hy | rfl
    · exact h.2 y hy
    · exact ⟨h0, h1⟩⟩
theorem CtB.at {n : Int} {A : List Int} {i : Int} (h : CtB n A) (h0 : 0 ≤ i) (h1 : i < n) : ∃ x, A[i.toNat]? = some x ∧ 0 ≤ x ∧ x ≤ 1000000000000 ∧ L2.atI (iv A) i = some (.int x) := by
  have hl := h.1
  have hi : i.toNat < A.length := by omega
  refine ⟨A[i.toNat], List.getElem?_eq_getElem hi, (h.2 _ (List.getElem_mem hi)).1, (h.2 _ (List.getElem_mem hi)).2, ?_⟩
  exact atI' h0 (by simp [hi])
@[simp ↓] theorem s_stSet {wo wi we : Wp} {Dd : DEnds} {δ : DEnv} {S : Store} {X : XQ} : wsStSet wo wi we Dd δ S X = we δ S (fun r S1 => wo δ S1 (fun x S2 => wi δ S2 (fun y S3 => match fz x, fz y with
    | .ref n, .int kk => (match S3[n]? with | some (.lst ds) => (match ixN ds.length kk with | some jj => noL (fz r) = true ∧ Dd.nx δ (S3.set n (.lst (ds.set jj (fz r)))) | none => False) | none => False)
    | _, _ => False) X) X) X := q_stSet (c := wsNext)
end DL
/-! S57: blocks of counts and their reprs. -/
namespace DL
open PySem PySem.Spec PyProof.Rows L2 RZ
end DL
/-! DL57: defs that are called in an except suite, with the exception. -/
namespace DL
open PySem PySem.Spec PyProof.Rows L2 RZ
/-- a def's promise, where an exception is handled -/
structure FnW (P : Program) (w : World) (K : PySem.W.Frag) (mg : Str → Option Value) (base : Heap) (k : Nat) (f : Addr) (fd : FuncData) (ps : List Str) (sp : Addr → Option Addr → Str → Sp) : Prop where
  len : ∀ aa d y vs H Q E, sp aa d y vs H Q E → vs.length = ps.length
  run : ∀ (A : Around) (outer : List Env) (s : Shared) (H : Hp) (args : Args) (us : List Value) (vs : List V) (Q : VK) (E : XK) (aa : Addr) (oe : Obj) (cls : Value) (d : Option Addr) (y : Str), L2H.RoomH k A → A.guards = some [] → A.handled = some (.ref aa) → L2H.PinOk outer H s (aa, oe) →
    Zc cls d oe → (∃ vs, oe.data = .fields vs) → y ∈ errN → mg y = some cls → Env0 P w K mg base A outer s H →
    BindsTo s fd args (ps.zip us) → Vals vs us → sp aa d y vs H Q E → codeAny (model P w) A (.call (.ref f) args) (L2.CR (L2.CX P w) outer P w H s Q E) s
theorem FnW.mono {P : Program} {w : World} {K : PySem.W.Frag} {mg : Str → Option Value} {base : Heap} {j k : Nat} {f : Addr} {fd : FuncData} {ps : List Str} {sp : Addr → Option Addr → Str → Sp} (F : FnW P w K mg base j f fd ps sp) (h : j ≤ k) : FnW P w K mg base k f fd ps sp :=
  ⟨F.len, fun A o s H a us vs Q E aa oe cls d y hr => F.run A o s H a us vs Q E aa oe cls d y (hr.mono h)⟩
end DL
/-! S62: the class of a package's error. -/
namespace DL
open PySem PySem.Spec PyProof.Rows L2 RZ
end DL
/-! DL47: sorted(t), t a tuple of (name, number). -/
namespace DL
section
open PySem PyProof.Rows PyProof.Rows.G
variable {prog : Program} {w : World} {A : Around} {E : Value → Shared → Prop} {s : Shared}
theorem collect_tup {l : Addr} {vs : List Value} {Q : List Value → Shared → Prop} (hl : s.heap.IsTuple l vs.toArray)
    (h : Q vs { s with heap := (s.heap.push (seqObj "list" #[] 0)).update s.heap.objs.size (Obj.mapSeq (· ++ vs.toArray)) }) (hsz : vs.length ≤ sizeLine) :
    wpAny (model prog w) A (collect (.ref l)) Q E s := by
  obtain ⟨o, ho, hc, n, hd⟩ := id hl
  unfold collect
  refine wpAny_bind (wpAny_runValue (codeAny_builtin entry_proto_collect' ?_))
  show wpAny _ _ (do again (.builtin "list.__iadd__" ⟨[← newList [], .ref l], []⟩)) _ _ s
  refine wpAny_bind (wpAny_newList (wpAny_pure ⟨Code.quiet_builtin _ (by decide +kernel), codeAny_builtin entry_list_iadd' ?_⟩))
  show wpAny _ _ (Builtin.List.listExtendWith (.ref s.heap.objs.size) (.ref l) (.ref s.heap.objs.size)) _ _ { s with heap := s.heap.push (seqObj "list" #[] 0) }
  unfold Builtin.List.listExtendWith
  have ho' : (s.heap.push (seqObj "list" #[] 0)).get? l = some o := Heap.get?_push_of_some _ ho
  refine wpAny_bind (wpAny_typeOf (T := "tuple") ⟨o, ho', hc⟩ ?_)
  have ht : (Value.type "tuple" == Value.type "tuple") = true := by rfl
  rw [if_pos (by rw [ht]; simp)]
  refine wpAny_bind (listItems_at ho' hd ?_)
  refine wpAny_bind (listItems_at (xs := #[]) (n := 0) (Heap.get?_push_size _ rfl) rfl ?_)
  rw [if_neg (by simp)]
  refine wpAny_bind (listUpdate_at (xs := #[]) (n := 0) (Heap.get?_push_size _ rfl) rfl ?_ (Nat.zero_le _) (by show (#[] ++ vs.toArray).size ≤ sizeLine + 1; simp only [Array.size_append, List.size_toArray, List.length_nil]; omega))
  refine wpAny_pure ?_
  show wpAny (model prog w) A (do
      let o ← load s.heap.objs.size
      match o.data with
      | .seq xs _ => pure xs.toList
      | _ => unsupported "internal:collect") Q E { s with heap := (s.heap.push (seqObj "list" #[] 0)).update s.heap.objs.size (Obj.mapSeq (· ++ vs.toArray)) }
  refine wpAny_bind (wpAny_load (get?_update_seq (Heap.get?_push_size _ rfl) _) ?_)
  show wpAny _ _ (pure ((#[] : Array Value) ++ vs.toArray).toList) Q E _
  rw [show ((#[] : Array Value) ++ vs.toArray).toList = vs by simp]
  exact wpAny_pure h
theorem sortedT_G {κ : KeyKind} {kd : SortKind} {l : Addr} {vs : List Value} {Q : Value → Shared → Prop} (hl : s.heap.IsTuple l vs.toArray) (h0 : KeysOf κ (pairsOf vs)) (hO : ∀ s₂ : Shared, KeepsTups s.heap s₂.heap → LtAt prog w s₂ κ kd)
    (hkk : 2 ≤ vs.length → ∀ (A : Around) (E : Value → Shared → Prop) (s₂ : Shared) {Q : SortKind → Shared → Prop}, KeepsTups s.heap s₂.heap → Q kd s₂ → wpAny (model prog w) A (keyKind' vs.toArray) Q E s₂) (hL : vs.length ≤ sizeLine)
    (h : ∀ st' : SortSt, (arrOf st').Perm (pairsOf vs) → SortedToK κ (arrOf st') (pairsOf vs).size → Stable κ (arrOf st') (pairsOf vs) → Q (.ref (s.heap.objs.size + 1)) { s with heap := sortedAll s.heap vs ((arrOf st').map (·.2)) }) :
    wpAny (model prog w) A (call (.builtin "sorted") [.ref l]) Q E s := by
  refine Calls.call_function_entry kind_sorted plain_sorted entry_sorted (args_sorted1 _) ?_
  unfold Builtin.«sorted»
  refine wpAny_bind (m := checkCount "sorted" 1 1 _) (wpAny_pure ?_)
  refine wpAny_bind (collect_tup hl ?_ hL)
  refine wpAny_bind (wpAny_newList ?_)
  have hsz : ((s.heap.push (seqObj "list" #[] 0)).update s.heap.objs.size (Obj.mapSeq (· ++ vs.toArray))).objs.size = s.heap.objs.size + 1 := by
    rw [Heap.size_update, size_push']
  have hoL : (((s.heap.push (seqObj "list" #[] 0)).update s.heap.objs.size (Obj.mapSeq (· ++ vs.toArray))).push (seqObj "list" vs.toArray 0)).get? (s.heap.objs.size + 1) = some (seqObj "list" vs.toArray 0) := by
    rw [← hsz]; exact Heap.get?_push_size _ rfl
  show wpAny _ _ _ _ _ { s with heap := ((s.heap.push (seqObj "list" #[] 0)).update s.heap.objs.size (Obj.mapSeq (· ++ vs.toArray))).push (seqObj "list" vs.toArray 0) }
  have hnew : (s.heap.push (seqObj "list" #[] 0)).get? s.heap.objs.size = some (seqObj "list" #[] 0) := Heap.get?_push_size _ rfl
  have k0 : KeepsTups s.heap (((s.heap.push (seqObj "list" #[] 0)).update s.heap.objs.size (Obj.mapSeq (· ++ vs.toArray))).push (seqObj "list" vs.toArray 0)) :=
    ((KeepsTups.push _ _).trans (KeepsTups.update _ hnew not_tuple_list)).trans (KeepsTups.push _ _)
  have k6 := k0.trans (keeps_sort6 (vs := vs) hoL)
  rw [hsz]
  refine wpAny_bind (wpAny_holding (wpAny_call_entry slot_list_sort ⟨_, hoL, rfl⟩ entry_list_sort (list_sort_treeG (κ := κ) (kd := kd) hoL h0 ?ordG ?keyG hL fun st' a1 a2 a3 => ⟨_, rfl, ?retG⟩) (args_list_sort _)))
  case ordG => exact hO _ k6
  case keyG =>
    intro h2 R hq
    exact hkk h2 _ _ _ k6 hq
  case retG => exact wpAny_pure ⟨_, rfl, h st' a1 a2 a3⟩
theorem sortedT_tups {shape : Nat → Bool} {l : Addr} {vs fs : List Value} {Q : Value → Shared → Prop} (hl : s.heap.IsTuple l vs.toArray)
    (ht : TupsOf s.heap shape vs fs) (hk : ∀ v, v ∈ vs → ∃ l, tupKeyC s.heap shape v = some l) (hL : vs.length ≤ sizeLine)
    (h : ∀ st' : SortSt, (arrOf st').Perm (pairsOf vs) → SortedToK (tupKindC s.heap shape) (arrOf st') (pairsOf vs).size → Stable (tupKindC s.heap shape) (arrOf st') (pairsOf vs) →
      Q (.ref (s.heap.objs.size + 1)) { s with heap := sortedAll s.heap vs ((arrOf st').map (·.2)) }) :
    wpAny (model prog w) A (call (.builtin "sorted") [.ref l]) Q E s :=
  sortedT_G hl (tupKeys hk) (fun s₂ k => tupC_ltAt (s := s₂) true k)
    (fun h2 _ _ s₂ _ k hq => tup_kind (s := s₂) (by rw [TupsOf.length ht]; omega) (TupsOf.keep k ht) hq) hL h
end
open PySem PySem.Spec PyProof.Rows L2 RZ
section
variable {X : Cx} {pins : List (Addr × Obj)} {σ : L2.St} {H : Hp} {s : Shared}
theorem tups_all {h : Heap} {sh : Nat → Bool} : ∀ {vs : List Value}, (∀ v ∈ vs, ∃ f, PyProof.Rows.TupOf h sh v f) → ∃ fs, PyProof.Rows.TupsOf h sh vs fs
  | [], _ => ⟨[], .nil⟩
  | v :: vs, hv => by
    obtain ⟨f, hf⟩ := hv v (List.mem_cons_self ..)
    obtain ⟨fs, hfs⟩ := tups_all fun x hx => hv x (List.mem_cons_of_mem _ hx)
    exact ⟨f :: fs, .cons hf hfs⟩
end
/-! ### over data -/
def shQ : Nat → Bool := fun _ => false
/-- a tuple of two numbers -/
def TupQ (K : PySem.W.Frag) (H : Hp) (x : V) (q : Int × Int) : Prop := ∃ t, x = .ref t ∧ SqT K H t [V.int q.1, V.int q.2]
section
variable {X : Cx} {pins : List (Addr × Obj)} {σ : L2.St} {H : Hp} {s : Shared}
theorem tupQ_raw (I : Inv X pins σ H s) {t : Addr} {q : Int × Int} (h : SqT X.K H t [V.int q.1, V.int q.2]) :
    G.tupKeyC s.heap shQ (.ref t) = some [Sum.inl q.1, Sum.inl q.2] ∧ ∃ f, PyProof.Rows.TupOf s.heap shQ (.ref t) f := by
  obtain ⟨its, rv, ⟨o, ho, hc, n, hd⟩, _⟩ := I.tuple h
  match its, rv with
  | [_, _], .cons r1 (.cons r2 .nil) =>
    obtain ⟨t1, rfl⟩ := r1
    obtain ⟨t2, rfl⟩ := r2
    refine ⟨?_, .int q.1 t1, t, o, _, n, rfl, ho, hc, hd, rfl, fun _ => ⟨_, _, rfl⟩, fun z => absurd z (by decide)⟩
    unfold G.tupKeyC
    have e1 : G.isTupObj s.heap (.ref t) = true := by simp [G.isTupObj, ho, hc]
    rw [if_pos e1]
    simp only [PyProof.Rows.tupKey, ho, hd]
    rfl
def rSortQ (K : PySem.W.Frag) : List V → Hp → VK → Prop := fun vs H Q => ∃ (a : Addr) (xs : List V), vs = [V.ref a] ∧ SqT K H a xs ∧ (∀ x ∈ xs, ∃ q, TupQ K H x q) ∧
  ∀ (ys : List V) (p : Addr), ys.Perm xs → ys.Pairwise (fun x y => ∀ n m, TupQ K H x n → TupQ K H y m → lePr n m = true) → H p = none → Q (.ref p) (upd H p (.lst ys))
theorem cr_sortQ0 : CallR X (.builtin "sorted") (rSortQ X.K) := by
  intro pins s σ H vs us Q I r h
  obtain ⟨a, xs, rfl, hs, hx, q⟩ := h
  obtain ⟨its, rv, hl, hz⟩ := I.tuple hs
  rw [Vals.ref1 r]
  obtain ⟨e1, e2⟩ := bkV_refs rv fun x m => by
    obtain ⟨ns, t, e, _⟩ := hx x m
    exact ⟨t, e⟩
  have raw : ∀ v ∈ its, ∃ t q, v = Value.ref t ∧ TupQ X.K H (.ref t) q ∧ G.tupKeyC s.heap shQ v = some [Sum.inl q.1, Sum.inl q.2] ∧ ∃ f, PyProof.Rows.TupOf s.heap shQ v f := fun v hv => by
    obtain ⟨t, rfl⟩ := e2 v hv
    have hm : V.ref t ∈ xs := by
      rw [e1]
      exact List.mem_map.mpr ⟨_, hv, rfl⟩
    obtain ⟨q, t', e, ht⟩ := hx _ hm
    cases e
    obtain ⟨k1, k2⟩ := tupQ_raw I ht
    exact ⟨t, q, rfl, ⟨t, rfl, ht⟩, k1, k2⟩
  obtain ⟨fs, hfs⟩ := tups_all (vs := its) fun v hv => by obtain ⟨_, _, _, _, _, k⟩ := raw v hv; exact k
  refine sortedT_tups (shape := shQ) hl hfs (fun v hv => by obtain ⟨_, _, _, _, k, _⟩ := raw v hv; exact ⟨_, k⟩) (by rw [← rv.length]; exact hz) fun st' hp hso _ => ?_
  obtain ⟨ep, he'⟩ := PyProof.Rows.sortedAll_at s.heap its ((arrOf st').map (·.2))
  have hpl : (arrOf st').toList.Perm (its.zip its) := by
    have e := Array.perm_iff_toList_perm.mp hp
    rw [pairsOf_toList] at e
    exact e
  have h12 : ∀ x ∈ (arrOf st').toList, x.1 = x.2 ∧ x.1 ∈ its := fun x hx' => mem_zip_self (hpl.mem_iff.mp hx')
  have hzs : (its.zip its).map (·.2) = its := by
    rw [List.map_snd_zip]; exact Nat.le_refl _
  have h1 : ((arrOf st').map (·.2)).toList.Perm its := by
    rw [Array.toList_map]
    have := hpl.map (·.2)
    rwa [hzs] at this
  have h3 : ∀ u ∈ ((arrOf st').map (·.2)).toList, ∃ a, u = Value.ref a := fun u hu => e2 u (h1.mem_iff.mp hu)
  have hpp : (((arrOf st').map (·.2)).toList.map bkV).Perm xs := by
    rw [e1]
    exact h1.map bkV
  have hlen : (((arrOf st').map (·.2)).toList.map bkV).length ≤ sizeLine := by
    rw [hpp.length_eq]
    exact hz
  refine ⟨.ref _, upd H (s.heap.objs.size + 1) (.lst (((arrOf st').map (·.2)).toList.map bkV)), I.laid (t' := s.toks) (fun _ _ => PyProof.Rows.sortedAll_old) (Nat.le_succ _) ⟨hlen, ((arrOf st').map (·.2)).toList, ep, bkV_vals h3, he'⟩, rfl, q _ _ hpp ?_ (I.hok.fresh (Nat.le_succ _))⟩
  rw [Array.toList_map, List.map_map, List.pairwise_map]
  rw [List.pairwise_iff_getElem]
  intro i j hi hj hij n m hn hm
  have hi' : i < (arrOf st').size := by simpa using hi
  have hj' : j < (arrOf st').size := by simpa using hj
  have hsz : (arrOf st').size = (pairsOf its).size := hp.size_eq
  have hk := hso i j (Nat.le_of_lt hij) (by omega)
  have key : ∀ (i : Nat) (hi : i < (arrOf st').toList.length) (n : Int × Int), TupQ X.K H ((bkV ∘ (·.2)) (arrOf st').toList[i]) n → KK (G.tupKindC s.heap shQ) (arrOf st') i = [Sum.inl n.1, Sum.inl n.2] := fun i hi n ⟨t, et, ht⟩ => by
    obtain ⟨a1, a2⟩ := h12 _ (List.getElem_mem hi)
    have eu : (arrOf st').toList[i].2 = Value.ref t := bkV_ref et
    obtain ⟨k1, _⟩ := tupQ_raw I ht
    unfold KK
    have e0 : (arrOf st')[i]? = some (arrOf st').toList[i] := by rw [← Array.getElem?_toList, List.getElem?_eq_getElem hi]
    rw [e0]
    show ((G.tupKeyC s.heap shQ (arrOf st').toList[i].1).getD []) = _
    rw [a1, eu, k1]; rfl
  have ki := key i hi n hn
  have kj := key j hj m hm
  have hb : (G.tupKindC s.heap shQ).blt (KK (G.tupKindC s.heap shQ) (arrOf st') j) (KK (G.tupKindC s.heap shQ) (arrOf st') i) = false := hk
  rw [ki, kj] at hb
  have hb2 : PyProof.Rows.lexLt PyProof.Rows.itemOrd [Sum.inl m.1, Sum.inl m.2] [Sum.inl n.1, Sum.inl n.2] = false := hb
  obtain ⟨b1, b2⟩ := PyProof.Rows.lex_false.mp hb2
  have b1' : decide (m.1 < n.1) = false := b1
  rw [lePr_iff]
  have b1'' : ¬ m.1 < n.1 := by simpa using b1'
  rcases b2 with b2 | b2
  · have b2' : decide (n.1 < m.1) = true := b2
    exact .inl (by simpa using b2')
  · have b3 := (PyProof.Rows.lex_false.mp b2).1
    have b3' : decide (m.2 < n.2) = false := b3
    have b3'' : ¬ m.2 < n.2 := by simpa using b3'
    omega
end
def gSortQ : GN := fun S xs => match xs with
  | [.tup ds] => (prsOf ds).map fun ps => .l ((sortP ps).map prV)
  | _ => none
theorem gSortQ_inv {S : Store} {ds : List Val} {r : Cell} (h : gSortQ S ds = some r) : ∃ ps, ds = [.tup (ps.map prV)] ∧ r = .l ((sortP ps).map prV) := by
  unfold gSortQ at h
  split at h
  · rename_i es
    obtain ⟨ps, h1, rfl⟩ := Option.map_eq_some_iff.mp h
    exact ⟨ps, by rw [prsOf_some h1], rfl⟩
  · cases h
theorem o_sortQ {S : Store} {ps : List (Int × Int)} : gSortQ S [.tup (ps.map prV)] = some (.l ((sortP ps).map prV)) := by
  unfold gSortQ
  dsimp only
  rw [prsOf_map]; rfl
section
variable {K : PySem.W.Frag} {H : Hp} {L : LP} {ρ : List Addr}
theorem qs_at : ∀ {vs : List V} {ps : List (Int × Int)}, VRs K H L ρ vs (ps.map prV) → Paired (fun x p => TupQ K H x p ∧ VR K H L ρ x (prV p)) vs ps
  | _, [], h => by cases h; exact .nil
  | _, p :: ps, h => by
    cases h with
    | cons h1 r =>
      refine .cons ⟨?_, h1⟩ (qs_at r)
      cases h1 with
      | @tup a xs ds h2 r2 =>
        obtain ⟨v, w, rfl, k1, k2⟩ := r2.two
        rw [k1.int_inv, k2.int_inv] at h2
        exact ⟨a, rfl, h2.sq⟩
end
theorem cr_sortQ {X : Cx} : CallR X (.builtin "sorted") (rDN X.K (byN gSortQ)) := by
  intro pins s σ H xs us Q I r h
  obtain ⟨L, ρ, O, S, ds, q, c, wx, ⟨r', hg0, hq⟩, k⟩ := h
  obtain ⟨ps, rfl, rfl⟩ := gSortQ_inv hg0
  obtain ⟨v, rfl, vx⟩ := wx.one
  cases vx with
  | @tup a vs _ h2 rr =>
    obtain ⟨zs, z1, z2, zF⟩ := zip_of (qs_at rr)
    subst z1; subst z2
    refine cr_sortQ0 pins s σ H _ us Q I r ⟨a, _, rfl, h2.sq, fun x hx => ?_, fun ys p hperm hpw hf => ?_⟩
    · obtain ⟨z, hz, rfl⟩ := List.mem_map.mp hx
      exact ⟨_, (zF z hz).1⟩
    · obtain ⟨ws, w1, w2⟩ := perm_lift Prod.fst hperm zs rfl
      subst w2
      have hmem : ∀ z ∈ ws, z ∈ zs := fun z hz => w1.mem_iff.mp hz
      have hsort : (ws.map Prod.snd).Pairwise fun a b => lePr a b = true := by
        rw [List.pairwise_map] at hpw ⊢
        exact List.Pairwise.imp_of_mem (fun {x y} hx hy h => h _ _ (zF x (hmem x hx)).1 (zF y (hmem y hy)).1) hpw
      have hout := sortP_unique (w1.map Prod.snd) hsort
      have vout : VRs X.K H (fun a => L a ∨ O a) ρ (ws.map Prod.fst) ((sortP (zs.map Prod.snd)).map prV) := by
        rw [← hout]
        clear hout hsort hperm hpw w1
        induction ws with
        | nil => exact .nil
        | cons w ws ih => exact .cons (zF w (hmem w (List.mem_cons_self ..))).2 (ih fun z hz => hmem z (List.mem_cons_of_mem _ hz))
      exact k.lst c hq vout p hf
end DL
/-! DL58: sorted(list of triples of numbers). -/
namespace DL
open PySem PySem.Spec PyProof.Rows L2 RZ
def shT : Nat → Bool := fun _ => false
/-- a tuple of two numbers -/
def TupT (K : PySem.W.Frag) (H : Hp) (x : V) (q : Int × Int × Int) : Prop := ∃ t, x = .ref t ∧ SqT K H t [V.int q.1, V.int q.2.1, V.int q.2.2]
section
variable {X : Cx} {pins : List (Addr × Obj)} {σ : L2.St} {H : Hp} {s : Shared}
theorem tupT_raw (I : Inv X pins σ H s) {t : Addr} {q : Int × Int × Int} (h : SqT X.K H t [V.int q.1, V.int q.2.1, V.int q.2.2]) :
    G.tupKeyC s.heap shT (.ref t) = some [Sum.inl q.1, Sum.inl q.2.1, Sum.inl q.2.2] ∧ ∃ f, PyProof.Rows.TupOf s.heap shT (.ref t) f := by
  obtain ⟨its, rv, ⟨o, ho, hc, n, hd⟩, _⟩ := I.tuple h
  match its, rv with
  | [_, _, _], .cons r1 (.cons r2 (.cons r3 .nil)) =>
    obtain ⟨t1, rfl⟩ := r1
    obtain ⟨t2, rfl⟩ := r2
    obtain ⟨t3, rfl⟩ := r3
    refine ⟨?_, .int q.1 t1, t, o, _, n, rfl, ho, hc, hd, rfl, fun _ => ⟨_, _, rfl⟩, fun z => absurd z (by decide)⟩
    unfold G.tupKeyC
    have e1 : G.isTupObj s.heap (.ref t) = true := by simp [G.isTupObj, ho, hc]
    rw [if_pos e1]
    simp only [PyProof.Rows.tupKey, ho, hd]
    rfl
def rSortT (K : PySem.W.Frag) : List V → Hp → VK → Prop := fun vs H Q => ∃ (a : Addr) (xs : List V), vs = [V.ref a] ∧ SqL K H a xs ∧ (∀ x ∈ xs, ∃ q, TupT K H x q) ∧
  ∀ (ys : List V) (p : Addr), ys.Perm xs → ys.Pairwise (fun x y => ∀ n m, TupT K H x n → TupT K H y m → lePr (n.1, n.2.1) (m.1, m.2.1) = true) → H p = none → Q (.ref p) (upd H p (.lst ys))
theorem cr_sortT0 : CallR X (.builtin "sorted") (rSortT X.K) := by
  intro pins s σ H vs us Q I r h
  obtain ⟨a, xs, rfl, hs, hx, q⟩ := h
  obtain ⟨its, rv, hl, hz⟩ := I.list hs
  rw [Vals.ref1 r]
  obtain ⟨e1, e2⟩ := bkV_refs rv fun x m => by
    obtain ⟨ns, t, e, _⟩ := hx x m
    exact ⟨t, e⟩
  have raw : ∀ v ∈ its, ∃ t q, v = Value.ref t ∧ TupT X.K H (.ref t) q ∧ G.tupKeyC s.heap shT v = some [Sum.inl q.1, Sum.inl q.2.1, Sum.inl q.2.2] ∧ ∃ f, PyProof.Rows.TupOf s.heap shT v f := fun v hv => by
    obtain ⟨t, rfl⟩ := e2 v hv
    have hm : V.ref t ∈ xs := by
      rw [e1]
      exact List.mem_map.mpr ⟨_, hv, rfl⟩
    obtain ⟨q, t', e, ht⟩ := hx _ hm
    cases e
    obtain ⟨k1, k2⟩ := tupT_raw I ht
    exact ⟨t, q, rfl, ⟨t, rfl, ht⟩, k1, k2⟩
  obtain ⟨fs, hfs⟩ := tups_all (vs := its) fun v hv => by obtain ⟨_, _, _, _, _, k⟩ := raw v hv; exact k
  refine G.sorted_tups (shape := shT) hl.isList hfs (fun v hv => by obtain ⟨_, _, _, _, k, _⟩ := raw v hv; exact ⟨_, k⟩) (by rw [← rv.length]; exact hz) fun st' hp hso _ => ?_
  obtain ⟨ep, he'⟩ := PyProof.Rows.sortedAll_at s.heap its ((arrOf st').map (·.2))
  have hpl : (arrOf st').toList.Perm (its.zip its) := by
    have e := Array.perm_iff_toList_perm.mp hp
    rw [pairsOf_toList] at e
    exact e
  have h12 : ∀ x ∈ (arrOf st').toList, x.1 = x.2 ∧ x.1 ∈ its := fun x hx' => mem_zip_self (hpl.mem_iff.mp hx')
  have hzs : (its.zip its).map (·.2) = its := by
    rw [List.map_snd_zip]; exact Nat.le_refl _
  have h1 : ((arrOf st').map (·.2)).toList.Perm its := by
    rw [Array.toList_map]
    have := hpl.map (·.2)
    rwa [hzs] at this
  have h3 : ∀ u ∈ ((arrOf st').map (·.2)).toList, ∃ a, u = Value.ref a := fun u hu => e2 u (h1.mem_iff.mp hu)
  have hpp : (((arrOf st').map (·.2)).toList.map bkV).Perm xs := by
    rw [e1]
    exact h1.map bkV
  have hlen : (((arrOf st').map (·.2)).toList.map bkV).length ≤ sizeLine := by
    rw [hpp.length_eq]
    exact hz
  refine ⟨.ref _, upd H (s.heap.objs.size + 1) (.lst (((arrOf st').map (·.2)).toList.map bkV)), I.laid (t' := s.toks) (fun _ _ => PyProof.Rows.sortedAll_old) (Nat.le_succ _) ⟨hlen, ((arrOf st').map (·.2)).toList, ep, bkV_vals h3, he'⟩, rfl, q _ _ hpp ?_ (I.hok.fresh (Nat.le_succ _))⟩
  rw [Array.toList_map, List.map_map, List.pairwise_map]
  rw [List.pairwise_iff_getElem]
  intro i j hi hj hij n m hn hm
  have hi' : i < (arrOf st').size := by simpa using hi
  have hj' : j < (arrOf st').size := by simpa using hj
  have hsz : (arrOf st').size = (pairsOf its).size := hp.size_eq
  have hk := hso i j (Nat.le_of_lt hij) (by omega)
  have key : ∀ (i : Nat) (hi : i < (arrOf st').toList.length) (n : Int × Int × Int), TupT X.K H ((bkV ∘ (·.2)) (arrOf st').toList[i]) n → KK (G.tupKindC s.heap shT) (arrOf st') i = [Sum.inl n.1, Sum.inl n.2.1, Sum.inl n.2.2] := fun i hi n ⟨t, et, ht⟩ => by
    obtain ⟨a1, a2⟩ := h12 _ (List.getElem_mem hi)
    have eu : (arrOf st').toList[i].2 = Value.ref t := bkV_ref et
    obtain ⟨k1, _⟩ := tupT_raw I ht
    unfold KK
    have e0 : (arrOf st')[i]? = some (arrOf st').toList[i] := by rw [← Array.getElem?_toList, List.getElem?_eq_getElem hi]
    rw [e0]
    show ((G.tupKeyC s.heap shT (arrOf st').toList[i].1).getD []) = _
    rw [a1, eu, k1]; rfl
  have ki := key i hi n hn
  have kj := key j hj m hm
  have hb : (G.tupKindC s.heap shT).blt (KK (G.tupKindC s.heap shT) (arrOf st') j) (KK (G.tupKindC s.heap shT) (arrOf st') i) = false := hk
  rw [ki, kj] at hb
  have hb2 : PyProof.Rows.lexLt PyProof.Rows.itemOrd [Sum.inl m.1, Sum.inl m.2.1, Sum.inl m.2.2] [Sum.inl n.1, Sum.inl n.2.1, Sum.inl n.2.2] = false := hb
  obtain ⟨b1, b2⟩ := PyProof.Rows.lex_false.mp hb2
  have b1' : decide (m.1 < n.1) = false := b1
  rw [lePr_iff]
  dsimp only
  have b1'' : ¬ m.1 < n.1 := by simpa using b1'
  rcases b2 with b2 | b2
  · have b2' : decide (n.1 < m.1) = true := b2
    exact .inl (by simpa using b2')
  · have b3 := (PyProof.Rows.lex_false.mp b2).1
    have b3' : decide (m.2.1 < n.2.1) = false := b3
    have b3'' : ¬ m.2.1 < n.2.1 := by simpa using b3'
    omega
end
abbrev T3 := Int × Int × Int
def tpV (q : T3) : Val := .tup [.int q.1, .int q.2.1, .int q.2.2]
def tpsOf : List Val → Option (List T3)
  | [] => some []
  | .tup [.int a, .int b, .int c] :: ds => (tpsOf ds).map ((a, b, c) :: ·)
  | _ => none
theorem tpsOf_some : ∀ {ds : List Val} {ps : List T3}, tpsOf ds = some ps → ds = ps.map tpV
  | [], ps, h => by simp [tpsOf] at h; subst h; rfl
  | d :: ds, ps, h => by
    unfold tpsOf at h
    split at h
    · rename_i e; cases e
    · rename_i e1
      obtain ⟨qs, h1, rfl⟩ := Option.map_eq_some_iff.mp h
      simp only [List.cons.injEq] at e1
      obtain ⟨rfl, rfl⟩ := e1
      rw [tpsOf_some h1]; rfl
    · cases h
def leT (a b : T3) : Bool := lePr (a.1, a.2.1) (b.1, b.2.1)
def sortT (ps : List T3) : List T3 := ps.mergeSort leT
theorem sortT_perm (ps : List T3) : (sortT ps).Perm ps := List.mergeSort_perm _ _
theorem sortT_sorted (ps : List T3) : (sortT ps).Pairwise fun a b => leT a b = true := List.pairwise_mergeSort (le := leT) (fun a b c h1 h2 => lePr_trans _ _ _ h1 h2) (fun a b => lePr_total _ _) _
def kT (q : T3) : Int × Int := (q.1, q.2.1)
theorem kT_inj {α β : Type} {f : α → β} : ∀ {ps : List α}, (ps.map f).Nodup → ∀ a ∈ ps, ∀ b ∈ ps, f a = f b → a = b
  | p :: ps, hn, a, ha, b, hb, e => by
    simp only [List.map_cons, List.nodup_cons] at hn
    rcases List.mem_cons.mp ha with ha' | ha' <;> rcases List.mem_cons.mp hb with hb' | hb'
    · rw [ha', hb']
    · exact absurd (List.mem_map.mpr ⟨b, hb', by rw [← ha']; exact e.symm⟩) hn.1
    · exact absurd (List.mem_map.mpr ⟨a, ha', by rw [← hb']; exact e⟩) hn.1
    · exact kT_inj hn.2 a ha' b hb' e
theorem sortT_unique {ps qs : List T3} (hn : (ps.map kT).Nodup) (h1 : qs.Perm ps) (h2 : qs.Pairwise fun a b => leT a b = true) : qs = sortT ps := by
  refine List.Perm.eq_of_pairwise (le := fun a b => leT a b = true) (fun a b ha hb k1 k2 => ?_) h2 (sortT_sorted ps) (h1.trans (sortT_perm ps).symm)
  have e : kT a = kT b := lePr_anti k1 k2
  exact kT_inj hn a (h1.mem_iff.mp ha) b ((sortT_perm ps).mem_iff.mp hb) e
def gSortT : GN := fun S xs => match xs with
  | [.lst ds] => (tpsOf ds).bind fun ps => if (ps.map kT).Nodup then some (.l ((sortT ps).map tpV)) else none
  | _ => none
theorem gSortT_inv {S : Store} {ds : List Val} {r : Cell} (h : gSortT S ds = some r) : ∃ ps, ds = [.lst (ps.map tpV)] ∧ (ps.map kT).Nodup ∧ r = .l ((sortT ps).map tpV) := by
  unfold gSortT at h
  split at h
  · rename_i es
    obtain ⟨ps, h1, h2⟩ := Option.bind_eq_some_iff.mp h
    split at h2
    · rename_i hn
      cases h2
      exact ⟨ps, by rw [tpsOf_some h1], hn, rfl⟩
    · cases h2
  · cases h
section
variable {K : PySem.W.Frag} {H : Hp} {L : LP} {ρ : List Addr}
theorem VRs.three {vs : List V} {a b c : Val} (h : VRs K H L ρ vs [a, b, c]) : ∃ x y z, vs = [x, y, z] ∧ VR K H L ρ x a ∧ VR K H L ρ y b ∧ VR K H L ρ z c := by
  cases h with
  | cons h1 r => cases r with
    | cons h2 r => cases r with
      | cons h3 r => cases r; exact ⟨_, _, _, rfl, h1, h2, h3⟩
theorem ts_at : ∀ {vs : List V} {ps : List T3}, VRs K H L ρ vs (ps.map tpV) → Paired (fun x p => TupT K H x p ∧ VR K H L ρ x (tpV p)) vs ps
  | _, [], h => by cases h; exact .nil
  | _, p :: ps, h => by
    cases h with
    | cons h1 r =>
      refine .cons ⟨?_, h1⟩ (ts_at r)
      cases h1 with
      | @tup a xs ds h2 r2 =>
        obtain ⟨u, v, w, rfl, k1, k2, k3⟩ := r2.three
        rw [k1.int_inv, k2.int_inv, k3.int_inv] at h2
        exact ⟨a, rfl, h2.sq⟩
end
theorem cr_sortT {X : Cx} : CallR X (.builtin "sorted") (rDN X.K (byN gSortT)) := by
  intro pins s σ H xs us Q I r h
  obtain ⟨L, ρ, O, S, ds, q, c, wx, ⟨r', hg0, hq⟩, k⟩ := h
  obtain ⟨ps, rfl, hnd, rfl⟩ := gSortT_inv hg0
  obtain ⟨v, rfl, vx⟩ := wx.one
  cases vx with
  | @lst a vs _ hl0 h2 rr =>
    obtain ⟨zs, z1, z2, zF⟩ := zip_of (ts_at rr)
    subst z1; subst z2
    refine cr_sortT0 pins s σ H _ us Q I r ⟨a, _, rfl, SqL.of h2, fun x hx => ?_, fun ys p hperm hpw hf => ?_⟩
    · obtain ⟨z, hz, rfl⟩ := List.mem_map.mp hx
      exact ⟨_, (zF z hz).1⟩
    · obtain ⟨ws, w1, w2⟩ := perm_lift Prod.fst hperm zs rfl
      subst w2
      have hmem : ∀ z ∈ ws, z ∈ zs := fun z hz => w1.mem_iff.mp hz
      have hsort : (ws.map Prod.snd).Pairwise fun a b => leT a b = true := by
        rw [List.pairwise_map] at hpw ⊢
        exact List.Pairwise.imp_of_mem (fun {x y} hx hy h => h _ _ (zF x (hmem x hx)).1 (zF y (hmem y hy)).1) hpw
      have hout := sortT_unique hnd (w1.map Prod.snd) hsort
      have vout : VRs X.K H (fun a => L a ∨ O a) ρ (ws.map Prod.fst) ((sortT (zs.map Prod.snd)).map tpV) := by
        rw [← hout]
        clear hout hsort hperm hpw w1
        induction ws with
        | nil => exact .nil
        | cons w ws ih => exact .cons (zF w (hmem w (List.mem_cons_self ..))).2 (ih fun z hz => hmem z (List.mem_cons_of_mem _ hz))
      exact k.lst c hq vout p hf
end DL
/-! S61: net flows. -/
namespace DL
open PySem PySem.Spec PyProof.Rows L2 RZ
theorem Joins.nodupE {o : List Int} {E : List (Int × Int)} (h : Joins o E) : o.Nodup → E.Nodup := by
  induction h with
  | one x => intro _; exact List.nodup_nil
  | skip x _ ih => intro nd; exact ih (List.nodup_append.mp nd).1
  | @door o E a x hj ha ih =>
    intro nd
    have n := List.nodup_append.mp nd
    refine List.nodup_append.mpr ⟨ih n.1, by simp, fun p hp q hq e => ?_⟩
    rw [List.mem_singleton.mp hq] at e
    have hx : x ∉ o := fun hx => n.2.2 x hx x (by simp) rfl
    obtain ⟨m1, m2⟩ := hj.mem p hp
    rw [e] at m1 m2
    have hxx : x = p.1 ∨ x = p.2 := by
      have hne : x ≠ a := fun z => hx (by rw [z]; exact ha)
      rw [e]; dsimp only; split
      · exact .inl rfl
      · exact .inr (by rw [if_pos (by omega)])
    rw [← e] at m1 m2
    rcases hxx with h | h
    · exact hx (by rw [h]; exact m1)
    · exact hx (by rw [h]; exact m2)
/-- doors in order -/
structure Fd (n : Int) (D : List (Int × Int)) : Prop where
  hs : Hs n D
  srt : D.Pairwise fun a b => lePr a b = true
  nd : D.Nodup
  lt : ∀ p ∈ D, p.1 < p.2
theorem House.fd {n : Int} {D : List (Int × Int)} (h : House n D) (hn : n ≤ 60) : Fd n D := by
  refine ⟨h.hs hn, ?_, ?_, h.lt⟩
  · obtain ⟨o, E, h1, h2, rfl⟩ := h.ex
    exact sortP_sorted E
  · obtain ⟨o, E, h1, h2, rfl⟩ := h.ex
    exact (sortP_perm E).nodup_iff.mpr (h2.nodupE (h1.nodup_iff.mpr (iota_nd n)))
end DL
/-! DL59: a sign, some times. -/
namespace DL
open PySem PySem.Spec PyProof.Rows L2 RZ
end DL
/-! DL64: texts: f-strings, str(int), int(text), split; tuples of ints in order. -/
namespace DL
open PySem PySem.Spec PyProof.Rows L2 RZ
/-! ### f-strings -/
def fmtS : Val → Option Str
  | .str y => if y.length ≤ sizeLine then some y else none
  | .int i => if i.natAbs.log2 < 1920 then some (toString i : String) else none
  | _ => none
def wFmt (w : Wp) : Wp := fun δ S Q X => wV w δ S (fun d S1 => ∃ y, fmtS d = some y ∧ Q (.v (.str y)) S1) X
def wJsGo : List Wp → Str → DEnv → Store → (Str → Store → Prop) → XQ → Prop
  | [], acc, _, S, Q, _ => Q acc S
  | w :: ws, acc, δ, S, Q, X => wV w δ S (fun d S1 => ∃ y, d = .str y ∧ (acc ++ y).length ≤ sizeLine ∧ wJsGo ws (acc ++ y) δ S1 Q X) X
def wJs (ws : List Wp) : Wp := fun δ S Q X => wJsGo ws Str.empty δ S (fun y S1 => Q (.v (.str y)) S1) X
section
variable {K : PySem.W.Frag} {mg : Str → Option Value} {W : WX}
inductive SndJ (K : PySem.W.Frag) (mg : Str → Option Value) (W : WX) : List TE → List Wp → Prop where
  | nil : SndJ K mg W [] []
  | cons {t : TE} {w : Wp} {ts : List TE} {ws : List Wp} : Snd K mg W t w → SndJ K mg W ts ws → SndJ K mg W (t :: ts) (w :: ws)
theorem SndJ.go {ts : List TE} {ws : List Wp} (h : SndJ K mg W ts ws) : ∀ (acc : Str) g H L ρ σ δ S, Rep K g H L ρ σ δ S → ∀ Q Xq, wJsGo ws acc δ S Q Xq → XOK K mg W g Xq →
    ∀ P : Str → Hp → Prop, (∀ y S', Q y S' → ∀ H' L' ρ', Stp K H L ρ H' L' ρ' → Rep K g H' L' ρ' σ δ S' → P y H') → tJs ts acc σ H P := by
  induction h with
  | nil =>
    intro acc g H L ρ σ δ S rep Q Xq hw hx P hP
    exact hP acc S hw H L ρ .refl rep
  | cons h r ih =>
    intro acc g H L ρ σ δ S rep Q Xq hw hx P hP
    refine h.seq rep hw hx fun x S1 hq u H1 L1 ρ1 st1 rep1 ru => ?_
    obtain ⟨y, rfl, hz, hq⟩ := hq
    have eu := ru.str_inv
    subst eu
    exact ⟨y, rfl, hz, ih _ g H1 L1 ρ1 σ δ S1 rep1 Q Xq hq hx P fun y' S' h' H' L' ρ' st' rep' => hP y' S' h' H' L' ρ' (st1.trans st') rep'⟩
end
section
variable {X : Cx} {W : WX} {o e v1 v2 : Expr} {rest : List Expr} {apos pos : Pos} {w wa wb : Wp}
/-- the parts of an f-string -/
inductive JD (X : Cx) (W : WX) : List Expr → List Wp → Prop where
  | nil : JD X W [] []
  | cons {e : Expr} {w : Wp} {es : List Expr} {ws : List Wp} : PED X W e w → JD X W es ws → JD X W (e :: es) (w :: ws)
theorem JD.un {es : List Expr} {ws : List Wp} (h : JD X W es ws) : ∃ ts, PJ X es ts ∧ SndJ X.K X.mg W ts ws := by
  induction h with
  | nil => exact ⟨[], .nil, .nil⟩
  | cons h r ih =>
    obtain ⟨ts, a, b⟩ := ih
    exact ⟨_ :: ts, .cons h a, .cons snd_tD b⟩
end
section
variable {δ : DEnv} {S : Store} {Q : CQ} {X : XQ} {we : Wp}
@[simp ↓] theorem s_fmt : wFmt we δ S Q X = we δ S (fun c S1 => match fmtS (fz c) with | some y => Q (.v (.str y)) S1 | none => False) X := by
  unfold wFmt wV
  congr 1; funext c S1
  cases e : fmtS (fz c) <;> simp [e]
@[simp ↓] theorem s_jsGo_cons {w : Wp} {ws : List Wp} {acc : Str} {Q : Str → Store → Prop} : wJsGo (w :: ws) acc δ S Q X = w δ S (fun c S1 => match fz c with | .str y => (acc ++ y).length ≤ sizeLine ∧ wJsGo ws (acc ++ y) δ S1 Q X | _ => False) X := by
  show wV w δ S _ X = _
  unfold wV
  congr 1; funext c S1
  cases fz c <;> simp
end
/-! ### str(int), int(text) -/
/-! ### x.split(sep) -/
def gSplit : Val → Val → Option Cell := fun x y => match x, y with
  | .str a, .str b => if (b.length == 0) = false ∧ a.length + 2 ≤ sizeLine then some (.l ((Txt.split a b).map Val.str)) else none
  | _, _ => none
def wSplit (wo we : Wp) : Wp := fun δ S Q X => wV wo δ S (fun x S1 => ∃ a, x = .str a ∧ wV we δ S1 (fun y S2 => ∃ c, gSplit x y = some c ∧ Q c S2) X) X
section
variable {δ : DEnv} {S : Store} {Q : CQ} {X : XQ} {wo we : Wp}
@[simp ↓] theorem s_split : wSplit wo we δ S Q X = wo δ S (fun c S1 => match fz c with | .str a => we δ S1 (fun c2 S2 => match gSplit (.str a) (fz c2) with | some c => Q c S2 | none => False) X | _ => False) X := by
  unfold wSplit wV
  congr 1; funext c S1
  cases fz c with
  | str a =>
    simp only [Val.str.injEq, exists_eq_left']
    have : (fun (c2 : Cell) (S2 : Store) => ∃ c_1, gSplit (Val.str a) (fz c2) = some c_1 ∧ Q c_1 S2) = fun c2 S2 => match gSplit (.str a) (fz c2) with | some c => Q c S2 | none => False := by
      funext c2 S2
      cases gSplit (.str a) (fz c2) <;> simp
    rw [this]
  | _ => simp
end
/-! ### tuples of ints in order -/
def leT0 (ns ms : List Int) : Bool := Ob.lexAt (fun j => decide (ns.getD j 0 = ms.getD j 0)) (fun j => decide (ns.getD j 0 ≤ ms.getD j 0)) (decide (ns.length ≤ ms.length)) 0 (min ns.length ms.length)
def gLeT : G2 := fun _ x y => match x, y with
  | .tup a, .tup b => (intsOf a).bind fun ns => (intsOf b).map fun ms => .v (.bl (leT0 ns ms))
  | _, _ => none
section
variable {X : Cx} {W : WX} {a b : Expr} {wa wb : Wp} {pos : Pos} {k : Nat}
theorem or_leT (hu : X.A.units < cLine) : OpR X (compareOp .LtE) (rD2 X.K (by2 gLeT)) := by
  intro pins s σ H x y v u Q I rx ry h
  obtain ⟨L, ρ, O, S, d, e, q, c, vx, vy, ⟨r, hg, hq⟩, k⟩ := h
  unfold gLeT at hg
  split at hg
  · obtain ⟨ns, h1, h2⟩ := Option.bind_eq_some_iff.mp hg
    obtain ⟨ms, h3, rfl⟩ := Option.map_eq_some_iff.mp h2
    cases vx with
    | @tup p xs _ hp rx1 =>
      cases vy with
      | @tup p2 ys _ hp2 ry1 =>
        have e1 := intsOf_vr rx1 h1
        have e2 := intsOf_vr ry1 h3
        subst e1 e2
        exact op_leT hu pins s σ H _ _ v u Q I rx ry ⟨p, p2, ns, ms, rfl, rfl, hp.sq, hp2.sq, k.same c hq (.bl _)⟩
  · cases hg
theorem t_leT (bd : Bd X W k) (ha : PED X W a wa) (hb : PED X W b wb) : PTD X W (.Compare a [.LtE] [b] pos) (wTst (w2 (by2 gLeT) wa wb)) := dt_cmp (or_leT (by have := bd.un; omega)) ha hb (nomark _)
end
theorem leT0_pr (a b c d : Int) : leT0 [a, b] [c, d] = if a = c then decide (b ≤ d) else decide (a ≤ c) := by
  simp [leT0, Ob.lexAt]
  by_cases h : a = c
  · rw [if_pos h, if_pos h]
    by_cases h2 : b = d
    · simp [h2]
    · simp [h2]
  · rw [if_neg h, if_neg h]
theorem o_leT_pr {S : Store} (p q : Int × Int) : gLeT S (.tup [.int p.1, .int p.2]) (.tup [.int q.1, .int q.2]) = some (.v (.bl (if p.1 = q.1 then decide (p.2 ≤ q.2) else decide (p.1 ≤ q.1)))) := by
  simp [gLeT, intsOf, leT0_pr]
end DL
/-! DL65: defs as values, called by a local name; < of tuples of ints. -/
namespace DL
open PySem PySem.Spec PyProof.Rows L2 RZ
/-! ### defs as values -/
def adrM : Option Value → Addr
  | some (.ref f) => f
  | _ => 0
/-- where a def of the module lies -/
def fam (mg : Str → Option Value) : Str → Addr := fun x => adrM (mg x)
/-- a call of the local in slot i, which holds the def at a -/
def wCallL (i : Nat) (a : Addr) (F : FSpec) (wr : WpA) : Wp := fun δ S Q X => δ[i]? = some (some (.v (.opq (.ref a)))) ∧ wCall F wr δ S Q X
section
variable {X : Cx} {k i : Nat} {f : Addr} {fd : FuncData} {ps : List Str} {sp : Sp} {x : Str} {p pos : Pos} {e : Expr} {es : List Expr} {t : TA}
theorem pe_callLG {EE : Sg → XK} (F : FnG X.prog X.w X.K X.mg X.base k f fd ps sp) (hr : Room k X.A) (hG : X.A.guards = some []) (hN : X.N[i]? = some x) (hv : Vis X.env.scope x) (hk : PySem.W.keepIn X.K (.ref f) = true) (hb : Binds X.K fd ps [])
    (hx : ∀ σ, PassesAt (L2.CX X.prog X.w) X σ (EE σ)) (ha : PA X (e :: es) t) (hdb : (x == ("__debug__" : Str)) = false) (hcd : (x == ("__classdict__" : Str)) = false) (he : starEach (e :: es) X.env = (false, eval e X.env) :: starEach es X.env) (hpl : (backTo pos (starEach es X.env)).any (·.1) = false) :
    PE X (.Call (.Name x p) (e :: es) [] pos) (fun σ H Q => σ[i]? = some (some (.ref f)) ∧ tCallS sp EE t σ H Q) := by
  constructor
  intro pins s σ H Q I h
  obtain ⟨hs, ht⟩ := h
  refine wpAny_Call_Name_kw (thn ((pe_var (pos := p) hN hv hdb hcd).run pins s σ H (fun v H1 => v = .ref f ∧ H1 = H) I ⟨.ref f, hs, rfl, rfl⟩) fun u s1 ⟨v, H1, I1, r1, q1⟩ => ?_)
  obtain ⟨rfl, rfl⟩ := q1
  cases r1
  refine PySem.W.callWith_K (h₀ := X.base) I.ok.mod.kin hk (thn (ha.run pos pins s1 σ _ _ I1 ht) ?_) he hpl
  rintro us s2 ⟨vs, H2, I2, r, q⟩
  exact ⟨I2.kIn, run_fnG F hr hG hb (hx σ) I2 r q⟩
end
section
variable {K : PySem.W.Frag} {mg : Str → Option Value} {W : WX}
theorem snd_callL {n i : Nat} {a : Addr} {F : FSpec} {t : TA} {wr : WpA} (hF : ∀ ds S Q X, F ds S Q X → ds.length = n) (ha : SndA K mg W t wr) : Snd K mg W (fun σ H Q => σ[i]? = some (some (.ref a)) ∧ tCallS (spD K mg n F) (WE W) t σ H Q) (wCallL i a F wr) := by
  intro g H L ρ σ δ S rep Q Xq hw hx P hP
  obtain ⟨h0, hw⟩ := hw
  refine ⟨?_, snd_call hF ha g H L ρ σ δ S rep Q Xq hw hx P hP⟩
  obtain ⟨u, e, r⟩ := rep.er.cell i _ h0
  have : u = .ref a := by cases r; rfl
  subst this
  cases q : σ[i]? with
  | none => rw [q] at e; cases e
  | some w => rw [q] at e; simp at e; rw [e]
end
section
variable {X : Cx} {W : WX} {k j : Nat} {x y : Str} {p pos : Pos} {e : Expr} {es : List Expr} {wr : WpA}
theorem fam_of {mg : Str → Option Value} {f : Addr} (h : mg y = some (.ref f)) : fam mg y = f := by simp [fam, adrM, h]
theorem e_callL {ps : List Str} {F : FSpec} (i : Nat) (y : Str) (bd : Bd X W k) (c : Cal X.prog X.w X.K X.mg X.base j y ps F) (hj : j ≤ k) (ha : PAD X W (e :: es) wr) (hN : X.N[i]? = some x := by rfl) (hv : Vis X.env.scope x := by first | exact Or.inl rfl | exact Or.inr (Or.inl rfl) | exact Or.inr (Or.inr rfl))
    (hdb : (x == ("__debug__" : Str)) = false := by decide) (hcd : (x == ("__classdict__" : Str)) = false := by decide)
    (he : starEach (e :: es) X.env = (false, eval e X.env) :: starEach es X.env := by rfl) (hpl : (backTo pos (starEach es X.env)).any (·.1) = false := by rfl) : PED X W (.Call (.Name x p) (e :: es) [] pos) (wCallL i (fam X.mg y) (fun ds S Q Xq => ds.length = ps.length ∧ F ds S Q Xq) wr) := by
  obtain ⟨f, fd, h1, h2, h3, h4⟩ := c.ex
  have FG : FnG X.prog X.w X.K X.mg X.base k f fd ps (spD X.K X.mg ps.length (fun ds S Q Xq => ds.length = ps.length ∧ F ds S Q Xq)) := by
    refine ⟨fun vs H Q E h => h2.len vs H Q E ?_, fun A o s H a us vs Q E hr hG he hb hv h => h2.run A o s H a us vs Q E (hr.mono hj) hG he hb hv ?_⟩
    all_goals
      obtain ⟨L, ρ, ds, S, Qd, Xd, q1, q2, q3, q4, q5⟩ := h
      exact ⟨L, ρ, ds, S, Qd, Xd, q1, q2, q3, q4.2, q5⟩
  rw [fam_of h1]
  obtain ⟨t, a1, a2⟩ := ha
  exact PE.toD (pe_callLG (EE := WE W) FG bd.room bd.g hN hv h3 h4 (fun σ => passAt bd.tk σ) a1 hdb hcd he hpl) (snd_callL (fun ds S Q X h => h.1) a2)
theorem e_fun {ps : List Str} {F : FSpec} (c : Cal X.prog X.w X.K X.mg X.base j x ps F) (hg : Gl X x := by rfl) (hd : (x == ("__debug__" : Str)) = false := by decide) : PED X W (.Name x pos) (wC (.opq (.ref (fam X.mg x)))) := by
  obtain ⟨f, fd, h1, h2, h3, h4⟩ := c.ex
  rw [fam_of h1]
  exact d_glob hg ⟨_, .ref f, h1, rfl, fun _ _ _ => .opq _⟩ hd
end
section
variable {δ : DEnv} {S : Store} {Q : CQ} {X : XQ} {wr : WpA} {i : Nat} {a : Addr} {F : FSpec}
@[simp ↓] theorem s_callL : wCallL i a F wr δ S Q X = (δ[i]? = some (some (.v (.opq (.ref a)))) ∧ wr δ S (fun ds S1 => F ds S1 Q fun x S2 => X x δ S2) X) := rfl
end
/-! ### < of tuples of ints -/
def ltT0 (ns ms : List Int) : Bool := Ob.lexAt (fun j => decide (ns.getD j 0 = ms.getD j 0)) (fun j => decide (ns.getD j 0 < ms.getD j 0)) (decide (ns.length < ms.length)) 0 (min ns.length ms.length)
def gLtT : G2 := fun _ x y => match x, y with
  | .tup a, .tup b => (intsOf a).bind fun ns => (intsOf b).map fun ms => .v (.bl (ltT0 ns ms))
  | _, _ => none
section
variable {X : Cx} {W : WX} {a b : Expr} {wa wb : Wp} {pos : Pos} {k : Nat}
def rLtT (K : PySem.W.Frag) : R2 := fun x y H Q => ∃ (a b : Addr) (ns ms : List Int), x = .ref a ∧ y = .ref b ∧ SqT K H a (ns.map V.int) ∧ SqT K H b (ms.map V.int) ∧ Q (.bl (ltT0 ns ms)) H
theorem op_ltT (hu : X.A.units < cLine) : OpR X (compareOp .Lt) (rLtT X.K) := by
  intro pins s σ H x y v u Q I rx ry h
  obtain ⟨a, b, ns, ms, rfl, rfl, ha, hb, q⟩ := h
  cases rx
  cases ry
  obtain ⟨its, r1, p1, _⟩ := I.tuple ha
  obtain ⟨its2, r2, p2, _⟩ := I.tuple hb
  have i1 : IntsAre its ns := Vals.ints r1
  have i2 : IntsAre its2 ms := Vals.ints r2
  have e1 : its.toArray.size = ns.length := by rw [List.size_toArray]; exact i1.length
  have e2 : its2.toArray.size = ms.length := by rw [List.size_toArray]; exact i2.length
  have at1 : ∀ j (h1 : j < its.toArray.size), ∃ t, its.toArray[j] = .int (ns.getD j 0) t := fun j h1 => PyProof.Rows.IntsAre.int_at i1 _ _ (by simp at h1; simp [h1])
  have at2 : ∀ j (h1 : j < its2.toArray.size), ∃ t, its2.toArray[j] = .int (ms.getD j 0) t := fun j h1 => PyProof.Rows.IntsAre.int_at i2 _ _ (by simp at h1; simp [h1])
  have R := Ob.RcOp.tuples_lt (A := X.A) (s := s) (e := fun j => decide (ns.getD j 0 = ms.getD j 0)) (r := fun j => decide (ns.getD j 0 < ms.getD j 0)) p1 p2 hu (fun j h1 h2 => by
    obtain ⟨t, et⟩ := at1 j h1
    obtain ⟨t', et'⟩ := at2 j h2
    rw [et, et']
    have z : (ns.getD j 0 == ms.getD j 0) = decide (ns.getD j 0 = ms.getD j 0) := by
      by_cases q : ns.getD j 0 = ms.getD j 0
      · rw [decide_eq_true q]; exact beq_iff_eq.mpr q
      · rw [decide_eq_false q]; exact beq_eq_false_iff_ne.mpr q
    rw [← z]
    exact SeqAt.EqAt.int_int _ _ _ _) (fun j h1 h2 _ => by
    obtain ⟨t, et⟩ := at1 j h1
    obtain ⟨t', et'⟩ := at2 j h2
    rw [et, et']
    exact Ob.RcOp.lt_int _ _ _ _)
  rw [e1, e2] at R
  have z : wpAny (model X.prog X.w) X.A (compareOp .Lt (.ref a) (.ref b)) (EP X pins σ Q) X.xe s := R X.prog X.w X.xe (EP X pins σ Q) ⟨.bl _, H, I, rfl, q⟩
  exact z
theorem or_ltT (hu : X.A.units < cLine) : OpR X (compareOp .Lt) (rD2 X.K (by2 gLtT)) := by
  intro pins s σ H x y v u Q I rx ry h
  obtain ⟨L, ρ, O, S, d, e, q, c, vx, vy, ⟨r, hg, hq⟩, k⟩ := h
  unfold gLtT at hg
  split at hg
  · obtain ⟨ns, h1, h2⟩ := Option.bind_eq_some_iff.mp hg
    obtain ⟨ms, h3, rfl⟩ := Option.map_eq_some_iff.mp h2
    cases vx with
    | @tup p xs _ hp rx1 =>
      cases vy with
      | @tup p2 ys _ hp2 ry1 =>
        have e1 := intsOf_vr rx1 h1
        have e2 := intsOf_vr ry1 h3
        subst e1 e2
        exact op_ltT hu pins s σ H _ _ v u Q I rx ry ⟨p, p2, ns, ms, rfl, rfl, hp.sq, hp2.sq, k.same c hq (.bl _)⟩
  · cases hg
theorem e_ltT (bd : Bd X W k) (ha : PED X W a wa) (hb : PED X W b wb) : PED X W (.Compare a [.Lt] [b] pos) (w2 (by2 gLtT) wa wb) := d_cmp (or_ltT (by have := bd.un; omega)) ha hb (nomark _)
end
theorem o_ltT_pr {S : Store} (p q : Int × Int) : gLtT S (.tup [.int p.1, .int p.2]) (.tup [.int q.1, .int q.2]) = some (.v (.bl (decide (p.1 < q.1 ∨ (p.1 = q.1 ∧ p.2 < q.2))))) := by
  have : ltT0 [p.1, p.2] [q.1, q.2] = decide (p.1 < q.1 ∨ (p.1 = q.1 ∧ p.2 < q.2)) := by
    simp only [ltT0, List.length_cons, List.length_nil, Nat.min_self, Nat.zero_add, Nat.reduceAdd, Ob.lexAt_succ, Ob.lexAt_zero]
    simp
    by_cases h : p.1 = q.1
    · by_cases h2 : p.2 = q.2
      · simp [h, h2]
      · simp [h, h2]
    · simp [h]
  simp [gLtT, intsOf, this]
end DL
/-! S74: houses told from other values (k01). -/
namespace DL
open PySem PySem.Spec PyProof.Rows L2 RZ
/-- a comprehension over values as they are -/
theorem lc_pureV {β : Type} (o : β → Val) (keep : Val → Bool) (mk : Val → β) {tg : Tg} {wt : WpT} {we : Wp} {vs : List Nat} {δ : DEnv} (S : Store) {Q : List Val → Store → Prop} (xs : List Val)
    (step : ∀ x ∈ xs, esc δ x = true ∧ ∃ δ2, tgSet tg x (wipeD δ vs) = some δ2 ∧ (∀ QT : Bool → Store → Prop, QT (keep x) S → wt δ2 S QT XF) ∧ (keep x = true → ∀ Qc : CQ, Qc (.v (o (mk x))) S → we δ2 S Qc XF))
    (hl : xs.length ≤ sizeLine) (h : Q (((xs.filter keep).map mk).map o) S) : wLcGo tg wt we vs δ xs [] S Q := by
  have := lc_pureM (id : Val → Val) o keep mk (tg := tg) (wt := wt) (we := we) (vs := vs) (δ := δ) (Q := Q) S xs step [] (by simpa using hl) (by simpa using h)
  simpa using this
/-- a door of n rooms -/
def doorB (n : Int) : Val → Bool
  | .tup [.int a, .int b] => decide (0 ≤ a ∧ a ≤ n - 1) && decide (a + 1 ≤ b ∧ b ≤ n - 1)
  | _ => false
def prOf : Val → Int × Int
  | .tup [.int a, .int b] => (a, b)
  | _ => (0, 0)
theorem doorB_pr {n : Int} {v : Val} (h : doorB n v = true) : v = prV (prOf v) ∧ 0 ≤ (prOf v).1 ∧ (prOf v).1 < (prOf v).2 ∧ (prOf v).2 < n := by
  unfold doorB at h
  split at h
  · simp only [Bool.and_eq_true, decide_eq_true_eq] at h
    simp only [prOf]
    exact ⟨rfl, h.1.1, by omega, by omega⟩
  · cases h
def F_is_door : FSpec := fun ds S Q _ => ∃ n v B, ds = [.int n, v] ∧ gdv B v = true ∧ Q (.v (.bl (doorB n v))) S
def ws_is_door : WpS :=
  (wsSeq (wsIf (wOrT (wNotT (wTru (byT truV) (wN (byN gIsi) (wCons (wVar 1) (wCons (wC (.opq (.ty "tuple"))) wNil))))) (wTst (w2 (by2 gNe) (wN (byN gLen) (wCons (wVar 1) wNil)) (wC (.int 2)))))
  (wsRet (wC (.bl false)))
  wsNext)
  (wsRet (wAnd (wCall (fun ds S Q Xq => ds.length = 3 ∧ F_is_integer ds S Q Xq) (wCons (w2 (by2 gIx) (wVar 1) (wC (.int 0))) (wCons (wC (.int 0)) (wCons (w2 (by2 gSub) (wVar 0) (wC (.int 1))) wNil)))) (wCall (fun ds S Q Xq => ds.length = 3 ∧ F_is_integer ds S Q Xq) (wCons (w2 (by2 gIx) (wVar 1) (wC (.int 1))) (wCons (w2 (by2 gAdd) (w2 (by2 gIx) (wVar 1) (wC (.int 0))) (wC (.int 1))) (wCons (w2 (by2 gSub) (wVar 0) (wC (.int 1))) wNil)))))))
theorem p_is_door : ∀ ds S Qd Xd, ds.length = 2 → F_is_door ds S Qd Xd → ws_is_door { nx := fun _ S' => Qd (.v .non) S', rt := Qd } (startD ["rooms", "value"] ds) S (fun x _ S' => Xd x S') := by
  rintro ds S Qd Xd - ⟨n, v, B, rfl, hg, h⟩
  by_cases ht : ∃ ds, v = .tup ds
  · obtain ⟨ds, rfl⟩ := ht
    by_cases h2 : ∃ a b, ds = [a, b]
    · obtain ⟨a, b, rfl⟩ := h2
      have ga : gdv B a = true := gdv_t.mp hg a (by simp)
      have gb : gdv B b = true := gdv_t.mp hg b (by simp)
      simp [ws_is_door, startD, gIsi_tt, at0, at1]
      by_cases ha : ∃ i, a = .int i
      · obtain ⟨i, rfl⟩ := ha
        refine .inl ⟨i, 0, n - 1, rfl, ?_⟩
        by_cases hi : 0 ≤ i ∧ i ≤ n - 1
        · simp [hi]
          by_cases hb : ∃ j, b = .int j
          · obtain ⟨j, rfl⟩ := hb
            refine .inl ⟨j, i + 1, n - 1, rfl, ?_⟩
            simpa [doorB, hi] using h
          · refine .inr ⟨b, i + 1, n - 1, rfl, gdv_notI gb fun j hj => hb ⟨j, hj⟩, ?_⟩
            have e1 : doorB n (.tup [.int i, b]) = false := by
              cases b <;> first | rfl | exact absurd ⟨_, rfl⟩ hb
            rw [e1] at h
            exact h
        · have e1 : doorB n (.tup [.int i, b]) = false := by
            cases b <;> first | rfl | simp [doorB, hi]
          rw [e1] at h
          simpa [hi] using h
      · refine .inr ⟨a, 0, n - 1, rfl, gdv_notI ga fun j hj => ha ⟨j, hj⟩, ?_⟩
        have e1 : doorB n (.tup [a, b]) = false := by
          cases a <;> first | rfl | exact absurd ⟨_, rfl⟩ ha
        rw [e1] at h
        simpa using h
    · have e0 : doorB n (.tup ds) = false := by
        match ds, h2 with
        | [], _ => rfl
        | [a], _ => cases a <;> rfl
        | [a, b], h2 => exact absurd ⟨a, b, rfl⟩ h2
        | a :: b :: _ :: _, _ => cases a <;> first | rfl | (cases b <;> rfl)
      rw [e0] at h
      have e1 : ds.length ≠ 2 := by
        match ds, h2 with
        | [], _ => simp
        | [_], _ => simp
        | [a, b], h2 => exact absurd ⟨a, b, rfl⟩ h2
        | _ :: _ :: _ :: _, _ => simp
      have e2 : ¬ ((ds.length : Int) = 2) := by omega
      simp [ws_is_door, startD, gIsi_tt, e2]
      simpa [e1] using h
  · have e0 : doorB n v = false := by
      cases v <;> first | rfl | exact absurd ⟨_, rfl⟩ ht
    rw [e0] at h
    have e1 : gIsi S [v, .opq (.ty "tuple")] = some (.v (.bl false)) := gdv_notT hg fun ds hd => ht ⟨ds, hd⟩
    simp [ws_is_door, startD, e1]
    exact h
/-- the order of doors -/
def ltP (p q : Int × Int) : Bool := decide (p.1 < q.1 ∨ (p.1 = q.1 ∧ p.2 < q.2))
def ascP (ps : List (Int × Int)) : Bool := (ps.zip ps.tail).all fun q => ltP q.1 q.2
def F_is_ascending_h : FSpec := fun ds S Q _ => ∃ D, ds = [.tup (D.map prV)] ∧ D.length ≤ 1000000 ∧ Q (.v (.bl (ascP D))) S
def ws_is_ascending_h : WpS :=
  (wsRet (wN (byN gAll) (wCons (wLc (wZip (wCons (wVar 0) (wCons (wSl (wVar 0) (wSo (wC (.int 1))) wNo) wNil))) (.tp (.cons (.nm 1) (.cons (.nm 2) .nil))) wYes (w2 (by2 gLtT) (wVar 1) (wVar 2)) [1, 2]) wNil)))
theorem p_is_ascending_h : ∀ ds S Qd Xd, ds.length = 1 → F_is_ascending_h ds S Qd Xd → ws_is_ascending_h { nx := fun _ S' => Qd (.v .non) S', rt := Qd } (startD ["values", "one", "other"] ds) S (fun x _ S' => Xd x S') := by
  rintro ds S Qd Xd - ⟨D, rfl, hl, h⟩
  have hs := sizeLine_eq
  have et : cutD (D.map prV) (some 1) none = D.tail.map prV := by
    have := cut_r (ds := D.map prV) (k := 1)
    rw [show ((1 : Nat) : Int) = 1 from rfl] at this
    rw [this, List.drop_one, List.map_tail]
  have ez : ∀ as bs : List (Int × Int), zipD (as.map prV) (bs.map prV) = (as.zip bs).map fun p => Val.rtup [prV p.1, prV p.2] := fun as => by
    induction as with
    | nil => intro bs; simp [zipD]
    | cons a as ih =>
      intro bs
      cases bs with
      | nil => simp [zipD]
      | cons b bs => simp [zipD, ih]
  have zl : (D.zip D.tail).length ≤ D.length := by rw [List.length_zip]; omega
  simp [ws_is_ascending_h, startD, seqK, -prV_eq]
  rw [et, ez]
  refine lc_pureM (fun p : (Int × Int) × (Int × Int) => Val.rtup [prV p.1, prV p.2]) Val.bl (fun _ => true) (fun p => ltP p.1 p.2) S (D.zip D.tail) (fun p hp => ⟨by simp, _, rfl, by simp, fun _ Qc hc => ?_⟩) [] (by simp; omega) ?_
  · have e : gLtT S (prV p.1) (prV p.2) = some (.v (.bl (ltP p.1 p.2))) := o_ltT_pr p.1 p.2
    simpa [e, -prV_eq] using hc
  simp only [filtT, List.nil_append, gAll_bl]
  have e : ((D.zip D.tail).map fun p => ltP p.1 p.2).all id = ascP D := by simp [List.all_map, Function.comp_def, ascP]
  rw [e]
  exact h
/-- no door closes a cycle -/
def noC (M : List (Int × Int)) (p : Int × Int) : Bool := (lk (pathsM M p.1) p.2).isNone
def acyF (M ps : List (Int × Int)) : Bool := (List.range ps.length).all fun k => noC (M ++ ps.take k) (ps.getD k (0, 0))
def houseB : Val → Bool
  | .tup [.int n, .tup ds] => decide (1 ≤ n ∧ n ≤ 8) && (ds.all (doorB n) && (ascP (ds.map prOf) && acyF [] (ds.map prOf)))
  | _ => false
theorem prs_of {n : Int} {ds : List Val} (h : ds.all (doorB n) = true) : ds = (ds.map prOf).map prV := by
  rw [List.map_map]
  refine (List.map_id ds).symm.trans (List.map_congr_left fun d hd => ?_)
  exact (doorB_pr (List.all_eq_true.mp h d hd)).1
theorem gws_ln : ∀ ds : List Val, ds.length ≤ gws ds
  | [] => Nat.zero_le _
  | d :: ds => by
    have := gws_ln ds
    have := gw_pos d
    simp only [List.length_cons, gws]; omega
theorem acyF_cons (M : List (Int × Int)) (p : Int × Int) (ps : List (Int × Int)) : acyF M (p :: ps) = (noC M p && acyF (M ++ [p]) ps) := by
  unfold acyF
  rw [List.length_cons, List.range_succ_eq_map, List.all_cons, List.all_map]
  simp [Function.comp_def]
theorem ascP_cons (p q : Int × Int) (ps : List (Int × Int)) : ascP (p :: q :: ps) = (ltP p q && ascP (q :: ps)) := by simp [ascP]
/-- strictly ascending doors of few rooms are few -/
theorem asc_few {n : Int} (hn : n ≤ 8) {D : List (Int × Int)} (h : ascP D = true) (hd : ∀ p ∈ D, 0 ≤ p.1 ∧ p.1 < p.2 ∧ p.2 < n) : D.length ≤ 64 ∧ D.Pairwise fun p q => ltP p q = true := by
  have pw : D.Pairwise fun p q => ltP p q = true := by
    clear hd
    induction D with
    | nil => exact .nil
    | cons p D ih =>
      cases D with
      | nil => simp
      | cons q D =>
        rw [ascP_cons, Bool.and_eq_true] at h
        have ih' := ih h.2
        refine List.pairwise_cons.mpr ⟨fun r hr => ?_, ih'⟩
        rcases List.mem_cons.mp hr with rfl | hr
        · exact h.1
        · have a := h.1
          have b := (List.pairwise_cons.mp ih').1 r hr
          simp only [ltP, decide_eq_true_eq] at a b ⊢
          omega
  refine ⟨?_, pw⟩
  have nd : (D.map fun p => 8 * p.1 + p.2).Nodup := by
    rw [List.Nodup, List.pairwise_map]
    refine pw.imp_of_mem fun {p q} hp hq hlt e => ?_
    have a := hd p hp
    have b := hd q hq
    simp only [ltP, decide_eq_true_eq] at hlt
    omega
  have := nodup_le (n := 64) nd fun y hy => by
    obtain ⟨p, hp, rfl⟩ := List.mem_map.mp hy
    have a := hd p hp
    omega
  simpa using this
theorem enD_prs : ∀ (ps : List (Int × Int)) (k : Nat), enD k (ps.map prV) = (List.range ps.length).map fun j => Val.rtup [.int ((k + j : Nat) : Int), prV (ps.getD j (0, 0))]
  | [], _ => rfl
  | p :: ps, k => by
    rw [List.map_cons, enD, enD_prs ps (k + 1), List.length_cons, List.range_succ_eq_map, List.map_cons, List.map_map]
    simp [Function.comp_def, Nat.add_assoc, Nat.add_comm 1]
def F_is_house : FSpec := fun ds S Q _ => ∃ v B, ds = [v] ∧ gdv B v = true ∧ gw v ≤ 200000 ∧ Q (.v (.bl (houseB v))) S
def ws_is_house : WpS :=
  (wsSeq (wsIf (wOrT (wNotT (wTru (byT truV) (wN (byN gIsi) (wCons (wVar 0) (wCons (wC (.opq (.ty "tuple"))) wNil))))) (wOrT (wTst (w2 (by2 gNe) (wN (byN gLen) (wCons (wVar 0) wNil)) (wC (.int 2)))) (wNotT (wTru (byT truV) (wCall (fun ds S Q Xq => ds.length = 3 ∧ F_is_integer ds S Q Xq) (wCons (w2 (by2 gIx) (wVar 0) (wC (.int 0))) (wCons (wC (.int 1)) (wCons (wC (.int 8)) wNil))))))))
  (wsRet (wC (.bl false)))
  wsNext)
  (wsSeq (wsAsg true (.tp (.cons (.nm 1) (.cons (.nm 2) .nil))) (wVar 0))
  (wsSeq (wsIf (wOrT (wNotT (wTru (byT truV) (wN (byN gIsi) (wCons (wVar 2) (wCons (wC (.opq (.ty "tuple"))) wNil))))) (wOrT (wNotT (wTru (byT truV) (wN (byN gAll) (wCons (wLc (wSeq (wVar 2)) (.nm 3) wYes (wCall (fun ds S Q Xq => ds.length = 2 ∧ F_is_door ds S Q Xq) (wCons (wVar 1) (wCons (wVar 3) wNil))) [3]) wNil)))) (wNotT (wTru (byT truV) (wCall (fun ds S Q Xq => ds.length = 1 ∧ F_is_ascending_h ds S Q Xq) (wCons (wVar 2) wNil))))))
  (wsRet (wC (.bl false)))
  wsNext)
  (wsRet (wN (byN gAll) (wCons (wLc (wEnum (wCons (wVar 2) wNil)) (.tp (.cons (.nm 4) (.cons (.nm 3) .nil))) wYes (w2 (by2 (gIs false)) (wCall (fun ds S Q Xq => ds.length = 3 ∧ F_path_between ds S Q Xq) (wCons (wTup (wCons (wVar 1) (wCons (wSl (wVar 2) wNo (wSo (wVar 4))) wNil))) (wCons (w2 (by2 gIx) (wVar 3) (wC (.int 0))) (wCons (w2 (by2 gIx) (wVar 3) (wC (.int 1))) wNil)))) (wC .non)) [4, 3]) wNil))))))
theorem p_is_house : ∀ ds S Qd Xd, ds.length = 1 → F_is_house ds S Qd Xd → ws_is_house { nx := fun _ S' => Qd (.v .non) S', rt := Qd } (startD ["value", "rooms", "doors", "door", "k"] ds) S (fun x _ S' => Xd x S') := by
  rintro ds S Qd Xd - ⟨v, B, rfl, hg, hw, h⟩
  have hs := sizeLine_eq
  by_cases ht : ∃ ds, v = .tup ds
  · obtain ⟨ds, rfl⟩ := ht
    by_cases h2 : ∃ a b, ds = [a, b]
    · obtain ⟨a, b, rfl⟩ := h2
      have ga : gdv B a = true := gdv_t.mp hg a (by simp)
      have gb : gdv B b = true := gdv_t.mp hg b (by simp)
      simp [ws_is_house, startD, gIsi_tt, at0, at1]
      by_cases ha : ∃ i, a = .int i
      · obtain ⟨n, rfl⟩ := ha
        refine .inl ⟨n, 1, 8, rfl, ?_⟩
        by_cases hi : 1 ≤ n ∧ n ≤ 8
        · have et : ∀ δ, tgSet (.tp (.cons (.nm 1) (.cons (.nm 2) .nil))) (.tup [.int n, b]) δ = some ((δ.set 1 (some (.v (.int n)))).set 2 (some (.v b))) := fun δ => rfl
          simp [hi, et]
          by_cases hb : ∃ es, b = .tup es
          · obtain ⟨es, rfl⟩ := hb
            have ge : ∀ d ∈ es, gdv B d = true := gdv_t.mp gb
            have el : es.length ≤ 200000 := by
              have := gws_ln es
              simp only [gw, gws] at hw
              omega
            simp [gIsi_tt]
            refine lc_pureV Val.bl (fun _ => true) (doorB n) S es (fun d hd => ⟨by simp, _, rfl, by simp, fun _ Qc hc => ?_⟩) (by omega) ?_
            · simp
              exact ⟨n, d, B, rfl, ge d hd, hc⟩
            have eA : (es.map (doorB n)).all id = es.all (doorB n) := by simp [List.all_map, Function.comp_def]
            simp only [filtT, gAll_bl, eA]
            by_cases hA : es.all (doorB n) = true
            · have hB : houseB (.tup [.int n, .tup es]) = (ascP (es.map prOf) && acyF [] (es.map prOf)) := by simp only [houseB, decide_eq_true hi, hA, Bool.true_and]
              rw [hB] at h
              have e1 := prs_of hA
              have hd : ∀ p ∈ es.map prOf, 0 ≤ p.1 ∧ p.1 < p.2 ∧ p.2 < n := fun p hp => by
                obtain ⟨d, hd, rfl⟩ := List.mem_map.mp hp
                exact (doorB_pr (List.all_eq_true.mp hA d hd)).2
              have eDl : (es.map prOf).length ≤ 200000 := by rw [List.length_map]; exact el
              rw [hA]
              generalize es.map prOf = D at *
              subst e1
              simp [-prV_eq]
              refine ⟨D, rfl, by omega, ?_⟩
              by_cases hC : ascP D = true
              · obtain ⟨few, _⟩ := asc_few hi.2 hC hd
                rw [hC, Bool.true_and] at h
                rw [hC]
                simp [seqK, -prV_eq]
                rw [enD_prs]
                refine lc_pureM (fun j => Val.rtup [.int ((0 + j : Nat) : Int), prV (D.getD j (0, 0))]) Val.bl (fun _ => true) (fun k => noC ([] ++ D.take k) (D.getD k (0, 0))) S (List.range D.length) (fun k hk => ⟨by simp, _, rfl, by simp, fun _ Qc hc => ?_⟩) [] (by simp; omega) ?_
                · have hk' : k < D.length := List.mem_range.mp hk
                  have ec : cutD (D.map prV) none (some (k : Int)) = (D.take k).map prV := by rw [cut_l, List.map_take]
                  have es : ∀ (M : List (Int × Int)) (p : Int × Int) S, gIs false S (pathV M p.1 p.2) .non = some (.v (.bl (noC M p))) := fun M p S => by
                    unfold noC pathV
                    cases lk (pathsM M p.1) p.2 <;> rfl
                  simp [ec, szl, at0, at1]
                  refine ⟨n, D.take k, (D[k]?.getD (0, 0)).1, (D[k]?.getD (0, 0)).2, by simp [hv, List.map_take], by rw [List.length_take]; omega, ?_⟩
                  have e2 := es (D.take k) (D.getD k (0, 0)) S
                  simp only [List.getD_eq_getElem?_getD] at e2 hc
                  simp [e2]
                  exact hc
                simp only [filtT, List.nil_append, gAll_bl]
                have e : ((List.range D.length).map fun k => noC (D.take k) (D.getD k (0, 0))).all id = acyF [] D := by simp [List.all_map, Function.comp_def, acyF]
                rw [e]
                exact h
              · rw [Bool.not_eq_true] at hC
                rw [hC, Bool.false_and] at h
                rw [hC]
                simp
                exact h
            · rw [Bool.not_eq_true] at hA
              have hB : houseB (.tup [.int n, .tup es]) = false := by simp only [houseB, hA, Bool.false_and, Bool.and_false]
              rw [hB] at h
              rw [hA]
              simp
              exact h
          · have hB : houseB (.tup [.int n, b]) = false := by
              cases b <;> first | rfl | exact absurd ⟨_, rfl⟩ hb
            rw [hB] at h
            have e1 : ∀ S, gIsi S [b, .opq (.ty "tuple")] = some (.v (.bl false)) := fun S => gdv_notT gb fun ds hd => hb ⟨ds, hd⟩
            simp [e1]
            exact h
        · have hB : houseB (.tup [.int n, b]) = false := by
            cases b <;> first | rfl | simp [houseB, hi]
          rw [hB] at h
          simp [hi]
          exact h
      · have hB : houseB (.tup [a, b]) = false := by
          cases a <;> first | rfl | exact absurd ⟨_, rfl⟩ ha
        rw [hB] at h
        refine .inr ⟨a, 1, 8, rfl, gdv_notI ga fun i hi => ha ⟨i, hi⟩, ?_⟩
        simp
        exact h
    · have e0 : houseB (.tup ds) = false := by
        match ds, h2 with
        | [], _ => rfl
        | [a], _ => cases a <;> rfl
        | [a, b], h2 => exact absurd ⟨a, b, rfl⟩ h2
        | a :: b :: _ :: _, _ => cases a <;> first | rfl | (cases b <;> rfl)
      rw [e0] at h
      have e1 : ds.length ≠ 2 := by
        match ds, h2 with
        | [], _ => simp
        | [_], _ => simp
        | [a, b], h2 => exact absurd ⟨a, b, rfl⟩ h2
        | _ :: _ :: _ :: _, _ => simp
      have e2 : ¬ ((ds.length : Int) = 2) := by omega
      simp [ws_is_house, startD, gIsi_tt, e2]
      simpa [e1] using h
  · have e0 : houseB v = false := by
      cases v <;> first | rfl | exact absurd ⟨_, rfl⟩ ht
    rw [e0] at h
    have e1 : gIsi S [v, .opq (.ty "tuple")] = some (.v (.bl false)) := gdv_notT hg fun ds hd => ht ⟨ds, hd⟩
    simp [ws_is_house, startD, e1]
    exact h
/-- the last door comes before -/
def lastB (M : List (Int × Int)) (p : Int × Int) : Bool := M.getLast?.all fun q => ltP q p
/-- the law's own walk over the doors -/
noncomputable def lawB (n : Int) : List (Int × Int) → List Val → Bool
  | _, [] => true
  | M, d :: ds => doorB n d && (lastB M (prOf d) && (decide ((prOf d).2 ∉ conn M (iota n) (prOf d).1) && lawB n (M ++ [prOf d]) ds))
/-- doors so far -/
structure Mdl (n : Int) (M : List (Int × Int)) : Prop where
  ok : ∀ p ∈ M, 0 ≤ p.1 ∧ p.1 < p.2 ∧ p.2 < n
  asc : M.Pairwise fun p q => ltP p q = true
theorem ltP_trans {p q r : Int × Int} (a : ltP p q = true) (b : ltP q r = true) : ltP p r = true := by
  simp only [ltP, decide_eq_true_eq] at a b ⊢; omega
theorem Mdl.snoc {n : Int} {M : List (Int × Int)} {p : Int × Int} (h : Mdl n M) (hp : 0 ≤ p.1 ∧ p.1 < p.2 ∧ p.2 < n) (hl : lastB M p = true) : Mdl n (M ++ [p]) := by
  refine ⟨fun q hq => ?_, List.pairwise_append.mpr ⟨h.asc, by simp, fun q hq r hr => ?_⟩⟩
  · rcases List.mem_append.mp hq with hq | hq
    · exact h.ok q hq
    · rw [List.mem_singleton.mp hq]; exact hp
  · rw [List.mem_singleton.mp hr]
    rcases List.eq_nil_or_concat M with e | ⟨M', x, e⟩
    · rw [e] at hq; cases hq
    · rw [List.concat_eq_append] at e
      subst e
      have a : ltP x p = true := by simpa [lastB] using hl
      rcases List.mem_append.mp hq with hq | hq
      · exact ltP_trans ((List.pairwise_append.mp h.asc).2.2 q hq x (by simp)) a
      · rw [List.mem_singleton.mp hq]; exact a
theorem Mdl.nd {n : Int} {M : List (Int × Int)} (h : Mdl n M) : M.Nodup := h.asc.imp fun hlt e => by
  subst e
  simp only [ltP, decide_eq_true_eq] at hlt; omega
theorem Mdl.hs {n : Int} {M : List (Int × Int)} (h : Mdl n M) (n0 : 0 ≤ n) (hn : n ≤ 8) : Hs n M := by
  refine ⟨n0, by omega, fun p hp => by have := h.ok p hp; exact ⟨by omega, by omega, by omega, by omega⟩, ?_, fun r => ?_⟩
  · have nd : (M.map fun p => 8 * p.1 + p.2).Nodup := by
      rw [List.Nodup, List.pairwise_map]
      refine h.asc.imp_of_mem fun {p q} hp hq hlt e => ?_
      have a := h.ok p hp
      have b := h.ok q hq
      simp only [ltP, decide_eq_true_eq] at hlt
      omega
    have := nodup_le (n := 64) nd fun y hy => by
      obtain ⟨p, hp, rfl⟩ := List.mem_map.mp hy
      have a := h.ok p hp
      omega
    rw [List.length_map] at this
    have e : (64 : Int).toNat = 64 := rfl
    omega
  · refine nbR_nodup.mpr ?_
    unfold nbR
    refine List.nodup_append.mpr ⟨?_, ?_, ?_⟩
    · rw [List.Nodup, List.pairwise_map]
      refine (h.nd.filter _).imp_of_mem fun {p q} hp hq ne e => ne (Prod.ext ?_ e)
      have a := (List.mem_filter.mp hp).2
      have b := (List.mem_filter.mp hq).2
      simp only [decide_eq_true_eq] at a b
      rw [a, b]
    · rw [List.Nodup, List.pairwise_map]
      refine (h.nd.filter _).imp_of_mem fun {p q} hp hq ne e => ne (Prod.ext e ?_)
      have a := (List.mem_filter.mp hp).2
      have b := (List.mem_filter.mp hq).2
      simp only [decide_eq_true_eq] at a b
      rw [a, b]
    · intro x hx y hy e
      subst e
      obtain ⟨p, hp, e1⟩ := List.mem_map.mp hx
      obtain ⟨q, hq, e2⟩ := List.mem_map.mp hy
      obtain ⟨p1, p2⟩ := List.mem_filter.mp hp
      obtain ⟨q1, q2⟩ := List.mem_filter.mp hq
      simp only [decide_eq_true_eq] at p2 q2
      have a := h.ok p p1
      have b := h.ok q q1
      omega
theorem noC_conn {n : Int} {M : List (Int × Int)} {p : Int × Int} (h : Mdl n M) (n0 : 0 ≤ n) (hn : n ≤ 8) : noC M p = decide (p.2 ∉ conn M (iota n) p.1) := by
  have e : p.2 ∈ conn M (iota n) p.1 ↔ Cn (ad M) p.1 p.2 := mem_conn.trans (re_all (h.hs n0 hn).inn)
  have e2 := lk_none (D := M) (a := p.1) (b := p.2)
  unfold noC
  by_cases c : Cn (ad M) p.1 p.2
  · have : lk (pathsM M p.1) p.2 ≠ none := fun z => (e2.mp z) c
    rw [decide_eq_false (fun z => z (e.mpr c))]
    cases q : lk (pathsM M p.1) p.2 with
    | none => exact absurd q this
    | some _ => rfl
  · rw [decide_eq_true (show ¬ p.2 ∈ conn M (iota n) p.1 from fun z => c (e.mp z)), e2.mpr c]; rfl
theorem lawB_eq {n : Int} (n0 : 0 ≤ n) (hn : n ≤ 8) : ∀ (ds : List Val) (M : List (Int × Int)), Mdl n M → lawB n M ds = (ds.all (doorB n) && ((match ds.map prOf with | [] => true | p :: _ => lastB M p) && (ascP (ds.map prOf) && acyF M (ds.map prOf))))
  | [], M, _ => rfl
  | d :: ds, M, h => by
    unfold lawB
    rw [List.all_cons, List.map_cons, acyF_cons]
    cases hd : doorB n d with
    | false => simp
    | true =>
      have hp := (doorB_pr hd).2
      simp only [Bool.true_and]
      cases hl : lastB M (prOf d) with
      | false => simp
      | true =>
        have ih := lawB_eq n0 hn ds (M ++ [prOf d]) (h.snoc hp hl)
        rw [ih, ← noC_conn h n0 hn]
        simp only [Bool.true_and]
        have e : ascP (prOf d :: ds.map prOf) = ((match ds.map prOf with | [] => true | p :: _ => lastB (M ++ [prOf d]) p) && ascP (ds.map prOf)) := by
          cases ds.map prOf with
          | nil => simp [ascP]
          | cons q ps => rw [ascP_cons]; simp [lastB]
        rw [e]
        generalize noC M (prOf d) = a
        generalize ds.all (doorB n) = b
        generalize acyF (M ++ [prOf d]) (ds.map prOf) = c
        generalize ascP (ds.map prOf) = f
        generalize (match ds.map prOf with | [] => true | p :: _ => lastB (M ++ [prOf d]) p) = g
        cases a <;> cases b <;> cases c <;> cases f <;> cases g <;> rfl
theorem lawB_house {n : Int} (hi : 1 ≤ n ∧ n ≤ 8) (ds : List Val) : houseB (.tup [.int n, .tup ds]) = lawB n [] ds := by
  rw [lawB_eq (by omega) hi.2 ds [] ⟨by simp, .nil⟩]
  have : (match ds.map prOf with | [] => true | p :: _ => lastB [] p) = true := by
    cases ds.map prOf <;> rfl
  rw [this]
  simp only [houseB, decide_eq_true hi, Bool.true_and]
theorem rngD_iot (n : Int) : rngD 0 n.toNat = iv (iota n) := by
  unfold rngD iota iv
  rw [List.map_map]
  exact List.map_congr_left fun i _ => by simp
def lh_body : WpS :=
  (wsSeq (wsIf (wOrT (wNotT (wTru (byT truV) (wN (byN gIsi) (wCons (wVar 4) (wCons (wC (.opq (.ty "tuple"))) wNil))))) (wOrT (wTst (w2 (by2 gNe) (wN (byN gLen) (wCons (wVar 4) wNil)) (wC (.int 2)))) (wNotT (wTru (byT truV) (wCall (fun ds S Q Xq => ds.length = 3 ∧ F__law_is_integer ds S Q Xq) (wCons (w2 (by2 gIx) (wVar 4) (wC (.int 0))) (wCons (wC (.int 0)) (wCons (w2 (by2 gSub) (wVar 1) (wC (.int 1))) wNil))))))))
  (wsRet (wC (.bl false)))
  wsNext)
  (wsSeq (wsIf (wOrT (wNotT (wTru (byT truV) (wCall (fun ds S Q Xq => ds.length = 3 ∧ F__law_is_integer ds S Q Xq) (wCons (w2 (by2 gIx) (wVar 4) (wC (.int 1))) (wCons (w2 (by2 gAdd) (w2 (by2 gIx) (wVar 4) (wC (.int 0))) (wC (.int 1))) (wCons (w2 (by2 gSub) (wVar 1) (wC (.int 1))) wNil)))))) (wAndT (wTst (w2 (by2 gNe) (wVar 3) (wLst wNil))) (wTst (w2 (by2 gLeT) (wVar 4) (w2 (by2 gIx) (wVar 3) (w1 (by1 gNeg) (wC (.int 1))))))))
  (wsRet (wC (.bl false)))
  wsNext)
  (wsSeq (wsIf (wTst (w2 (by2 (gIn false)) (w2 (by2 gIx) (wVar 4) (wC (.int 1))) (wCall (fun ds S Q Xq => ds.length = 3 ∧ F__law_connected ds S Q Xq) (wCons (wTup (wCons (wVar 1) (wCons (wN (byN gTuple) (wCons (wVar 3) wNil)) wNil))) (wCons (wLRg (wG1 (wVar 1))) (wCons (w2 (by2 gIx) (wVar 4) (wC (.int 0))) wNil))))))
  (wsRet (wC (.bl false)))
  wsNext)
  (wsAppend true 3 (wVar 4)))))
def F__law_is_house : FSpec := F_is_house
def ws__law_is_house : WpS :=
  (wsSeq (wsIf (wOrT (wNotT (wTru (byT truV) (wN (byN gIsi) (wCons (wVar 0) (wCons (wC (.opq (.ty "tuple"))) wNil))))) (wOrT (wTst (w2 (by2 gNe) (wN (byN gLen) (wCons (wVar 0) wNil)) (wC (.int 2)))) (wNotT (wTru (byT truV) (wCall (fun ds S Q Xq => ds.length = 3 ∧ F__law_is_integer ds S Q Xq) (wCons (w2 (by2 gIx) (wVar 0) (wC (.int 0))) (wCons (wC (.int 1)) (wCons (wC (.int 8)) wNil))))))))
  (wsRet (wC (.bl false)))
  wsNext)
  (wsSeq (wsAsg true (.tp (.cons (.nm 1) (.cons (.nm 2) .nil))) (wVar 0))
  (wsSeq (wsIf (wNotT (wTru (byT truV) (wN (byN gIsi) (wCons (wVar 2) (wCons (wC (.opq (.ty "tuple"))) wNil)))))
  (wsRet (wC (.bl false)))
  wsNext)
  (wsSeq (wsSetO true 3 (wLst wNil))
  (wsSeq (wsFor (wSeq (wVar 2)) (.nm 4)
  lh_body)
  (wsRet (wC (.bl true))))))))
theorem lh_step {n : Int} {M : List (Int × Int)} {B : Nat} {d : Val} (hi : 1 ≤ n ∧ n ≤ 8) (h : Mdl n M) (hg : gdv B d = true) {vv vd : Val} {Dd : DEnds} {X : XQ} {S : Store}
    (hN : doorB n d = true → lastB M (prOf d) = true → (prOf d).2 ∉ conn M (iota n) (prOf d).1 → Dd.nx [some (.v vv), some (.v (.int n)), some (.v vd), some (.l ((M ++ [prOf d]).map prV)), some (.v d)] S)
    (hR : (doorB n d && (lastB M (prOf d) && decide ((prOf d).2 ∉ conn M (iota n) (prOf d).1))) = false → Dd.rt (.v (.bl false)) S) :
    lh_body Dd [some (.v vv), some (.v (.int n)), some (.v vd), some (.l (M.map prV)), some (.v d)] S X := by
  have hs := sizeLine_eq
  have hh := h.hs (by omega) hi.2
  by_cases ht : ∃ ds, d = .tup ds
  · obtain ⟨ds, rfl⟩ := ht
    by_cases h2 : ∃ a b, ds = [a, b]
    · obtain ⟨a, b, rfl⟩ := h2
      have ga : gdv B a = true := gdv_t.mp hg a (by simp)
      have gb : gdv B b = true := gdv_t.mp hg b (by simp)
      simp [lh_body, gIsi_tt, at0, at1, -prV_eq]
      by_cases ha : ∃ i, a = .int i
      · obtain ⟨i, rfl⟩ := ha
        refine .inl ⟨i, 0, n - 1, rfl, ?_⟩
        by_cases hi1 : 0 ≤ i ∧ i ≤ n - 1
        · simp [hi1, -prV_eq]
          by_cases hb : ∃ j, b = .int j
          · obtain ⟨j, rfl⟩ := hb
            refine .inl ⟨j, i + 1, n - 1, rfl, ?_⟩
            by_cases hj : i + 1 ≤ j ∧ j ≤ n - 1
            · have hd : doorB n (.tup [.int i, .int j]) = true := by simp [doorB, hi1, hj]
              have ep : prOf (.tup [.int i, .int j]) = (i, j) := rfl
              rw [hd, ep, Bool.true_and] at hR
              have hN' := hN hd
              rw [ep] at hN'
              simp [hj, -prV_eq]
              rcases List.eq_nil_or_concat M with e | ⟨M', x, e⟩
              · have hlb : lastB M (i, j) = true := by rw [e]; rfl
                have e3 : gNe S (.lst (M.map prV)) (.lst []) = some (.v (.bl false)) := by rw [e]; exact o_ne_00
                simp [e3, -prV_eq]
                refine ⟨szl (by omega), ⟨by decide, by omega⟩, n, M, _, iota n, i, rfl, IsRx.inr (by rw [rngD_iot]), hh, hi1.1, by omega, mem_iota.mpr ⟨hi1.1, by omega⟩, ?_⟩
                have em : M.map prV ++ [Val.tup [.int i, .int j]] = (M ++ [(i, j)]).map prV := by simp [prV]
                simp only [fz, o_in_ti, em]
                by_cases hc2 : j ∈ conn M (iota n) i
                · simp [hc2]
                  exact hR (by simp [hc2])
                · simp [hc2]
                  refine ⟨by have := hh.len; omega, ?_⟩
                  have := hN' hlb hc2
                  simpa using this
              · rw [List.concat_eq_append] at e
                have e3 : gNe S (.lst (M.map prV)) (.lst []) = some (.v (.bl true)) := by
                  have p1 : isPys (M.map prV) = true := nbs_py (nbvs_iff.mpr fun d hd => by obtain ⟨x, _, rfl⟩ := List.mem_map.mp hd; rfl)
                  have p2 : deps (M.map prV) ≤ 60 := by
                    have := deps_mk (n := 1) (ds := M.map prV) fun d hd => by obtain ⟨x, _, rfl⟩ := List.mem_map.mp hd; simp [dep, deps, prV]
                    omega
                  rw [o_ne_lnil p1 p2, e]; simp
                have el : L2.atI (M.map prV) (-1) = some (prV x) := by rw [e, List.map_append]; exact atLast
                have eb : lastB M (i, j) = ltP x (i, j) := by rw [e]; simp [lastB]
                have eg : gLeT S (.tup [.int i, .int j]) (prV x) = some (.v (.bl (!lastB M (i, j)))) := by
                  refine (o_leT_pr (S := S) (i, j) x).trans ?_
                  rw [eb]
                  have : (if i = x.1 then decide (j ≤ x.2) else decide (i ≤ x.1)) = !ltP x (i, j) := by
                    simp only [ltP]
                    by_cases q1 : i = x.1
                    · by_cases q2 : j ≤ x.2
                      · rw [if_pos q1, decide_eq_true q2, decide_eq_false (by omega)]; rfl
                      · rw [if_pos q1, decide_eq_false q2, decide_eq_true (by omega)]; rfl
                    · by_cases q2 : i ≤ x.1
                      · rw [if_neg q1, decide_eq_true q2, decide_eq_false (by omega)]; rfl
                      · rw [if_neg q1, decide_eq_false q2, decide_eq_true (by omega)]; rfl
                  simp only [this]
                simp only [e3, el, Option.map_some, fz, eg]
                cases hlb : lastB M (i, j) with
                | false =>
                  simp
                  exact hR (by rw [hlb]; rfl)
                | true =>
                  simp [-prV_eq]
                  refine ⟨szl (by omega), ⟨by decide, by omega⟩, n, M, _, iota n, i, rfl, IsRx.inr (by rw [rngD_iot]), hh, hi1.1, by omega, mem_iota.mpr ⟨hi1.1, by omega⟩, ?_⟩
                  have em : M.map prV ++ [Val.tup [.int i, .int j]] = (M ++ [(i, j)]).map prV := by simp [prV]
                  simp only [fz, o_in_ti, em]
                  by_cases hc2 : j ∈ conn M (iota n) i
                  · simp [hc2]
                    exact hR (by simp [hc2])
                  · simp [hc2]
                    refine ⟨by have := hh.len; omega, ?_⟩
                    have := hN' hlb hc2
                    simpa using this
            · have hd : doorB n (.tup [.int i, .int j]) = false := by simp [doorB, hj]
              simp [hj]
              exact hR (by rw [hd]; rfl)
          · have hd : doorB n (.tup [.int i, b]) = false := by
              cases b <;> first | rfl | exact absurd ⟨_, rfl⟩ hb
            refine .inr ⟨b, i + 1, n - 1, rfl, gdv_notI gb fun j hj => hb ⟨j, hj⟩, ?_⟩
            simp
            exact hR (by rw [hd]; rfl)
        · have hd : doorB n (.tup [.int i, b]) = false := by
            cases b <;> first | rfl | simp [doorB, hi1]
          simp [hi1]
          exact hR (by rw [hd]; rfl)
      · have hd : doorB n (.tup [a, b]) = false := by
          cases a <;> first | rfl | exact absurd ⟨_, rfl⟩ ha
        refine .inr ⟨a, 0, n - 1, rfl, gdv_notI ga fun j hj => ha ⟨j, hj⟩, ?_⟩
        simp
        exact hR (by rw [hd]; rfl)
    · have hd : doorB n (.tup ds) = false := by
        match ds, h2 with
        | [], _ => rfl
        | [a], _ => cases a <;> rfl
        | [a, b], h2 => exact absurd ⟨a, b, rfl⟩ h2
        | a :: b :: _ :: _, _ => cases a <;> first | rfl | (cases b <;> rfl)
      have e1 : ds.length ≠ 2 := by
        match ds, h2 with
        | [], _ => simp
        | [_], _ => simp
        | [a, b], h2 => exact absurd ⟨a, b, rfl⟩ h2
        | _ :: _ :: _ :: _, _ => simp
      have e2 : ¬ ((ds.length : Int) = 2) := by omega
      simp [lh_body, gIsi_tt, e2, e1]
      exact hR (by rw [hd]; rfl)
  · have hd : doorB n d = false := by
      cases d <;> first | rfl | exact absurd ⟨_, rfl⟩ ht
    have e1 : ∀ S, gIsi S [d, .opq (.ty "tuple")] = some (.v (.bl false)) := fun S => gdv_notT hg fun ds hd => ht ⟨ds, hd⟩
    simp [lh_body, e1]
    exact hR (by rw [hd]; rfl)
theorem lh_loop {n : Int} {B : Nat} (hi : 1 ≤ n ∧ n ≤ 8) {vv vd : Val} {Dd : DEnds} {X : XQ} {S : Store} : ∀ (ds : List Val) (M : List (Int × Int)) (c : Option Val), Mdl n M → (∀ d ∈ ds, gdv B d = true) →
    (lawB n M ds = true → ∀ (M' : List (Int × Int)) (c : Option Val), Dd.nx [some (.v vv), some (.v (.int n)), some (.v vd), some (.l (M'.map prV)), ov c] S) → (lawB n M ds = false → Dd.rt (.v (.bl false)) S) →
    wsForGo (.nm 4) lh_body Dd X ds [some (.v vv), some (.v (.int n)), some (.v vd), some (.l (M.map prV)), ov c] S
  | [], M, c, _, _, hN, _ => by simpa [wsForGo] using hN rfl M c
  | d :: ds, M, c, h, hg, hN, hR => by
    simp only [wsForGo]
    refine ⟨_, rfl, ?_⟩
    refine lh_step hi h (hg d (List.mem_cons_self ..)) (fun h1 h2 h3 => ?_) fun h1 => hR ?_
    · have e : lawB n M (d :: ds) = lawB n (M ++ [prOf d]) ds := by
        conv => lhs; unfold lawB
        simp [h1, h2, h3]
      rw [e] at hN hR
      exact lh_loop hi ds (M ++ [prOf d]) (some d) (h.snoc (doorB_pr h1).2 h2) (fun x hx => hg x (List.mem_cons_of_mem _ hx)) hN hR
    · unfold lawB
      rw [← Bool.and_assoc, ← Bool.and_assoc, Bool.and_assoc (doorB n d), h1, Bool.false_and]
theorem p__law_is_house : ∀ ds S Qd Xd, ds.length = 1 → F__law_is_house ds S Qd Xd → ws__law_is_house { nx := fun _ S' => Qd (.v .non) S', rt := Qd } (startD ["_law_value", "_law_rooms", "_law_doors", "_law_model", "_law_door"] ds) S (fun x _ S' => Xd x S') := by
  rintro ds S Qd Xd - ⟨v, B, rfl, hg, hw, h⟩
  have hs := sizeLine_eq
  by_cases ht : ∃ ds, v = .tup ds
  · obtain ⟨ds, rfl⟩ := ht
    by_cases h2 : ∃ a b, ds = [a, b]
    · obtain ⟨a, b, rfl⟩ := h2
      have ga : gdv B a = true := gdv_t.mp hg a (by simp)
      have gb : gdv B b = true := gdv_t.mp hg b (by simp)
      simp [ws__law_is_house, startD, gIsi_tt, at0, at1]
      by_cases ha : ∃ i, a = .int i
      · obtain ⟨n, rfl⟩ := ha
        refine .inl ⟨n, 1, 8, rfl, ?_⟩
        by_cases hi : 1 ≤ n ∧ n ≤ 8
        · have et : ∀ δ, tgSet (.tp (.cons (.nm 1) (.cons (.nm 2) .nil))) (.tup [.int n, b]) δ = some ((δ.set 1 (some (.v (.int n)))).set 2 (some (.v b))) := fun δ => rfl
          simp [hi, et]
          by_cases hb : ∃ es, b = .tup es
          · obtain ⟨es, rfl⟩ := hb
            have ge : ∀ d ∈ es, gdv B d = true := gdv_t.mp gb
            rw [lawB_house hi es] at h
            simp [gIsi_tt]
            refine ⟨rfl, ?_⟩
            refine lh_loop hi es [] none ⟨by simp, .nil⟩ ge (fun e M' c => ?_) fun e => ?_
            · rw [e] at h
              simpa using h
            · rw [e] at h
              exact h
          · have hB : houseB (.tup [.int n, b]) = false := by
              cases b <;> first | rfl | exact absurd ⟨_, rfl⟩ hb
            rw [hB] at h
            have e1 : ∀ S, gIsi S [b, .opq (.ty "tuple")] = some (.v (.bl false)) := fun S => gdv_notT gb fun ds hd => hb ⟨ds, hd⟩
            simp [e1]
            exact h
        · have hB : houseB (.tup [.int n, b]) = false := by
            cases b <;> first | rfl | simp [houseB, hi]
          rw [hB] at h
          simp [hi]
          exact h
      · have hB : houseB (.tup [a, b]) = false := by
          cases a <;> first | rfl | exact absurd ⟨_, rfl⟩ ha
        rw [hB] at h
        refine .inr ⟨a, 1, 8, rfl, gdv_notI ga fun i hi => ha ⟨i, hi⟩, ?_⟩
        simp
        exact h
    · have e0 : houseB (.tup ds) = false := by
        match ds, h2 with
        | [], _ => rfl
        | [a], _ => cases a <;> rfl
        | [a, b], h2 => exact absurd ⟨a, b, rfl⟩ h2
        | a :: b :: _ :: _, _ => cases a <;> first | rfl | (cases b <;> rfl)
      rw [e0] at h
      have e1 : ds.length ≠ 2 := by
        match ds, h2 with
        | [], _ => simp
        | [_], _ => simp
        | [a, b], h2 => exact absurd ⟨a, b, rfl⟩ h2
        | _ :: _ :: _ :: _, _ => simp
      have e2 : ¬ ((ds.length : Int) = 2) := by omega
      simp [ws__law_is_house, startD, gIsi_tt, e2]
      simpa [e1] using h
  · have e0 : houseB v = false := by
      cases v <;> first | rfl | exact absurd ⟨_, rfl⟩ ht
    rw [e0] at h
    have e1 : gIsi S [v, .opq (.ty "tuple")] = some (.v (.bl false)) := gdv_notT hg fun ds hd => ht ⟨ds, hd⟩
    simp [ws__law_is_house, startD, e1]
    exact h
theorem rpw_doors {k : Int} {L : List (Int × Int)} (hk : k.natAbs ≤ 100) (hl : L.length ≤ 20) (h : ∀ p ∈ L, p.1.natAbs ≤ 100 ∧ p.2.natAbs ≤ 100) : RpW (.tup [.int k, .tup (L.map prV)]) 20000 := by
  have h1 : ∀ L : List (Int × Int), (∀ p ∈ L, p.1.natAbs ≤ 100 ∧ p.2.natAbs ≤ 100) → gdvs (10 ^ 59 + 18) (L.map prV) = true ∧ deps (L.map prV) ≤ 1 ∧ gws (L.map prV) ≤ 413 * L.length := fun L => by
    induction L with
    | nil => intro _; exact ⟨by simp [gdvs], by simp [deps], by simp [gws]⟩
    | cons p L ih =>
      intro h
      obtain ⟨a, b, c⟩ := ih fun q hq => h q (List.mem_cons_of_mem _ hq)
      obtain ⟨b1, b2⟩ := h p (List.mem_cons_self ..)
      rw [List.map_cons, prV_eq]
      refine ⟨?_, ?_, ?_⟩
      · simp only [gdvs, gdv, a, Bool.and_true, Bool.and_eq_true, decide_eq_true_eq]
        omega
      · simp only [deps, dep]; omega
      · simp only [gws, gw, List.length_cons]; omega
  obtain ⟨a, b, c⟩ := h1 L h
  refine ⟨?_, ?_, ?_⟩
  · simp only [gdv, gdvs, a, Bool.and_true, decide_eq_true_eq]; omega
  · simp only [dep, deps]; omega
  · simp only [gw, gws]; omega
theorem cut_last {L : List (Int × Int)} : cutD (L.map prV) (some (-1)) none = (L.drop (L.length - 1)).map prV := by
  have a1 : HT.sIx (L.map prV).length 0 (some (-1)) = L.length - 1 := by
    simp only [HT.sIx, List.length_map]
    rw [if_pos (by decide)]; omega
  have a2 : HT.sIx (L.map prV).length (L.map prV).length none = L.length := by simp [HT.sIx]
  unfold cutD
  rw [a1, a2, List.map_drop, List.take_of_length_le (by simp)]
def F__law_near_miss : FSpec := fun ds S Q _ => ∃ m R n D, ds = [.ref 2, hv n D] ∧ House n D ∧ n ≤ 8 ∧ St (m + 3) R S ∧ ∀ v S', RpW v 20000 → St m R S' → Q (.v v) S'
def ws__law_near_miss : WpS :=
  (wsSeq (wsAsg true (.tp (.cons (.nm 2) (.cons (.nm 3) .nil))) (wVar 1))
  (wsSeq (wsPar2 true 4 5 (wCall (fun ds S Q Xq => ds.length = 2 ∧ F__law_draw ds S Q Xq) (wCons (wVar 0) (wCons (w2 (by2 gAdd) (wVar 2) (wC (.int 1))) wNil))) (wCall (fun ds S Q Xq => ds.length = 2 ∧ F__law_draw ds S Q Xq) (wCons (wVar 0) (wCons (w2 (by2 gAdd) (wVar 2) (wC (.int 1))) wNil))))
  (wsFrz 4 (wsFrz 5 (wsSeq (wsSet true 6 (wN (byN gTuple) (wCons (wN (byN gSortQ) (wCons (w2 (by2 gAdd) (wVar 3) (wTup (wCons (wTup (wCons (wN (byN gMin2) (wCons (wVar 4) (wCons (wVar 5) wNil))) (wCons (wN (byN gMax2) (wCons (wVar 4) (wCons (wVar 5) wNil))) wNil))) wNil))) wNil)) wNil)))
  (wsSeq (wsSet true 7 (wLst (wCons (wTup (wCons (wVar 2) (wCons (wVar 6) wNil))) (wCons (wTup (wCons (wVar 2) (wCons (wRev (wVar 3)) wNil))) (wCons (wTup (wCons (w2 (by2 gSub) (wVar 2) (wC (.int 1))) (wCons (wVar 3) wNil))) (wCons (wTup (wCons (w2 (by2 gAdd) (wVar 2) (wC (.int 1))) (wCons (wVar 3) wNil))) (wCons (wTup (wCons (wVar 2) (wCons (w2 (by2 gAdd) (wVar 3) (wSl (wVar 3) (wSo (w1 (by1 gNeg) (wC (.int 1)))) wNo)) wNil))) wNil)))))))
  (wsRet (w2 (by2 gIx) (w2 (by2 gAdd) (wVar 7) (wLst (wCons (wTup (wCons (wVar 2) (wCons (wN (byN gTuple) (wCons (wLc (wSeq (wVar 3)) (.nm 8) wYes (wRev (wVar 8)) [8]) wNil)) wNil))) (wCons (wTup (wCons (wVar 2) (wCons (w2 (by2 gAdd) (wVar 3) (wTup (wCons (wTup (wCons (wC (.int 0)) (wCons (wC (.int 8)) wNil))) wNil))) wNil))) wNil)))) (wCall (fun ds S Q Xq => ds.length = 2 ∧ F__law_draw ds S Q Xq) (wCons (wVar 0) (wCons (wC (.int 7)) wNil)))))))))))
set_option maxHeartbeats 1000000 in
theorem p__law_near_miss : ∀ ds S Qd Xd, ds.length = 2 → F__law_near_miss ds S Qd Xd → ws__law_near_miss { nx := fun _ S' => Qd (.v .non) S', rt := Qd } (startD ["_law_stream_here", "_law_house_here", "_law_rooms", "_law_doors", "_law_one", "_law_other", "_law_more", "_law_some", "_law_door"] ds) S (fun x _ S' => Xd x S') := by
  rintro ds S Qd Xd - ⟨m, R, n, D, rfl, hH, hn, hS, h⟩
  have hs := sizeLine_eq
  have hpos := hH.pos
  have hl := hH.len
  have hD : ∀ p ∈ D, p.1.natAbs ≤ 100 ∧ p.2.natAbs ≤ 100 := fun p hp => by
    obtain ⟨a, b, c, d⟩ := hH.inD p hp
    exact ⟨by omega, by omega⟩
  have et : ∀ δ, tgSet (.tp (.cons (.nm 2) (.cons (.nm 3) .nil))) (hv n D) δ = some ((δ.set 2 (some (.v (.int n)))).set 3 (some (.v (.tup (D.map prV))))) := fun δ => rfl
  simp [ws__law_near_miss, startD, et, -prV_eq]
  refine ⟨m + 2, R, n + 1, rfl, hS, by omega, by omega, fun a S1 a0 a1 hS1 => ?_⟩
  simp [-prV_eq]
  refine ⟨m + 1, R, n + 1, rfl, hS1, by omega, by omega, fun b S2 b0 b1 hS2 => ?_⟩
  have e1 : gMin2 S2 [.int a, .int b] = some (.v (.int (if b < a then b else a))) := rfl
  have e2 : gMax2 S2 [.int a, .int b] = some (.v (.int (if b > a then b else a))) := rfl
  have em : D.map prV ++ [Val.tup [.int (if b < a then b else a), .int (if b > a then b else a)]] = (D ++ [(if b < a then b else a, if b > a then b else a)]).map prV := by simp [prV]
  have e8 : D.map prV ++ [Val.tup [.int 0, .int 8]] = (D ++ [(0, 8)]).map prV := by simp [prV]
  have z5 : 5 ≤ sizeLine := szl (by omega)
  have z7 : 7 ≤ sizeLine := szl (by omega)
  have z2 : 2 ≤ sizeLine := szl (by omega)
  have z1 : 1 ≤ sizeLine := szl (by omega)
  have m1 : (if b < a then b else a).natAbs ≤ 100 := by split <;> omega
  have m2 : (if b > a then b else a).natAbs ≤ 100 := by split <;> omega
  generalize (if b < a then b else a) = mn at *
  generalize (if b > a then b else a) = mx at *
  have ea : ∀ x : Val, gAdd S2 (.tup (D.map prV)) (.tup [x]) = some (.v (.tup (D.map prV ++ [x]))) := fun x => o_add_t (by simp; omega)
  simp [e1, e2, ea, em, e8, o_sortQ, z2, z1, -prV_eq, -List.map_append]
  have eL : gAdd S2 (.tup (D.map prV)) (.tup (cutD (D.map prV) (some (-1)) none)) = some (.v (.tup ((D ++ D.drop (D.length - 1)).map prV))) := by
    rw [cut_last, o_add_t (by simp; omega), ← List.map_append]
  have e9 : gAdd S2 (.tup (D.map prV)) (.tup [.tup [.int 0, .int 8]]) = some (.v (.tup ((D ++ [(0, 8)]).map prV))) := by rw [ea, e8]
  rw [eL]
  dsimp only
  refine ⟨z5, ?_⟩
  refine lc_pureM prV prV (fun _ => true) (fun p => (p.2, p.1)) S2 D (fun p hp => ⟨by simp, _, rfl, by simp, fun _ Qc hc => by simpa [prV] using hc⟩) [] (by simp; omega) ?_
  rw [List.nil_append, filtT, e9]
  dsimp only
  have ef : ∀ a b c d e f g : Val, gAdd S2 (.lst [a, b, c, d, e]) (.lst [f, g]) = some (.l [a, b, c, d, e, f, g]) := fun a b c d e f g => o_add_l (by simp; omega)
  simp only [fz, ef]
  refine ⟨m, R, 7, rfl, hS2, by omega, by omega, fun r S3 r0 r1 hS3 => ?_⟩
  have all : ∀ v ∈ [Val.tup [Val.int n, Val.tup (List.map prV (sortP (D ++ [(mn, mx)])))], Val.tup [Val.int n, Val.tup (List.map prV D).reverse], Val.tup [Val.int (n - 1), Val.tup (List.map prV D)],
      Val.tup [Val.int (n + 1), Val.tup (List.map prV D)], Val.tup [Val.int n, Val.tup ((D ++ D.drop (D.length - 1)).map prV)], Val.tup [Val.int n, Val.tup ((D.map fun p => (p.2, p.1)).map prV)], Val.tup [Val.int n, Val.tup ((D ++ [(0, 8)]).map prV)]], RpW v 20000 := by
    intro v hv
    simp only [List.mem_cons, List.not_mem_nil, or_false] at hv
    rcases hv with rfl | rfl | rfl | rfl | rfl | rfl | rfl
    · refine rpw_doors (by omega) (by rw [(sortP_perm _).length_eq]; simp; omega) fun p hp => ?_
      rcases List.mem_append.mp ((sortP_perm _).mem_iff.mp hp) with hp | hp
      · exact hD p hp
      · rw [List.mem_singleton.mp hp]; exact ⟨m1, m2⟩
    · rw [← List.map_reverse]
      exact rpw_doors (by omega) (by simp; omega) fun p hp => hD p (List.mem_reverse.mp hp)
    · exact rpw_doors (by omega) (by omega) hD
    · exact rpw_doors (by omega) (by omega) hD
    · refine rpw_doors (by omega) (by simp; omega) fun p hp => ?_
      rcases List.mem_append.mp hp with hp | hp
      · exact hD p hp
      · exact hD p (List.mem_of_mem_drop hp)
    · refine rpw_doors (by omega) (by simp; omega) fun p hp => ?_
      obtain ⟨q, hq, rfl⟩ := List.mem_map.mp hp
      exact ⟨(hD q hq).2, (hD q hq).1⟩
    · refine rpw_doors (by omega) (by simp; omega) fun p hp => ?_
      rcases List.mem_append.mp hp with hp | hp
      · exact hD p hp
      · rw [List.mem_singleton.mp hp]; exact ⟨by decide, by decide⟩
  obtain ⟨v, h1, h2⟩ := at_mem r0 (show r < _ from by simpa using r1) (l := [Val.tup [Val.int n, Val.tup (List.map prV (sortP (D ++ [(mn, mx)])))], Val.tup [Val.int n, Val.tup (List.map prV D).reverse], Val.tup [Val.int (n - 1), Val.tup (List.map prV D)],
      Val.tup [Val.int (n + 1), Val.tup (List.map prV D)], Val.tup [Val.int n, Val.tup ((D ++ D.drop (D.length - 1)).map prV)], Val.tup [Val.int n, Val.tup ((D.map fun p => (p.2, p.1)).map prV)], Val.tup [Val.int n, Val.tup ((D ++ [(0, 8)]).map prV)]])
  simp only [o_ix_l, fz, h1, Option.map_some]
  exact h v S3 (all v h2) hS3
def F__law_checks_hold (fa : Str → Addr) : FSpec := fun ds S Q _ => ∃ vs, ds = [.opq (.ref (fa "is_house")), .opq (.ref (fa "_law_is_house")), .lst vs] ∧ (∀ v ∈ vs, RpW v 190000) ∧ Q (.v (.bl true)) S
def ws__law_checks_hold (fa : Str → Addr) : WpS :=
  (wsSeq (wsFor (wSeq (wVar 2)) (.nm 3)
  (wsSeq (wsSet true 4 (wN (byN gRepr) (wCons (wVar 3) wNil)))
  (wsSeq (wsSet true 5 (wCallL 0 (fa "is_house") (fun ds S Q Xq => ds.length = 1 ∧ F_is_house ds S Q Xq) (wCons (wVar 3) wNil)))
  (wsIf (wOrT (wNotT (wTru (byT truV) (wN (byN gIsi) (wCons (wVar 5) (wCons (wC (.opq (.ty "bool"))) wNil))))) (wOrT (wTst (w2 (by2 gNe) (wVar 5) (wCallL 1 (fa "_law_is_house") (fun ds S Q Xq => ds.length = 1 ∧ F__law_is_house ds S Q Xq) (wCons (wVar 3) wNil)))) (wTst (w2 (by2 gNe) (wN (byN gRepr) (wCons (wVar 3) wNil)) (wVar 4)))))
  (wsRet (wC (.bl false)))
  wsNext))))
  (wsRet (wC (.bl true))))
theorem p__law_checks_hold (fa : Str → Addr) : ∀ ds S Qd Xd, ds.length = 3 → F__law_checks_hold fa ds S Qd Xd → ws__law_checks_hold fa { nx := fun _ S' => Qd (.v .non) S', rt := Qd } (startD ["_law_look", "_law_own", "_law_values", "_law_value", "_law_held", "_law_found"] ds) S (fun x _ S' => Xd x S') := by
  rintro ds S Qd Xd - ⟨vs, rfl, hv, h⟩
  have hs := sizeLine_eq
  simp [ws__law_checks_hold, startD]
  refine for_inv (fun j δ S' => S' = S ∧ ∃ a b c, δ = [some (.v (.opq (.ref (fa "is_house")))), some (.v (.opq (.ref (fa "_law_is_house")))), some (.v (.lst vs)), ov a, ov b, ov c]) _ ?_ _ _ ⟨rfl, none, none, none, rfl⟩ ?_
  · rintro v hv' j N hN δ S' ⟨rfl, a, b, c, rfl⟩
    refine ⟨_, rfl, ?_⟩
    have hr := hv v hv'
    have er := fun S => gdv_repr (S := S) hr.g (by decide) (by have := hr.d; omega) (by have := hr.w; omega)
    have eb : ∀ (b : Bool) S, gIsi S [.bl b, .opq (.ty "bool")] = some (.v (.bl true)) := fun b S => by cases b <;> rfl
    have en : ∀ (b : Bool) S, gNe S (.bl b) (.bl b) = some (.v (.bl false)) := fun b S => by cases b <;> rfl
    simp [er]
    refine ⟨v, _, rfl, hr.g, by have := hr.w; omega, ?_⟩
    simp [eb]
    refine ⟨v, _, rfl, hr.g, by have := hr.w; omega, ?_⟩
    generalize houseB v = hb
    simp [en, er]
    exact hN _ _ ⟨rfl, some v, some (.str (rpS v)), some (.bl hb), rfl⟩
  · rintro δ S' ⟨rfl, a, b, c, rfl⟩
    simpa using h
end DL
/-! S72: texts of houses and placements (k64). -/
namespace DL
open PySem PySem.Spec PyProof.Rows L2 RZ
@[simp ↓] theorem s_js {ws : List Wp} {δ : DEnv} {S : Store} {Q : CQ} {X : XQ} : wJs ws δ S Q X = wJsGo ws Str.empty δ S (fun y S1 => Q (.v (.str y)) S1) X := rfl
@[simp ↓] theorem s_jsGo_nil {acc : Str} {δ : DEnv} {S : Store} {Q : Str → Store → Prop} {X : XQ} : wJsGo [] acc δ S Q X = Q acc S := rfl
/-! ### the texts by their signs -/
/-- a person, their room, their goal -/
abbrev P3 := List Nat × Int × Int
/-- people that may be written -/
structure Ok3 (n : Int) (A : List P3) : Prop where
  len : A.length ≤ 12
  nm : ∀ q ∈ A, 1 ≤ q.1.length ∧ q.1.length ≤ 8 ∧ ∀ c ∈ q.1, isL c
  rm : ∀ q ∈ A, 0 ≤ q.2.1 ∧ q.2.1 < n
  gl : ∀ q ∈ A, 0 ≤ q.2.2 ∧ q.2.2 < n
  asc : A.Pairwise fun p q => leS (ofL p.1) (ofL q.1) = true
  nd : A.Pairwise fun p q => p.1 ≠ q.1
end DL
/-! S73: texts that are read (k64). -/
namespace DL
open PySem PySem.Spec PyProof.Rows L2 RZ
/-- the pair comes behind the last -/
def Behind (D1 : List (Int × Int)) (p : Int × Int) : Prop := ∀ q ∈ D1.getLast?, q.1 < p.1 ∨ (q.1 = p.1 ∧ q.2 < p.2)
/-- doors in their order -/
theorem House.beh {n : Int} {D D1 D2 : List (Int × Int)} {p : Int × Int} (h : House n D) (hn : n ≤ 60) (e : D = D1 ++ p :: D2) : Behind D1 p ∧ pathV D1 p.1 p.2 = .non ∧ p ∉ D1 := by
  have hnd : D.Nodup := (h.fd hn).nd
  have hs := (h.fd hn).srt
  rw [e] at hnd hs
  obtain ⟨n1, n2, n3⟩ := List.nodup_append.mp hnd
  obtain ⟨s1, s2, s3⟩ := List.pairwise_append.mp hs
  have hp1 : p ∉ D1 := fun z => n3 p z p (by simp) rfl
  refine ⟨fun q hq => ?_, ?_, hp1⟩
  · have hq1 : q ∈ D1 := List.mem_of_getLast? hq
    have a := s3 q hq1 p (by simp)
    rw [lePr_iff] at a
    have b : q ≠ p := fun z => hp1 (z ▸ hq1)
    rcases a with a | ⟨a1, a2⟩
    · exact .inl a
    · refine .inr ⟨a1, ?_⟩
      by_cases z : q.2 = p.2
      · exact absurd (Prod.ext a1 z) b
      · omega
  · have hc : ¬ Cn (ad D1) p.1 p.2 := fun c => by
      refine h.cut (p := p) (by rw [e]; simp) (c.mono fun u v huv => ?_)
      have sub : ∀ x ∈ D1, x ∈ less D p := fun x hx => List.mem_filter.mpr ⟨by rw [e]; exact List.mem_append.mpr (.inl hx), by
        simp only [decide_eq_true_eq]
        exact fun z => hp1 (z ▸ hx)⟩
      rcases ad_iff.mp huv with z | z
      · exact ad_iff.mpr (.inl (sub _ z))
      · exact ad_iff.mpr (.inr (sub _ z))
    unfold pathV
    rw [lk_none.mpr hc]
/-- the name comes behind the last -/
def BehindS (A1 : List P3) (l : List Nat) : Prop := ∀ q ∈ A1.getLast?, sLt (ofL q.1) (ofL l) = true
theorem Ok3.beh {n : Int} {A A1 A2 : List P3} {q : P3} (h : Ok3 n A) (e : A = A1 ++ q :: A2) : BehindS A1 q.1 := fun p hp => by
  have hp1 : p ∈ A1 := List.mem_of_getLast? hp
  have s1 := h.asc
  have s2 := h.nd
  rw [e] at s1 s2
  have a := (List.pairwise_append.mp s1).2.2 p hp1 q (by simp)
  have b := (List.pairwise_append.mp s2).2.2 p hp1 q (by simp)
  exact sLt_of a fun z => b (ofL_inj z)
end DL
/-! K01: the law's own walk. -/
namespace DL
open PySem PySem.Spec PyProof.Rows L2 RZ
def F_law : FSpec := fun ds S Q _ => ∃ ns, ds = [.scr ns] ∧ S = [] ∧ ns.length ≤ 63 ∧ ∀ S', Q (.v (.bl true)) S'
def chk01 : WpS :=
  (wsIf (wTst (w2 (by2 gNe) (wTup (wCons (wC (.int 8)) (wCons (wC (.int 12)) (wCons (wC (.int 4000)) (wCons (wC (.int 1000000000000)) (wCons (wC (.int 60)) (wCons (wC (.int 20)) wNil))))))) (wTup (wCons (wC (.int 8)) (wCons (wC (.int 12)) (wCons (wC (.int 4000)) (wCons (w2 (by2 gPow) (wC (.int 10)) (wC (.int 12))) (wCons (wC (.int 60)) (wCons (wC (.int 20)) wNil)))))))))
  (wsRet (wC (.bl false)))
  wsNext)
def chkG (a b c d e f i j : Int) : WpS :=
  (wsIf (wTst (w2 (by2 gNe) (wTup (wCons (wC (.int a)) (wCons (wC (.int b)) (wCons (wC (.int c)) (wCons (wC (.int d)) (wCons (wC (.int e)) (wCons (wC (.int f)) wNil))))))) (wTup (wCons (wC (.int a)) (wCons (wC (.int b)) (wCons (wC (.int c)) (wCons (w2 (by2 gPow) (wC (.int i)) (wC (.int j))) (wCons (wC (.int e)) (wCons (wC (.int f)) wNil)))))))))
  (wsRet (wC (.bl false)))
  wsNext)
theorem p_chkG {a b c d e f i j : Int} {Dd : DEnds} {δ : DEnv} {S : Store} {X : XQ} (ep : gPow S (.int i) (.int j) = some (.v (.int d))) (h : Dd.nx δ S) : chkG a b c d e f i j Dd δ S X := by
  have ec : gNe S (.tup [.int a, .int b, .int c, .int d, .int e, .int f]) (.tup [.int a, .int b, .int c, .int d, .int e, .int f]) = some (.v (.bl false)) := o_ne_self rfl (by simp [shp, isPy, isPys, dep, deps])
  have z6 : 6 ≤ sizeLine := szl (by omega)
  simp [chkG, ep, ec, z6]
  exact h
theorem chk_is : chk01 = chkG 8 12 4000 1000000000000 60 20 10 12 := by unfold chk01 chkG; rfl
theorem p_chk01 {Dd : DEnds} {δ : DEnv} {S : Store} {X : XQ} (h : Dd.nx δ S) : chk01 Dd δ S X := by
  rw [chk_is]
  exact p_chkG (o_pow (by unfold CPow; decide +kernel)) h
theorem seq_of {a b : WpS} {Dd : DEnds} {δ : DEnv} {S : Store} {X : XQ} (h : ∀ Dd : DEnds, Dd.nx δ S → a Dd δ S X) (hb : b Dd δ S X) : wsSeq a b Dd δ S X := h _ hb
theorem p_chkS {b : WpS} {Dd : DEnds} {δ : DEnv} {S : Store} {X : XQ} (h : b Dd δ S X) : wsSeq chk01 b Dd δ S X := seq_of (fun _ hd => p_chk01 hd) h
def ws_law (fa : Str → Addr) : WpS :=
  (wsSeq (wsSet true 1 (wCall (fun ds S Q Xq => ds.length = 1 ∧ F__law_stream ds S Q Xq) (wCons (wVar 0) wNil)))
  (wsSeq chk01
  (wsSeq (wsFor (wRng1 (wCons (wC (.int 10)) wNil)) (.nm 2)
  (wsSeq (wsSet true 3 (wCall (fun ds S Q Xq => ds.length = 3 ∧ F__law_house ds S Q Xq) (wCons (wVar 1) (wCons (wC (.int 1)) (wCons (wC (.int 8)) wNil)))))
  (wsSeq (wsIf (wTst (w2 (by2 (gIs true)) (wCall (fun ds S Q Xq => ds.length = 1 ∧ F_is_house ds S Q Xq) (wCons (wVar 3) wNil)) (wC (.bl true))))
  (wsRet (wC (.bl false)))
  wsNext)
  (wsSeq (wsSet true 4 (wCall (fun ds S Q Xq => ds.length = 2 ∧ F__law_altered ds S Q Xq) (wCons (wVar 1) (wCons (wVar 3) wNil))))
  (wsSeq (wsSet true 5 (wLst (wCons (wVar 4) (wCons (wCall (fun ds S Q Xq => ds.length = 2 ∧ F__law_altered ds S Q Xq) (wCons (wVar 1) (wCons (wVar 4) wNil))) (wCons (wCall (fun ds S Q Xq => ds.length = 2 ∧ F__law_near_miss ds S Q Xq) (wCons (wVar 1) (wCons (wVar 3) wNil))) (wCons (wTup (wCons (w2 (by2 gIx) (wVar 3) (wC (.int 0))) (wCons (wCall (fun ds S Q Xq => ds.length = 2 ∧ F__law_altered ds S Q Xq) (wCons (wVar 1) (wCons (w2 (by2 gIx) (wVar 3) (wC (.int 1))) wNil))) wNil))) wNil))))))
  (wsSeq (wsSet true 5 (w2 (by2 gAdd) (wVar 5) (wLst (wCons (wCall (fun ds S Q Xq => ds.length = 2 ∧ F__law_near_miss ds S Q Xq) (wCons (wVar 1) (wCons (wVar 3) wNil))) (wCons (wCall (fun ds S Q Xq => ds.length = 1 ∧ F__law_random_value ds S Q Xq) (wCons (wVar 1) wNil)) wNil)))))
  (wsIf (wNotT (wTru (byT truV) (wCall (fun ds S Q Xq => ds.length = 3 ∧ F__law_checks_hold fa ds S Q Xq) (wCons (wC (.opq (.ref (fa "is_house")))) (wCons (wC (.opq (.ref (fa "_law_is_house")))) (wCons (wVar 5) wNil))))))
  (wsRet (wC (.bl false)))
  wsNext)))))))
  (wsRet (wC (.bl true))))))
theorem asc_of : ∀ {D : List (Int × Int)}, (D.Pairwise fun a b => lePr a b = true) → D.Nodup → ascP D = true
  | [], _, _ => rfl
  | [p], _, _ => rfl
  | p :: q :: D, h1, h2 => by
    rw [ascP_cons, Bool.and_eq_true]
    obtain ⟨a1, a2⟩ := List.pairwise_cons.mp h1
    obtain ⟨b1, b2⟩ := List.nodup_cons.mp h2
    refine ⟨?_, asc_of a2 b2⟩
    have c := a1 q (by simp)
    rw [lePr_iff] at c
    have d : p ≠ q := fun e => b1 (by rw [e]; simp)
    simp only [ltP, decide_eq_true_eq]
    rcases c with c | ⟨c1, c2⟩
    · exact .inl c
    · refine .inr ⟨c1, ?_⟩
      by_cases z : p.2 = q.2
      · exact absurd (Prod.ext c1 z) d
      · omega
theorem house_is {n : Int} {D : List (Int × Int)} (h : House n D) (hn : n ≤ 8) : houseB (hv n D) = true := by
  have hpos := h.pos
  have hd : ∀ p ∈ D, doorB n (prV p) = true := fun p hp => by
    obtain ⟨a, b, c, d⟩ := h.inD p hp
    have := h.lt p hp
    simp [doorB, prV]; omega
  have e1 : (D.map prV).all (doorB n) = true := by
    rw [List.all_eq_true]
    intro v hv
    obtain ⟨p, hp, rfl⟩ := List.mem_map.mp hv
    exact hd p hp
  have e2 : (D.map prV).map prOf = D := by
    rw [List.map_map]
    exact (List.map_congr_left fun p _ => rfl).trans (List.map_id _)
  have e3 : ascP D = true := asc_of (h.fd (by omega)).srt (h.fd (by omega)).nd
  have e4 : acyF [] D = true := by
    unfold acyF
    rw [List.all_eq_true]
    intro k hk
    have hk' : k < D.length := List.mem_range.mp hk
    have e : D = D.take k ++ D[k] :: D.drop (k + 1) := by rw [List.getElem_cons_drop, List.take_append_drop]
    have b2 := (h.beh (by omega) e).2.1
    have eg : D.getD k (0, 0) = D[k] := by simp [List.getD_eq_getElem?_getD, List.getElem?_eq_getElem hk']
    rw [eg, List.nil_append]
    unfold pathV at b2
    unfold noC
    cases q : lk (pathsM (D.take k) D[k].1) D[k].2 with
    | none => rfl
    | some p => rw [q] at b2; cases b2
  show (decide (1 ≤ n ∧ n ≤ 8) && ((D.map prV).all (doorB n) && (ascP ((D.map prV).map prOf) && acyF [] ((D.map prV).map prOf)))) = true
  rw [e1, e2, e3, e4, decide_eq_true ⟨hpos, hn⟩]; rfl
theorem doors_cl {D : List (Int × Int)} {n : Int} (hD : inD n D) (hn : n ≤ 8) (hl : D.length ≤ 20) : gdv (10 ^ 59) (.tup (D.map prV)) = true ∧ dep (.tup (D.map prV)) ≤ 2 ∧ gw (.tup (D.map prV)) ≤ 9000 := by
  have h1 : ∀ L : List (Int × Int), (∀ p ∈ L, p.1.natAbs ≤ 100 ∧ p.2.natAbs ≤ 100) → gdvs (10 ^ 59) (L.map prV) = true ∧ deps (L.map prV) ≤ 1 ∧ gws (L.map prV) ≤ 413 * L.length := fun L => by
    induction L with
    | nil => intro _; exact ⟨by simp [gdvs], by simp [deps], by simp [gws]⟩
    | cons p L ih =>
      intro h
      obtain ⟨a, b, c⟩ := ih fun q hq => h q (List.mem_cons_of_mem _ hq)
      obtain ⟨b1, b2⟩ := h p (List.mem_cons_self ..)
      rw [List.map_cons, prV_eq]
      refine ⟨?_, ?_, ?_⟩
      · simp only [gdvs, gdv, a, Bool.and_true, Bool.and_eq_true, decide_eq_true_eq]
        omega
      · simp only [deps, dep]; omega
      · simp only [gws, gw, List.length_cons]; omega
  obtain ⟨a, b, c⟩ := h1 D fun p hp => by obtain ⟨q1, q2, q3, q4⟩ := hD p hp; exact ⟨by omega, by omega⟩
  refine ⟨by simp only [gdv, a], ?_, ?_⟩
  · simp only [dep]; omega
  · simp only [gw]; omega
theorem house_cl {D : List (Int × Int)} {n : Int} (n0 : 0 ≤ n) (hD : inD n D) (hn : n ≤ 8) (hl : D.length ≤ 20) : gdv (10 ^ 59) (hv n D) = true ∧ dep (hv n D) ≤ 3 ∧ gw (hv n D) ≤ 9500 := by
  obtain ⟨a, b, c⟩ := doors_cl hD hn hl
  refine ⟨?_, ?_, ?_⟩
  · simp only [gdv] at a
    simp only [hv, gdv, gdvs, a, Bool.and_true, decide_eq_true_eq]; omega
  · simp only [hv, dep, deps] at b ⊢; omega
  · simp only [hv, gw, gws] at c ⊢; omega
set_option maxHeartbeats 1000000 in
theorem p_law (fa : Str → Addr) : ∀ ds S Qd Xd, ds.length = 1 → F_law ds S Qd Xd → ws_law fa { nx := fun _ S' => Qd (.v .non) S', rt := Qd } (startD ["_law_script", "_law_stream_here", "_law_turn", "_law_house_here", "_law_bent", "_law_values"] ds) S (fun x _ S' => Xd x S') := by
  rintro ds S Qd Xd - ⟨ns, rfl, rfl, hn, h⟩
  have hs := sizeLine_eq
  have z2 : 2 ≤ sizeLine := szl (by omega)
  have z3 : 3 ≤ sizeLine := szl (by omega)
  have z0 : 0 ≤ sizeLine := Nat.zero_le _
  simp [ws_law, startD]
  refine ⟨ns, rfl, rfl, hn, fun S1 hS1 => ?_⟩
  simp
  refine p_chkS ?_
  have z6 : 6 ≤ sizeLine := szl (by omega)
  have z4 : 4 ≤ sizeLine := szl (by omega)
  simp
  refine ⟨⟨by decide, by decide⟩, ?_⟩
  refine for_inv (fun j δ S => ∃ R a b c d, δ = [some (.v (.scr ns)), some (.v (.ref 2)), ov a, ov b, ov c, ov d] ∧ St (j * 1000) R S) _ ?_ _ _ ⟨[], none, none, none, none, rfl, hS1.weak (by rw [rngD_len]; omega)⟩ ?_
  · rintro x hx j N hN δ S ⟨R, a, b, c, d, rfl, hS⟩
    obtain ⟨i, rfl, i0, i1⟩ := mem_rngD hx
    refine ⟨_, rfl, ?_⟩
    simp
    refine ⟨j * 1000 + 500, R, 1, 8, rfl, by omega, by omega, by omega, hS.weak (by omega), fun n D R1 S2 n0 n1 hH hS2 => ?_⟩
    have hD := hH.inD
    have hDl : D.length ≤ 8 := by have := hH.len; omega
    obtain ⟨g1, g2, g3⟩ := house_cl (by omega) hD n1 (by omega)
    obtain ⟨f1, f2, f3⟩ := doors_cl hD n1 (by omega)
    have hi := house_is hH n1
    simp
    refine ⟨hv n D, 10 ^ 59, rfl, g1, by omega, ?_⟩
    rw [hi]
    simp
    refine alt_ok (m := j * 1000 + 400) g1 (Nat.le_refl _) (by omega) (by omega) (hS2.weak (by omega)) fun v1 S3 A1 hS3 => ?_
    have a1 := A1.d
    have a2 := A1.w
    simp
    refine alt_ok (m := j * 1000 + 300) A1.g (by omega) (by omega) (by omega) (hS3.weak (by omega)) fun v2 S4 A2 hS4 => ?_
    have b1 := A2.d
    have b2 := A2.w
    simp
    refine ⟨j * 1000 + 290, _, n, D, rfl, hH, n1, hS4.weak (by omega), fun v3 S5 r3 hS5 => ?_⟩
    simp [hv_ix0, hv_ix1, -prV_eq]
    refine alt_ok (m := j * 1000 + 200) f1 (Nat.le_refl _) (by omega) (by omega) (hS5.weak (by omega)) fun v4 S6 A4 hS6 => ?_
    have d1 := A4.d
    have d2 := A4.w
    simp [z2, z4]
    refine ⟨j * 1000 + 190, _, n, D, rfl, hH, n1, hS6.weak (by omega), fun v5 S7 r5 hS7 => ?_⟩
    simp
    refine ⟨j * 1000 + 180, _, rfl, hS7.weak (by omega), fun v6 S8 h6 hS8 => ?_⟩
    obtain ⟨c1, c2, c3⟩ := rnd_gd v6 h6
    have ef : gAdd S8 (.lst [v1, v2, v3, .tup [.int n, v4]]) (.lst [v5, v6]) = some (.l [v1, v2, v3, .tup [.int n, v4], v5, v6]) := o_add_l (by simp; omega)
    simp [z2, ef]
    refine ⟨_, rfl, ?_, ?_⟩
    · intro v hv
      simp only [List.mem_cons, List.not_mem_nil, or_false] at hv
      rcases hv with rfl | rfl | rfl | rfl | rfl | rfl
      · exact ⟨gdv_mono (by omega) _ A1.g, by omega, by omega⟩
      · exact ⟨gdv_mono (by omega) _ A2.g, by omega, by omega⟩
      · exact r3.mono (by omega)
      · have q := gdv_mono (C := 10 ^ 59 + 18) (by omega) _ A4.g
        refine ⟨?_, ?_, ?_⟩
        · simp only [gdv, gdvs, q, Bool.and_true, decide_eq_true_eq]; omega
        · simp only [dep, deps]; omega
        · simp only [gw, gws]; omega
      · exact r5.mono (by omega)
      · exact ⟨gdv_mono (by omega) _ c1, by omega, by omega⟩
    · simp
      exact hN _ _ ⟨_, some (.int i), some (hv n D), some v1, some (.lst [v1, v2, v3, .tup [.int n, v4], v5, v6]), rfl, hS8.weak (by omega)⟩
  · rintro δ S ⟨R, a, b, c, d, rfl, hS⟩
    simpa using h S
theorem f_law (ns : List Int) (h1 : ns.length ≤ 63) (h2 : ∀ z ∈ ns, Builtin.Int.intBits z ≤ 1048576) : F_law [.scr ns] [] (fun c _ => c = .v (.bl true)) (fun _ _ => False) := ⟨ns, rfl, rfl, h1, fun _ => rfl⟩
end DL
namespace Lk01
open PySem PySem.Spec PyProof.Rows L2 RZ DL
def top (i : Nat) : Stmt := PySem.Challenge.pw_fromwithin_k01_houses_validated.main.body.getD i (.Pass ⟨0, 0, 0, 0⟩)
abbrev FnP (K : PySem.W.Frag) (x : Str) (st : Stmt) (f : Addr) (fd : FuncData) : Prop := FunD K x x (defArgs st) (defBody st) (defScope st) [] [] f fd
abbrev s_is_integer : Stmt := top 7
theorem sc_is_integer : FnScope ["value", "low", "high"] ["value", "low", "high"] (defScope s_is_integer) := ⟨rfl, rfl, rfl, by decide +kernel, rfl, by decide +kernel, by decide +kernel⟩
abbrev s_is_ascending : Stmt := top 8
theorem sc_is_ascending : FnScope ["values", "one", "other"] ["values"] (defScope s_is_ascending) := ⟨rfl, rfl, rfl, by decide +kernel, rfl, by decide +kernel, by decide +kernel⟩
abbrev s_is_door : Stmt := top 9
theorem sc_is_door : FnScope ["rooms", "value"] ["rooms", "value"] (defScope s_is_door) := ⟨rfl, rfl, rfl, by decide +kernel, rfl, by decide +kernel, by decide +kernel⟩
abbrev s_neighbors : Stmt := top 10
theorem sc_neighbors : FnScope ["house", "room", "found", "a", "b"] ["house", "room"] (defScope s_neighbors) := ⟨rfl, rfl, rfl, by decide +kernel, rfl, by decide +kernel, by decide +kernel⟩
abbrev s_paths_from : Stmt := top 11
theorem sc_paths_from : FnScope ["house", "room", "paths", "stack", "here", "there"] ["house", "room"] (defScope s_paths_from) := ⟨rfl, rfl, rfl, by decide +kernel, rfl, by decide +kernel, by decide +kernel⟩
abbrev s_path_between : Stmt := top 12
theorem sc_path_between : FnScope ["house", "a", "b"] ["house", "a", "b"] (defScope s_path_between) := ⟨rfl, rfl, rfl, by decide +kernel, rfl, by decide +kernel, by decide +kernel⟩
abbrev s_is_house : Stmt := top 13
theorem sc_is_house : FnScope ["value", "rooms", "doors", "door", "k"] ["value"] (defScope s_is_house) := ⟨rfl, rfl, rfl, by decide +kernel, rfl, by decide +kernel, by decide +kernel⟩
abbrev s__law_stream : Stmt := top 15
theorem sc__law_stream : FnScope ["_law_script", "_law_cells", "_law_cell"] ["_law_script"] (defScope s__law_stream) := ⟨rfl, rfl, rfl, by decide +kernel, rfl, by decide +kernel, by decide +kernel⟩
abbrev s__law_draw : Stmt := top 16
theorem sc__law_draw : FnScope ["_law_stream_here", "_law_many", "_law_rest", "_law_turn", "_law_cell", "_law_mixed"] ["_law_stream_here", "_law_many"] (defScope s__law_draw) := ⟨rfl, rfl, rfl, by decide +kernel, rfl, by decide +kernel, by decide +kernel⟩
abbrev s__law_house : Stmt := top 17
theorem sc__law_house : FnScope ["_law_stream_here", "_law_least", "_law_most", "_law_rooms", "_law_left", "_law_order", "_law_doors", "_law_lacks", "_law_k", "_law_on"] ["_law_stream_here", "_law_least", "_law_most"] (defScope s__law_house) := ⟨rfl, rfl, rfl, by decide +kernel, rfl, by decide +kernel, by decide +kernel⟩
abbrev s__law_neighbors : Stmt := top 18
theorem sc__law_neighbors : FnScope ["_law_house_here", "_law_room", "_law_found", "_law_one", "_law_other"] ["_law_house_here", "_law_room"] (defScope s__law_neighbors) := ⟨rfl, rfl, rfl, by decide +kernel, rfl, by decide +kernel, by decide +kernel⟩
abbrev s__law_connected : Stmt := top 19
theorem sc__law_connected : FnScope ["_law_house_here", "_law_rooms", "_law_room", "_law_found", "_law_spot", "_law_there"] ["_law_house_here", "_law_rooms", "_law_room"] (defScope s__law_connected) := ⟨rfl, rfl, rfl, by decide +kernel, rfl, by decide +kernel, by decide +kernel⟩
abbrev s__law_random_value : Stmt := top 20
theorem sc__law_random_value : FnScope ["_law_stream_here", "_law_some"] ["_law_stream_here"] (defScope s__law_random_value) := ⟨rfl, rfl, rfl, by decide +kernel, rfl, by decide +kernel, by decide +kernel⟩
abbrev s__law_altered : Stmt := top 21
theorem sc__law_altered : FnScope ["_law_stream_here", "_law_value", "_law_spot", "_law_course", "_law_some", "_law_more"] ["_law_stream_here", "_law_value"] (defScope s__law_altered) := ⟨rfl, rfl, rfl, by decide +kernel, rfl, by decide +kernel, by decide +kernel⟩
abbrev s__law_is_integer : Stmt := top 23
theorem sc__law_is_integer : FnScope ["_law_value", "_law_low", "_law_high"] ["_law_value", "_law_low", "_law_high"] (defScope s__law_is_integer) := ⟨rfl, rfl, rfl, by decide +kernel, rfl, by decide +kernel, by decide +kernel⟩
abbrev s__law_is_house : Stmt := top 24
theorem sc__law_is_house : FnScope ["_law_value", "_law_rooms", "_law_doors", "_law_model", "_law_door"] ["_law_value"] (defScope s__law_is_house) := ⟨rfl, rfl, rfl, by decide +kernel, rfl, by decide +kernel, by decide +kernel⟩
abbrev s__law_checks_hold : Stmt := top 22
theorem sc__law_checks_hold : FnScope ["_law_look", "_law_own", "_law_values", "_law_value", "_law_held", "_law_found"] ["_law_look", "_law_own", "_law_values"] (defScope s__law_checks_hold) := ⟨rfl, rfl, rfl, by decide +kernel, rfl, by decide +kernel, by decide +kernel⟩
abbrev s__law_near_miss : Stmt := top 25
theorem sc__law_near_miss : FnScope ["_law_stream_here", "_law_house_here", "_law_rooms", "_law_doors", "_law_one", "_law_other", "_law_more", "_law_some", "_law_door"] ["_law_stream_here", "_law_house_here"] (defScope s__law_near_miss) := ⟨rfl, rfl, rfl, by decide +kernel, rfl, by decide +kernel, by decide +kernel⟩
abbrev s_law : Stmt := top 26
theorem sc_law : FnScope ["_law_script", "_law_stream_here", "_law_turn", "_law_house_here", "_law_bent", "_law_values"] ["_law_script"] (defScope s_law) := ⟨rfl, rfl, rfl, by decide +kernel, rfl, by decide +kernel, by decide +kernel⟩
section
variable {P : Program} {w : World} {K : PySem.W.Frag} {mg : Str → Option Value} {base : Heap} {f : Addr} {fd : FuncData}
set_option maxHeartbeats 0 in
theorem cal_is_integer (F : FnP K "is_integer" s_is_integer f fd) (gx : mg "is_integer" = some (.ref f)) (g_isinstance : mg "isinstance" = none) (g_int : mg "int" = none) (g_bool : mg "bool" = none) : Cal P w K mg base 1 "is_integer" ["value", "low", "high"] F_is_integer := by
  refine cal_D (N := ["value", "low", "high"]) (k := 0) (ws := ws_is_integer) F gx sc_is_integer (F.bindsN fun _ _ _ _ _ _ us hl => match us, hl with | [_, _, _], _ => rfl) ?_ p_is_integer
  rintro _ E cd A outer s H rfl bd po
  exact (dss_one (ds_ret (d_and (e_blt (cr_isi) g_isinstance (by decide +kernel) (e_cons (e_var 0) (e_cons (e_tyn g_int (by decide +kernel)) da_nil))) (d_and (d_not (e_blt (cr_isi) g_isinstance (by decide +kernel) (e_cons (e_var 0) (e_cons (e_tyn g_bool (by decide +kernel)) da_nil)))) (d_one (d_chain or_le or_le (e_var 1) (e_var 0) (e_var 2) (by rfl)))))))
set_option maxHeartbeats 0 in
theorem cal_is_ascending (F : FnP K "is_ascending" s_is_ascending f fd) (gx : mg "is_ascending" = some (.ref f)) (g_all : mg "all" = none) (g_zip : mg "zip" = none) : Cal P w K mg base 1 "is_ascending" ["values"] F_is_ascending_h := by
  refine cal_D (N := ["values", "one", "other"]) (k := 0) (ws := ws_is_ascending_h) F gx sc_is_ascending (F.bindsN fun _ _ _ _ _ _ us hl => match us, hl with | [_], _ => rfl) ?_ p_is_ascending_h
  rintro _ E cd A outer s H rfl bd po
  exact (dss_one (ds_ret (e_blt (cr_allD bd.calm) g_all (by decide +kernel) (e_cons (e_lc [("one", 1), ("other", 2)] bd (i_zip g_zip (e_cons (e_var 0) (e_cons (e_sl (e_var 0) (o_so d_int) o_no) da_nil))) (fun _ _ _ _ _ => (g_tup bd.blk (g_cons (g_nm bd.blk 1) (g_cons (g_nm bd.blk 2) g_nil)))) (fun _ _ _ _ _ => dts_nil) (fun _ _ _ _ _ => (e_ltT bd.blk (e_var 1) (e_var 2)))) da_nil))))
set_option maxHeartbeats 0 in
theorem cal_is_door (F : FnP K "is_door" s_is_door f fd) (gx : mg "is_door" = some (.ref f)) (g_isinstance : mg "isinstance" = none) (g_tuple : mg "tuple" = none) (g_len : mg "len" = none) (c_is_integer : Cal P w K mg base 1 "is_integer" ["value", "low", "high"] F_is_integer) : Cal P w K mg base 2 "is_door" ["rooms", "value"] F_is_door := by
  refine cal_D (N := ["rooms", "value"]) (k := 1) (ws := ws_is_door) F gx sc_is_door (F.bindsN fun _ _ _ _ _ _ us hl => match us, hl with | [_, _], _ => rfl) ?_ p_is_door
  rintro _ E cd A outer s H rfl bd po
  exact (dss_cons (ds_if (t_w (dw_or (dt_not (t_tru (e_blt (cr_isi) g_isinstance (by decide +kernel) (e_cons (e_var 1) (e_cons (e_tyn g_tuple (by decide +kernel)) da_nil))))) (dw_or1 (t_ne bd (e_blt (cr_len) g_len (by decide +kernel) (e_cons (e_var 1) da_nil)) d_int))))
  (dss_one (ds_ret d_bl))
  dss_nil)
  (dss_one (ds_ret (d_and (e_call bd c_is_integer (by omega) (e_cons (e_ix (e_var 1) d_int) (e_cons d_int (e_cons (e_sub (e_var 0) d_int) da_nil)))) (d_one (e_call bd c_is_integer (by omega) (e_cons (e_ix (e_var 1) d_int) (e_cons (e_add (e_ix (e_var 1) d_int) d_int) (e_cons (e_sub (e_var 0) d_int) da_nil)))))))))
set_option maxHeartbeats 0 in
theorem cal_neighbors (F : FnP K "neighbors" s_neighbors f fd) (gx : mg "neighbors" = some (.ref f)) (g_tuple : mg "tuple" = none) (g_sorted : mg "sorted" = none) : Cal P w K mg base 1 "neighbors" ["house", "room"] F_neighbors := by
  refine cal_D (N := ["house", "room", "found", "a", "b"]) (k := 0) (ws := ws_neighbors) F gx sc_neighbors (F.bindsN fun _ _ _ _ _ _ us hl => match us, hl with | [_, _], _ => rfl) ?_ p_neighbors
  rintro _ E cd A outer s H rfl bd po
  exact (dss_cons (ds_setLc true 2 [("a", 3), ("b", 4)] bd (di_seq (e_ix (e_var 0) d_int)) (fun _ _ _ _ _ => (g_tup bd.blk (g_cons (g_nm bd.blk 3) (g_cons (g_nm bd.blk 4) g_nil)))) (fun _ _ _ _ _ => (dts_one (t_eq bd.blk (e_var 3) (e_var 1)))) (fun _ _ _ _ _ => (e_var 4)))
  (dss_one (ds_ret (e_tyc cr_tuple g_tuple (by decide +kernel) (e_cons (e_blt (cr_sortedD bd.calm) g_sorted (by decide +kernel) (e_cons (e_add (e_var 2) (e_lc [("a", 3), ("b", 4)] bd (di_seq (e_ix (e_var 0) d_int)) (fun _ _ _ _ _ => (g_tup bd.blk (g_cons (g_nm bd.blk 3) (g_cons (g_nm bd.blk 4) g_nil)))) (fun _ _ _ _ _ => (dts_one (t_eq bd.blk (e_var 4) (e_var 1)))) (fun _ _ _ _ _ => (e_var 3)))) da_nil)) da_nil)))))
set_option maxHeartbeats 0 in
theorem cal_paths_from (F : FnP K "paths_from" s_paths_from f fd) (gx : mg "paths_from" = some (.ref f)) (c_neighbors : Cal P w K mg base 1 "neighbors" ["house", "room"] F_neighbors) : Cal P w K mg base 2 "paths_from" ["house", "room"] F_paths_from := by
  refine cal_D (N := ["house", "room", "paths", "stack", "here", "there"]) (k := 1) (ws := ws_paths_from) F gx sc_paths_from (F.bindsN fun _ _ _ _ _ _ us hl => match us, hl with | [_, _], _ => rfl) ?_ p_paths_from
  rintro _ E cd A outer s H rfl bd po
  exact (dss_cons (ds_setO true 2 bd (e_disp (p_cons (e_var 1) (d_tup (e_cons (e_var 1) da_nil)) p_nil)))
  (dss_cons (ds_setO true 3 bd (d_lst (e_cons (e_var 1) da_nil)))
  (dss_cons (ds_while po (t_tru (e_var 3))
  (dss_cons (ds_pop 3 4 bd)
  (dss_one (ds_for po bd (di_seq (e_call bd c_neighbors (by omega) (e_cons (e_var 0) (e_cons (e_var 4) da_nil)))) (g_nm bd 5)
  (dss_one (ds_if (t_dnotin bd (e_var 5) (e_var 2))
  (dss_cons (ds_dput false 2 bd (e_var 5) (e_add (e_dget bd (e_var 2) (e_var 4)) (d_tup (e_cons (e_var 5) da_nil))))
  (dss_one (ds_append true 3 (e_var 5))))
  dss_nil))))))
  (dss_one (ds_retO 2)))))
set_option maxHeartbeats 0 in
theorem cal_path_between (F : FnP K "path_between" s_path_between f fd) (gx : mg "path_between" = some (.ref f)) (c_paths_from : Cal P w K mg base 2 "paths_from" ["house", "room"] F_paths_from) : Cal P w K mg base 3 "path_between" ["house", "a", "b"] F_path_between := by
  refine cal_D (N := ["house", "a", "b"]) (k := 2) (ws := ws_path_between) F gx sc_path_between (F.bindsN fun _ _ _ _ _ _ us hl => match us, hl with | [_, _, _], _ => rfl) ?_ p_path_between
  rintro _ E cd A outer s H rfl bd po
  exact (dss_one (ds_ret (e_dget1 bd (e_call bd c_paths_from (by omega) (e_cons (e_var 0) (e_cons (e_var 1) da_nil))) (e_var 2))))
set_option maxHeartbeats 0 in
theorem cal_is_house (F : FnP K "is_house" s_is_house f fd) (gx : mg "is_house" = some (.ref f)) (g_isinstance : mg "isinstance" = none) (g_tuple : mg "tuple" = none) (g_len : mg "len" = none) (g_all : mg "all" = none) (g_enumerate : mg "enumerate" = none) (v_MAX_ROOMS : ∃ t, mg "MAX_ROOMS" = some (.int 8 t)) (c_is_integer : Cal P w K mg base 1 "is_integer" ["value", "low", "high"] F_is_integer) (c_is_door : Cal P w K mg base 2 "is_door" ["rooms", "value"] F_is_door) (c_is_ascending : Cal P w K mg base 1 "is_ascending" ["values"] F_is_ascending_h) (c_path_between : Cal P w K mg base 3 "path_between" ["house", "a", "b"] F_path_between) : Cal P w K mg base 4 "is_house" ["value"] F_is_house := by
  refine cal_D (N := ["value", "rooms", "doors", "door", "k"]) (k := 3) (ws := ws_is_house) F gx sc_is_house (F.bindsN fun _ _ _ _ _ _ us hl => match us, hl with | [_], _ => rfl) ?_ p_is_house
  rintro _ E cd A outer s H rfl bd po
  exact (dss_cons (ds_if (t_w (dw_or (dt_not (t_tru (e_blt (cr_isi) g_isinstance (by decide +kernel) (e_cons (e_var 0) (e_cons (e_tyn g_tuple (by decide +kernel)) da_nil))))) (dw_or (t_ne bd (e_blt (cr_len) g_len (by decide +kernel) (e_cons (e_var 0) da_nil)) d_int) (dw_or1 (dt_not (t_tru (e_call bd c_is_integer (by omega) (e_cons (e_ix (e_var 0) d_int) (e_cons d_int (e_cons (d_glob (by rfl) (globI v_MAX_ROOMS rfl) (by decide)) da_nil))))))))))
  (dss_one (ds_ret d_bl))
  dss_nil)
  (dss_cons (ds_asg true (e_var 0) (g_tup bd (g_cons (g_nm bd 1) (g_cons (g_nm bd 2) g_nil))))
  (dss_cons (ds_if (t_w (dw_or (dt_not (t_tru (e_blt (cr_isi) g_isinstance (by decide +kernel) (e_cons (e_var 2) (e_cons (e_tyn g_tuple (by decide +kernel)) da_nil))))) (dw_or (dt_not (t_tru (e_blt (cr_allD bd.calm) g_all (by decide +kernel) (e_cons (e_lc [("door", 3)] bd (di_seq (e_var 2)) (fun _ _ _ _ _ => (g_nm bd.blk 3)) (fun _ _ _ _ _ => dts_nil) (fun _ _ _ _ _ => (e_call bd.blk c_is_door (by omega) (e_cons (e_var 1) (e_cons (e_var 3) da_nil))))) da_nil)))) (dw_or1 (dt_not (t_tru (e_call bd c_is_ascending (by omega) (e_cons (e_var 2) da_nil))))))))
  (dss_one (ds_ret d_bl))
  dss_nil)
  (dss_one (ds_ret (e_blt (cr_allD bd.calm) g_all (by decide +kernel) (e_cons (e_lc [("k", 4), ("door", 3)] bd (i_enum g_enumerate (e_cons (e_var 2) da_nil)) (fun _ _ _ _ _ => (g_tup bd.blk (g_cons (g_nm bd.blk 4) (g_cons (g_nm bd.blk 3) g_nil)))) (fun _ _ _ _ _ => dts_nil) (fun _ _ _ _ _ => (e_is (e_call bd.blk c_path_between (by omega) (e_cons (d_tup (e_cons (e_var 1) (e_cons (e_sl (e_var 2) o_no (o_so (e_var 4))) da_nil))) (e_cons (e_ix (e_var 3) d_int) (e_cons (e_ix (e_var 3) d_int) da_nil)))) d_non))) da_nil)))))))
set_option maxHeartbeats 0 in
theorem cal__law_stream (F : FnP K "_law_stream" s__law_stream f fd) (gx : mg "_law_stream" = some (.ref f)) (g_abs : mg "abs" = none) (g_len : mg "len" = none) : Cal P w K mg base 1 "_law_stream" ["_law_script"] F__law_stream := by
  refine cal_D (N := ["_law_script", "_law_cells", "_law_cell"]) (k := 0) (ws := ws__law_stream) F gx sc__law_stream (F.bindsN fun _ _ _ _ _ _ us hl => match us, hl with | [_], _ => rfl) ?_ p__law_stream
  rintro _ E cd A outer s H rfl bd po
  exact (dss_cons (ds_setLc true 1 [("_law_cell", 2)] bd (di_seq (e_var 0)) (fun _ _ _ _ _ => (g_nm bd.blk 2)) (fun _ _ _ _ _ => dts_nil) (fun _ _ _ _ _ => (e_blt (cr_abs) g_abs (by decide +kernel) (e_cons (e_var 2) da_nil))))
  (dss_one (ds_ret (e_share (d_lst (e_cons (e_share (e_lc [("_law_cell", 2)] bd (di_seq (e_var 1)) (fun _ _ _ _ _ => (g_nm bd.blk 2)) (fun _ _ _ _ _ => (dts_one (t_ge (e_var 2) (e_pow d_int d_int)))) (fun _ _ _ _ _ => (e_var 2)))) (e_cons (e_share (e_add (e_var 1) (d_lst (e_cons (e_add (e_blt (cr_len) g_len (by decide +kernel) (e_cons (e_var 1) da_nil)) d_int) da_nil)))) (e_cons d_int da_nil))))))))
set_option maxHeartbeats 0 in
theorem cal__law_draw (F : FnP K "_law_draw" s__law_draw f fd) (gx : mg "_law_draw" = some (.ref f)) (g_len : mg "len" = none) : Cal P w K mg base 1 "_law_draw" ["_law_stream_here", "_law_many"] F__law_draw := by
  refine cal_D (N := ["_law_stream_here", "_law_many", "_law_rest", "_law_turn", "_law_cell", "_law_mixed"]) (k := 0) (ws := ws__law_draw) F gx sc__law_draw (F.bindsN fun _ _ _ _ _ _ us hl => match us, hl with | [_, _], _ => rfl) ?_ p__law_draw
  rintro _ E cd A outer s H rfl bd po
  exact (dss_cons (ds_while po (t_ne bd (e_ix (e_var 0) d_int) (d_lst da_nil))
  (dss_cons (ds_set true 2 bd (e_ix (e_ix (e_var 0) d_int) d_int))
  (dss_cons (ds_if (t_gt (e_var 2) d_int)
  (dss_cons (ds_stSet (e_ix (e_var 0) d_int) d_int (e_fdv (e_var 2) (e_var 1)))
  (dss_one (ds_ret (e_mod (e_var 2) (e_var 1)))))
  dss_nil)
  (dss_one (ds_expr true (e_popAt (e_ix (e_var 0) d_int) d_int))))))
  (dss_cons (ds_set true 3 bd (e_add (e_ix (e_var 0) d_int) d_int))
  (dss_cons (ds_stSet (e_var 0) d_int (e_var 3))
  (dss_cons (ds_set true 4 bd (e_mod (e_ix (e_ix (e_var 0) d_int) (e_mod (e_var 3) (e_blt (cr_len) g_len (by decide +kernel) (e_cons (e_ix (e_var 0) d_int) da_nil)))) d_int))
  (dss_cons (ds_set true 5 bd (e_add (e_add (e_mul (e_var 4) (e_add d_int (e_mul d_int (e_var 3)))) (e_mul (e_mul d_int (e_var 3)) (e_var 3))) d_int))
  (dss_cons (ds_set true 5 bd (e_mod (e_var 5) d_int))
  (dss_one (ds_ret (e_mod (e_fdv (e_mod (e_mul (e_var 5) (e_var 5)) d_int) d_int) (e_var 1))))))))))
set_option maxHeartbeats 0 in
theorem cal__law_house (F : FnP K "_law_house" s__law_house f fd) (gx : mg "_law_house" = some (.ref f)) (g_list : mg "list" = none) (g_range : mg "range" = none) (g_len : mg "len" = none) (g_min : mg "min" = none) (g_max : mg "max" = none) (g_tuple : mg "tuple" = none) (g_sorted : mg "sorted" = none) (c__law_draw : Cal P w K mg base 1 "_law_draw" ["_law_stream_here", "_law_many"] F__law_draw) : Cal P w K mg base 2 "_law_house" ["_law_stream_here", "_law_least", "_law_most"] F__law_house := by
  refine cal_D (N := ["_law_stream_here", "_law_least", "_law_most", "_law_rooms", "_law_left", "_law_order", "_law_doors", "_law_lacks", "_law_k", "_law_on"]) (k := 1) (ws := ws__law_house) F gx sc__law_house (F.bindsN fun _ _ _ _ _ _ us hl => match us, hl with | [_, _, _], _ => rfl) ?_ p__law_house
  rintro _ E cd A outer s H rfl bd po
  exact (dss_cons (ds_set true 3 bd (e_add (e_var 1) (e_call bd c__law_draw (by omega) (e_cons (e_var 0) (e_cons (e_add (e_sub (e_var 2) (e_var 1)) d_int) da_nil)))))
  (dss_cons (ds_par3 true 4 5 6 bd (e_share (e_lrg bd g_list (r_1 g_range (e_var 3)))) (d_lst da_nil) (d_lst da_nil))
  (dss_cons (ds_while po (t_ne bd (e_var 4) (d_lst da_nil))
  (dss_one (ds_append true 5 (e_popAt (e_var 4) (e_call bd c__law_draw (by omega) (e_cons (e_var 0) (e_cons (e_blt (cr_len) g_len (by decide +kernel) (e_cons (e_var 4) da_nil)) da_nil)))))))
  (dss_cons (ds_set true 7 bd (e_ix (d_lst (e_cons d_int (e_cons d_int (e_cons d_int da_nil)))) (e_call bd c__law_draw (by omega) (e_cons (e_var 0) (e_cons d_int da_nil)))))
  (dss_cons (ds_for po bd (i_rng2 g_range (e_cons d_int (e_cons (e_var 3) da_nil))) (g_nm bd 8)
  (dss_cons (ds_set false 9 bd (e_ix (e_var 5) (e_ix (d_lst (e_cons (e_sub (e_var 8) d_int) (e_cons d_int (e_cons (e_call bd c__law_draw (by omega) (e_cons (e_var 0) (e_cons (e_var 8) da_nil))) da_nil)))) (e_call bd c__law_draw (by omega) (e_cons (e_var 0) (e_cons d_int da_nil))))))
  (dss_one (ds_if (t_w (dw_or (t_eq bd (e_var 7) d_int) (dw_or1 (t_gt (e_call bd c__law_draw (by omega) (e_cons (e_var 0) (e_cons (e_var 7) da_nil))) d_int))))
  (dss_one (ds_append false 6 (d_tup (e_cons (e_blt (cr_min2D bd.calm) g_min (by decide +kernel) (e_cons (e_var 9) (e_cons (e_ix (e_var 5) (e_var 8)) da_nil))) (e_cons (e_blt (cr_max2D bd.calm) g_max (by decide +kernel) (e_cons (e_var 9) (e_cons (e_ix (e_var 5) (e_var 8)) da_nil))) da_nil)))))
  dss_nil))))
  (dss_one (ds_ret (d_tup (e_cons (e_var 3) (e_cons (e_tyc cr_tuple g_tuple (by decide +kernel) (e_cons (e_blt (cr_sortedD bd.calm) g_sorted (by decide +kernel) (e_cons (e_var 6) da_nil)) da_nil)) da_nil))))))))))
set_option maxHeartbeats 0 in
theorem cal__law_neighbors (F : FnP K "_law_neighbors" s__law_neighbors f fd) (gx : mg "_law_neighbors" = some (.ref f)) (g_sorted : mg "sorted" = none) : Cal P w K mg base 1 "_law_neighbors" ["_law_house_here", "_law_room"] F__law_neighbors := by
  refine cal_D (N := ["_law_house_here", "_law_room", "_law_found", "_law_one", "_law_other"]) (k := 0) (ws := ws__law_neighbors) F gx sc__law_neighbors (F.bindsN fun _ _ _ _ _ _ us hl => match us, hl with | [_, _], _ => rfl) ?_ p__law_neighbors
  rintro _ E cd A outer s H rfl bd po
  exact (dss_cons (ds_setLc true 2 [("_law_one", 3), ("_law_other", 4)] bd (di_seq (e_ix (e_var 0) d_int)) (fun _ _ _ _ _ => (g_tup bd.blk (g_cons (g_nm bd.blk 3) (g_cons (g_nm bd.blk 4) g_nil)))) (fun _ _ _ _ _ => (dts_one (t_eq bd.blk (e_var 3) (e_var 1)))) (fun _ _ _ _ _ => (e_var 4)))
  (dss_one (ds_ret (e_blt (cr_sortedD bd.calm) g_sorted (by decide +kernel) (e_cons (e_add (e_var 2) (e_lc [("_law_one", 3), ("_law_other", 4)] bd (di_seq (e_ix (e_var 0) d_int)) (fun _ _ _ _ _ => (g_tup bd.blk (g_cons (g_nm bd.blk 3) (g_cons (g_nm bd.blk 4) g_nil)))) (fun _ _ _ _ _ => (dts_one (t_eq bd.blk (e_var 4) (e_var 1)))) (fun _ _ _ _ _ => (e_var 3)))) da_nil)))))
set_option maxHeartbeats 0 in
theorem cal__law_connected (F : FnP K "_law_connected" s__law_connected f fd) (gx : mg "_law_connected" = some (.ref f)) (g_len : mg "len" = none) (g_tuple : mg "tuple" = none) (g_sorted : mg "sorted" = none) (c__law_neighbors : Cal P w K mg base 1 "_law_neighbors" ["_law_house_here", "_law_room"] F__law_neighbors) : Cal P w K mg base 2 "_law_connected" ["_law_house_here", "_law_rooms", "_law_room"] F__law_connected := by
  refine cal_D (N := ["_law_house_here", "_law_rooms", "_law_room", "_law_found", "_law_spot", "_law_there"]) (k := 1) (ws := ws__law_connected) F gx sc__law_connected (F.bindsN fun _ _ _ _ _ _ us hl => match us, hl with | [_, _, _], _ => rfl) ?_ p__law_connected
  rintro _ E cd A outer s H rfl bd po
  exact (dss_cons (ds_par2c true 3 4 bd (d_lst (e_cons (e_var 2) da_nil)) d_int)
  (dss_cons (ds_while po (t_lt (e_var 4) (e_blt (cr_len) g_len (by decide +kernel) (e_cons (e_var 3) da_nil)))
  (dss_cons (ds_extend false 3 (e_lc [("_law_there", 5)] bd (di_seq (e_call bd c__law_neighbors (by omega) (e_cons (e_var 0) (e_cons (e_ix (e_var 3) (e_var 4)) da_nil)))) (fun _ _ _ _ _ => (g_nm bd.blk 5)) (fun _ _ _ _ _ => (dts_one (t_w (dw_and (t_in bd.blk (e_var 5) (e_var 1)) (dw_and1 (t_notIn bd.blk (e_var 5) (e_var 3))))))) (fun _ _ _ _ _ => (e_var 5))))
  (dss_one (ds_set true 4 bd (e_add (e_var 4) d_int)))))
  (dss_one (ds_ret (e_tyc cr_tuple g_tuple (by decide +kernel) (e_cons (e_blt (cr_sortedD bd.calm) g_sorted (by decide +kernel) (e_cons (e_var 3) da_nil)) da_nil))))))
set_option maxHeartbeats 0 in
theorem cal__law_random_value (F : FnP K "_law_random_value" s__law_random_value f fd) (gx : mg "_law_random_value" = some (.ref f)) (c__law_draw : Cal P w K mg base 1 "_law_draw" ["_law_stream_here", "_law_many"] F__law_draw) : Cal P w K mg base 2 "_law_random_value" ["_law_stream_here"] F__law_random_value := by
  refine cal_D (N := ["_law_stream_here", "_law_some"]) (k := 1) (ws := ws__law_random_value) F gx sc__law_random_value (F.bindsN fun _ _ _ _ _ _ us hl => match us, hl with | [_], _ => rfl) ?_ p__law_random_value
  rintro _ E cd A outer s H rfl bd po
  exact (dss_cons (ds_set true 1 bd (d_lst (e_cons d_non (e_cons d_bl (e_cons d_bl (e_cons d_int (e_cons d_int (e_cons (d_neg d_int) (e_cons d_int (e_cons (e_pow d_int d_int) (e_cons d_str (e_cons d_str (e_cons d_str (e_cons d_str (e_cons d_str (e_cons (d_tup da_nil) (e_cons (d_lst da_nil) (e_cons e_dnew (e_cons (d_tup (e_cons d_int da_nil)) (e_cons (d_tup (e_cons d_int (e_cons d_int da_nil))) (e_cons (d_lst (e_cons d_int (e_cons d_int da_nil))) da_nil)))))))))))))))))))))
  (dss_cons (ds_set true 1 bd (e_add (e_var 1) (d_lst (e_cons (d_tup (e_cons d_int (e_cons d_int da_nil))) (e_cons (d_tup (e_cons d_int (e_cons d_int (e_cons d_int da_nil)))) (e_cons (d_tup (e_cons (d_tup (e_cons d_int (e_cons d_int da_nil))) da_nil)) (e_cons (d_tup (e_cons d_str (e_cons d_int da_nil))) (e_cons d_str (e_cons (d_tup (e_cons (d_tup (e_cons d_str (e_cons d_int da_nil))) da_nil)) da_nil)))))))))
  (dss_one (ds_ret (e_ix (e_var 1) (e_call bd c__law_draw (by omega) (e_cons (e_var 0) (e_cons d_int da_nil))))))))
set_option maxHeartbeats 0 in
theorem calr__law_altered (F : FnP K "_law_altered" s__law_altered f fd) (gx : mg "_law_altered" = some (.ref f)) (g_isinstance : mg "isinstance" = none) (g_tuple : mg "tuple" = none) (g_len : mg "len" = none) (g_list : mg "list" = none) (g_int : mg "int" = none) (c__law_draw : Cal P w K mg base 1 "_law_draw" ["_law_stream_here", "_law_many"] F__law_draw) (c__law_random_value : Cal P w K mg base 2 "_law_random_value" ["_law_stream_here"] F__law_random_value) {j : Nat} (hj : 2 ≤ j) {FR FT : FSpec} (c__law_altered : Cal P w K mg base j "_law_altered" ["_law_stream_here", "_law_value"] FR)
    (p : ∀ ds S Qd Xd, ds.length = 2 → FT ds S Qd Xd → ws__law_altered FR { nx := fun _ S' => Qd (.v .non) S', rt := Qd } (startD ["_law_stream_here", "_law_value", "_law_spot", "_law_course", "_law_some", "_law_more"] ds) S (fun x _ S' => Xd x S')) : Cal P w K mg base (j + 1) "_law_altered" ["_law_stream_here", "_law_value"] FT := by
  refine cal_D (N := ["_law_stream_here", "_law_value", "_law_spot", "_law_course", "_law_some", "_law_more"]) (k := j) (ws := ws__law_altered FR) F gx sc__law_altered (F.bindsN fun _ _ _ _ _ _ us hl => match us, hl with | [_, _], _ => rfl) ?_ p
  rintro _ E cd A outer s H rfl bd po
  exact (dss_cons (ds_if (t_w (dw_or (dt_not (t_tru (e_blt (cr_isi) g_isinstance (by decide +kernel) (e_cons (e_var 1) (e_cons (e_tyn g_tuple (by decide +kernel)) da_nil))))) (dw_or (t_eqE bd (e_var 1) (d_tup da_nil)) (dw_or1 (t_eq bd (e_call bd c__law_draw (by omega) (e_cons (e_var 0) (e_cons d_int da_nil))) d_int)))))
  (dss_one (ds_ret (e_call bd c__law_random_value (by omega) (e_cons (e_var 0) da_nil))))
  dss_nil)
  (dss_cons (ds_set true 2 bd (e_call bd c__law_draw (by omega) (e_cons (e_var 0) (e_cons (e_blt (cr_len) g_len (by decide +kernel) (e_cons (e_var 1) da_nil)) da_nil))))
  (dss_cons (ds_set true 3 bd (e_call bd c__law_draw (by omega) (e_cons (e_var 0) (e_cons d_int da_nil))))
  (dss_cons (ds_if (t_lt (e_var 3) d_int)
  (dss_cons (ds_set true 4 bd (d_lst (e_cons (e_add (e_sl (e_var 1) o_no (o_so (e_var 2))) (e_sl (e_var 1) (o_so (e_add (e_var 2) d_int)) o_no)) (e_cons (e_add (e_sl (e_var 1) o_no (o_so (e_add (e_var 2) d_int))) (e_sl (e_var 1) (o_so (e_var 2)) o_no)) (e_cons (e_rev (e_var 1)) (e_cons (e_tyc cr_list g_list (by decide +kernel) (e_cons (e_var 1) da_nil)) da_nil))))))
  (dss_one (ds_ret (e_ix (e_var 4) (e_var 3)))))
  dss_nil)
  (dss_cons (ds_if (t_w (dw_and (t_eq bd (e_var 3) d_int) (dw_and1 (t_tru (e_blt (cr_isi) g_isinstance (by decide +kernel) (e_cons (e_ix (e_var 1) (e_var 2)) (e_cons (e_tyn g_int (by decide +kernel)) da_nil)))))))
  (dss_cons (ds_set true 5 bd (e_addB (e_ix (e_var 1) (e_var 2)) (e_ix (d_lst (e_cons d_int (e_cons (d_neg d_int) (e_cons d_int (e_cons (d_neg d_int) (e_cons d_int da_nil)))))) (e_call bd c__law_draw (by omega) (e_cons (e_var 0) (e_cons d_int da_nil))))))
  (dss_one (ds_ret (e_add (e_add (e_sl (e_var 1) o_no (o_so (e_var 2))) (d_tup (e_cons (e_var 5) da_nil))) (e_sl (e_var 1) (o_so (e_add (e_var 2) d_int)) o_no)))))
  dss_nil)
  (dss_one (ds_ret (e_add (e_add (e_sl (e_var 1) o_no (o_so (e_var 2))) (d_tup (e_cons (e_call bd c__law_altered (by omega) (e_cons (e_var 0) (e_cons (e_ix (e_var 1) (e_var 2)) da_nil))) da_nil))) (e_sl (e_var 1) (o_so (e_add (e_var 2) d_int)) o_no)))))))))
theorem cal__law_altered (F : FnP K "_law_altered" s__law_altered f fd) (gx : mg "_law_altered" = some (.ref f)) (g_isinstance : mg "isinstance" = none) (g_tuple : mg "tuple" = none) (g_len : mg "len" = none) (g_list : mg "list" = none) (g_int : mg "int" = none) (c__law_draw : Cal P w K mg base 1 "_law_draw" ["_law_stream_here", "_law_many"] F__law_draw) (c__law_random_value : Cal P w K mg base 2 "_law_random_value" ["_law_stream_here"] F__law_random_value) : Cal P w K mg base 12 "_law_altered" ["_law_stream_here", "_law_value"] F__law_altered := by
  have h : ∀ i, Cal P w K mg base (2 + i) "_law_altered" ["_law_stream_here", "_law_value"] (FR__law_altered i) := by
    intro i
    induction i with
    | zero => exact cal_F F gx (F.bindsN fun _ _ _ _ _ _ us hl => match us, hl with | [_, _], _ => rfl) (fun _ _ _ _ h => h)
    | succ i ih => exact calr__law_altered F gx g_isinstance g_tuple g_len g_list g_int c__law_draw c__law_random_value (Nat.le_add_right _ _) ih (p__law_altered i)
  exact (h 9).mono (by omega)
set_option maxHeartbeats 0 in
theorem cal__law_is_integer (F : FnP K "_law_is_integer" s__law_is_integer f fd) (gx : mg "_law_is_integer" = some (.ref f)) (g_isinstance : mg "isinstance" = none) (g_int : mg "int" = none) (g_bool : mg "bool" = none) : Cal P w K mg base 1 "_law_is_integer" ["_law_value", "_law_low", "_law_high"] F__law_is_integer := by
  refine cal_D (N := ["_law_value", "_law_low", "_law_high"]) (k := 0) (ws := ws__law_is_integer) F gx sc__law_is_integer (F.bindsN fun _ _ _ _ _ _ us hl => match us, hl with | [_, _, _], _ => rfl) ?_ p__law_is_integer
  rintro _ E cd A outer s H rfl bd po
  exact (dss_one (ds_ret (d_and (e_blt (cr_isi) g_isinstance (by decide +kernel) (e_cons (e_var 0) (e_cons (e_tyn g_int (by decide +kernel)) da_nil))) (d_and (d_not (e_blt (cr_isi) g_isinstance (by decide +kernel) (e_cons (e_var 0) (e_cons (e_tyn g_bool (by decide +kernel)) da_nil)))) (d_one (d_chain or_le or_le (e_var 1) (e_var 0) (e_var 2) (by rfl)))))))
set_option maxHeartbeats 0 in
theorem cal__law_is_house (F : FnP K "_law_is_house" s__law_is_house f fd) (gx : mg "_law_is_house" = some (.ref f)) (g_isinstance : mg "isinstance" = none) (g_tuple : mg "tuple" = none) (g_len : mg "len" = none) (g_list : mg "list" = none) (g_range : mg "range" = none) (c__law_is_integer : Cal P w K mg base 1 "_law_is_integer" ["_law_value", "_law_low", "_law_high"] F__law_is_integer) (c__law_connected : Cal P w K mg base 2 "_law_connected" ["_law_house_here", "_law_rooms", "_law_room"] F__law_connected) : Cal P w K mg base 3 "_law_is_house" ["_law_value"] F__law_is_house := by
  refine cal_D (N := ["_law_value", "_law_rooms", "_law_doors", "_law_model", "_law_door"]) (k := 2) (ws := ws__law_is_house) F gx sc__law_is_house (F.bindsN fun _ _ _ _ _ _ us hl => match us, hl with | [_], _ => rfl) ?_ p__law_is_house
  rintro _ E cd A outer s H rfl bd po
  exact (dss_cons (ds_if (t_w (dw_or (dt_not (t_tru (e_blt (cr_isi) g_isinstance (by decide +kernel) (e_cons (e_var 0) (e_cons (e_tyn g_tuple (by decide +kernel)) da_nil))))) (dw_or (t_ne bd (e_blt (cr_len) g_len (by decide +kernel) (e_cons (e_var 0) da_nil)) d_int) (dw_or1 (dt_not (t_tru (e_call bd c__law_is_integer (by omega) (e_cons (e_ix (e_var 0) d_int) (e_cons d_int (e_cons d_int da_nil))))))))))
  (dss_one (ds_ret d_bl))
  dss_nil)
  (dss_cons (ds_asg true (e_var 0) (g_tup bd (g_cons (g_nm bd 1) (g_cons (g_nm bd 2) g_nil))))
  (dss_cons (ds_if (dt_not (t_tru (e_blt (cr_isi) g_isinstance (by decide +kernel) (e_cons (e_var 2) (e_cons (e_tyn g_tuple (by decide +kernel)) da_nil)))))
  (dss_one (ds_ret d_bl))
  dss_nil)
  (dss_cons (ds_setO true 3 bd (d_lst da_nil))
  (dss_cons (ds_for po bd (di_seq (e_var 2)) (g_nm bd 4)
  (dss_cons (ds_if (t_w (dw_or (dt_not (t_tru (e_blt (cr_isi) g_isinstance (by decide +kernel) (e_cons (e_var 4) (e_cons (e_tyn g_tuple (by decide +kernel)) da_nil))))) (dw_or (t_ne bd (e_blt (cr_len) g_len (by decide +kernel) (e_cons (e_var 4) da_nil)) d_int) (dw_or1 (dt_not (t_tru (e_call bd c__law_is_integer (by omega) (e_cons (e_ix (e_var 4) d_int) (e_cons d_int (e_cons (e_sub (e_var 1) d_int) da_nil))))))))))
  (dss_one (ds_ret d_bl))
  dss_nil)
  (dss_cons (ds_if (t_w (dw_or (dt_not (t_tru (e_call bd c__law_is_integer (by omega) (e_cons (e_ix (e_var 4) d_int) (e_cons (e_add (e_ix (e_var 4) d_int) d_int) (e_cons (e_sub (e_var 1) d_int) da_nil)))))) (dw_or1 (t_w (dw_and (t_ne bd (e_var 3) (d_lst da_nil)) (dw_and1 (t_leT bd (e_var 4) (e_ix (e_var 3) (d_neg d_int)))))))))
  (dss_one (ds_ret d_bl))
  dss_nil)
  (dss_cons (ds_if (t_in bd (e_ix (e_var 4) d_int) (e_call bd c__law_connected (by omega) (e_cons (d_tup (e_cons (e_var 1) (e_cons (e_tyc cr_tuple g_tuple (by decide +kernel) (e_cons (e_var 3) da_nil)) da_nil))) (e_cons (e_lrg bd g_list (r_1 g_range (e_var 1))) (e_cons (e_ix (e_var 4) d_int) da_nil)))))
  (dss_one (ds_ret d_bl))
  dss_nil)
  (dss_one (ds_append true 3 (e_var 4)))))))
  (dss_one (ds_ret d_bl)))))))
set_option maxHeartbeats 0 in
theorem cal__law_checks_hold (F : FnP K "_law_checks_hold" s__law_checks_hold f fd) (gx : mg "_law_checks_hold" = some (.ref f)) (g_repr : mg "repr" = none) (g_isinstance : mg "isinstance" = none) (g_bool : mg "bool" = none) (sk : SysK K) (c_is_house : Cal P w K mg base 4 "is_house" ["value"] F_is_house) (c__law_is_house : Cal P w K mg base 3 "_law_is_house" ["_law_value"] F__law_is_house) : Cal P w K mg base 5 "_law_checks_hold" ["_law_look", "_law_own", "_law_values"] (F__law_checks_hold (fam mg)) := by
  refine cal_D (N := ["_law_look", "_law_own", "_law_values", "_law_value", "_law_held", "_law_found"]) (k := 4) (ws := (ws__law_checks_hold (fam mg))) F gx sc__law_checks_hold (F.bindsN fun _ _ _ _ _ _ us hl => match us, hl with | [_, _, _], _ => rfl) ?_ (p__law_checks_hold (fam mg))
  rintro _ E cd A outer s H rfl bd po
  exact (dss_cons (ds_for po bd (di_seq (e_var 2)) (g_nm bd 3)
  (dss_cons (ds_set true 4 bd (e_blt (cr_repr sk bd.un bd.g) g_repr (by decide +kernel) (e_cons (e_var 3) da_nil)))
  (dss_cons (ds_set true 5 bd (e_callL 0 "is_house" bd c_is_house (by omega) (e_cons (e_var 3) da_nil)))
  (dss_one (ds_if (t_w (dw_or (dt_not (t_tru (e_blt (cr_isi) g_isinstance (by decide +kernel) (e_cons (e_var 5) (e_cons (e_tyn g_bool (by decide +kernel)) da_nil))))) (dw_or (t_ne bd (e_var 5) (e_callL 1 "_law_is_house" bd c__law_is_house (by omega) (e_cons (e_var 3) da_nil))) (dw_or1 (t_ne bd (e_blt (cr_repr sk bd.un bd.g) g_repr (by decide +kernel) (e_cons (e_var 3) da_nil)) (e_var 4))))))
  (dss_one (ds_ret d_bl))
  dss_nil)))))
  (dss_one (ds_ret d_bl)))
set_option maxHeartbeats 0 in
theorem cal__law_near_miss (F : FnP K "_law_near_miss" s__law_near_miss f fd) (gx : mg "_law_near_miss" = some (.ref f)) (g_tuple : mg "tuple" = none) (g_sorted : mg "sorted" = none) (g_min : mg "min" = none) (g_max : mg "max" = none) (c__law_draw : Cal P w K mg base 1 "_law_draw" ["_law_stream_here", "_law_many"] F__law_draw) : Cal P w K mg base 2 "_law_near_miss" ["_law_stream_here", "_law_house_here"] F__law_near_miss := by
  refine cal_D (N := ["_law_stream_here", "_law_house_here", "_law_rooms", "_law_doors", "_law_one", "_law_other", "_law_more", "_law_some", "_law_door"]) (k := 1) (ws := ws__law_near_miss) F gx sc__law_near_miss (F.bindsN fun _ _ _ _ _ _ us hl => match us, hl with | [_, _], _ => rfl) ?_ p__law_near_miss
  rintro _ E cd A outer s H rfl bd po
  exact (dss_cons (ds_asg true (e_var 1) (g_tup bd (g_cons (g_nm bd 2) (g_cons (g_nm bd 3) g_nil))))
  (dss_cons (ds_par2 true 4 5 bd (e_call bd c__law_draw (by omega) (e_cons (e_var 0) (e_cons (e_add (e_var 2) d_int) da_nil))) (e_call bd c__law_draw (by omega) (e_cons (e_var 0) (e_cons (e_add (e_var 2) d_int) da_nil))))
  (dss_frz 4 (dss_frz 5 (dss_cons (ds_set true 6 bd (e_tyc cr_tuple g_tuple (by decide +kernel) (e_cons (e_blt cr_sortQ g_sorted (by decide +kernel) (e_cons (e_add (e_var 3) (d_tup (e_cons (d_tup (e_cons (e_blt (cr_min2D bd.calm) g_min (by decide +kernel) (e_cons (e_var 4) (e_cons (e_var 5) da_nil))) (e_cons (e_blt (cr_max2D bd.calm) g_max (by decide +kernel) (e_cons (e_var 4) (e_cons (e_var 5) da_nil))) da_nil))) da_nil))) da_nil)) da_nil)))
  (dss_cons (ds_set true 7 bd (d_lst (e_cons (d_tup (e_cons (e_var 2) (e_cons (e_var 6) da_nil))) (e_cons (d_tup (e_cons (e_var 2) (e_cons (e_rev (e_var 3)) da_nil))) (e_cons (d_tup (e_cons (e_sub (e_var 2) d_int) (e_cons (e_var 3) da_nil))) (e_cons (d_tup (e_cons (e_add (e_var 2) d_int) (e_cons (e_var 3) da_nil))) (e_cons (d_tup (e_cons (e_var 2) (e_cons (e_add (e_var 3) (e_sl (e_var 3) (o_so (d_neg d_int)) o_no)) da_nil))) da_nil)))))))
  (dss_one (ds_ret (e_ix (e_add (e_var 7) (d_lst (e_cons (d_tup (e_cons (e_var 2) (e_cons (e_tyc cr_tuple g_tuple (by decide +kernel) (e_cons (e_lc [("_law_door", 8)] bd (di_seq (e_var 3)) (fun _ _ _ _ _ => (g_nm bd.blk 8)) (fun _ _ _ _ _ => dts_nil) (fun _ _ _ _ _ => (e_rev (e_var 8)))) da_nil)) da_nil))) (e_cons (d_tup (e_cons (e_var 2) (e_cons (e_add (e_var 3) (d_tup (e_cons (d_tup (e_cons d_int (e_cons d_int da_nil))) da_nil))) da_nil))) da_nil)))) (e_call bd c__law_draw (by omega) (e_cons (e_var 0) (e_cons d_int da_nil))))))))))))
set_option maxHeartbeats 0 in
theorem fng_law (F : FnP K "law" s_law f fd) (g_range : mg "range" = none) (v_MAX_ROOMS : ∃ t, mg "MAX_ROOMS" = some (.int 8 t)) (v_MAX_PEOPLE : ∃ t, mg "MAX_PEOPLE" = some (.int 12 t)) (v_MAX_PLAN : ∃ t, mg "MAX_PLAN" = some (.int 4000 t)) (v_MAX_COUNT : ∃ t, mg "MAX_COUNT" = some (.int 1000000000000 t)) (v_MAX_ACTIONS : ∃ t, mg "MAX_ACTIONS" = some (.int 60 t)) (v_MAX_BATCH : ∃ t, mg "MAX_BATCH" = some (.int 20 t)) (c__law_stream : Cal P w K mg base 1 "_law_stream" ["_law_script"] F__law_stream) (c__law_house : Cal P w K mg base 2 "_law_house" ["_law_stream_here", "_law_least", "_law_most"] F__law_house) (c_is_house : Cal P w K mg base 4 "is_house" ["value"] F_is_house) (c__law_altered : Cal P w K mg base 12 "_law_altered" ["_law_stream_here", "_law_value"] F__law_altered) (c__law_near_miss : Cal P w K mg base 2 "_law_near_miss" ["_law_stream_here", "_law_house_here"] F__law_near_miss) (c__law_random_value : Cal P w K mg base 2 "_law_random_value" ["_law_stream_here"] F__law_random_value) (c__law_checks_hold : Cal P w K mg base 5 "_law_checks_hold" ["_law_look", "_law_own", "_law_values"] (F__law_checks_hold (fam mg))) (c__law_is_house : Cal P w K mg base 3 "_law_is_house" ["_law_value"] F__law_is_house) : FnG P w K mg base 13 f fd ["_law_script"] (spD K mg 1 F_law) := by
  refine fnG_D (N := ["_law_script", "_law_stream_here", "_law_turn", "_law_house_here", "_law_bent", "_law_values"]) (ps := ["_law_script"]) (k := 12) (ws := (ws_law (fam mg))) (He5.fun_of F) sc_law ?_ (p_law (fam mg))
  rintro _ E cd A outer s H rfl bd po
  exact (dss_cons (ds_set true 1 bd (e_call bd c__law_stream (by omega) (e_cons (e_var 0) da_nil)))
  (dss_cons (ds_if (t_ne bd (d_tup (e_cons (d_glob (by rfl) (globI v_MAX_ROOMS rfl) (by decide)) (e_cons (d_glob (by rfl) (globI v_MAX_PEOPLE rfl) (by decide)) (e_cons (d_glob (by rfl) (globI v_MAX_PLAN rfl) (by decide)) (e_cons (d_glob (by rfl) (globI v_MAX_COUNT rfl) (by decide)) (e_cons (d_glob (by rfl) (globI v_MAX_ACTIONS rfl) (by decide)) (e_cons (d_glob (by rfl) (globI v_MAX_BATCH rfl) (by decide)) da_nil))))))) (d_tup (e_cons d_int (e_cons d_int (e_cons d_int (e_cons (e_pow d_int d_int) (e_cons d_int (e_cons d_int da_nil))))))))
  (dss_one (ds_ret d_bl))
  dss_nil)
  (dss_cons (ds_for po bd (i_rng1 g_range (e_cons d_int da_nil)) (g_nm bd 2)
  (dss_cons (ds_set true 3 bd (e_call bd c__law_house (by omega) (e_cons (e_var 1) (e_cons d_int (e_cons d_int da_nil)))))
  (dss_cons (ds_if (t_isNot (e_call bd c_is_house (by omega) (e_cons (e_var 3) da_nil)) d_bl)
  (dss_one (ds_ret d_bl))
  dss_nil)
  (dss_cons (ds_set true 4 bd (e_call bd c__law_altered (by omega) (e_cons (e_var 1) (e_cons (e_var 3) da_nil))))
  (dss_cons (ds_set true 5 bd (d_lst (e_cons (e_var 4) (e_cons (e_call bd c__law_altered (by omega) (e_cons (e_var 1) (e_cons (e_var 4) da_nil))) (e_cons (e_call bd c__law_near_miss (by omega) (e_cons (e_var 1) (e_cons (e_var 3) da_nil))) (e_cons (d_tup (e_cons (e_ix (e_var 3) d_int) (e_cons (e_call bd c__law_altered (by omega) (e_cons (e_var 1) (e_cons (e_ix (e_var 3) d_int) da_nil))) da_nil))) da_nil))))))
  (dss_cons (ds_set true 5 bd (e_add (e_var 5) (d_lst (e_cons (e_call bd c__law_near_miss (by omega) (e_cons (e_var 1) (e_cons (e_var 3) da_nil))) (e_cons (e_call bd c__law_random_value (by omega) (e_cons (e_var 1) da_nil)) da_nil)))))
  (dss_one (ds_if (dt_not (t_tru (e_call bd c__law_checks_hold (by omega) (e_cons (e_fun c_is_house) (e_cons (e_fun c__law_is_house) (e_cons (e_var 5) da_nil))))))
  (dss_one (ds_ret d_bl))
  dss_nil))))))))
  (dss_one (ds_ret d_bl)))))
end
end Lk01
namespace Lk01
open PySem PySem.Spec PyProof.Rows L2 RZ DL
def hd_is_integer : He.DefD := ⟨("is_integer", none), "is_integer", "is_integer", defArgs s_is_integer, defBody s_is_integer, defScope s_is_integer, [], []⟩
def hd_is_ascending : He.DefD := ⟨("is_ascending", none), "is_ascending", "is_ascending", defArgs s_is_ascending, defBody s_is_ascending, defScope s_is_ascending, [], []⟩
def hd_is_door : He.DefD := ⟨("is_door", none), "is_door", "is_door", defArgs s_is_door, defBody s_is_door, defScope s_is_door, [], []⟩
def hd_neighbors : He.DefD := ⟨("neighbors", none), "neighbors", "neighbors", defArgs s_neighbors, defBody s_neighbors, defScope s_neighbors, [], []⟩
def hd_paths_from : He.DefD := ⟨("paths_from", none), "paths_from", "paths_from", defArgs s_paths_from, defBody s_paths_from, defScope s_paths_from, [], []⟩
def hd_path_between : He.DefD := ⟨("path_between", none), "path_between", "path_between", defArgs s_path_between, defBody s_path_between, defScope s_path_between, [], []⟩
def hd_is_house : He.DefD := ⟨("is_house", none), "is_house", "is_house", defArgs s_is_house, defBody s_is_house, defScope s_is_house, [], []⟩
def hd__law_stream : He.DefD := ⟨("_law_stream", none), "_law_stream", "_law_stream", defArgs s__law_stream, defBody s__law_stream, defScope s__law_stream, [], []⟩
def hd__law_draw : He.DefD := ⟨("_law_draw", none), "_law_draw", "_law_draw", defArgs s__law_draw, defBody s__law_draw, defScope s__law_draw, [], []⟩
def hd__law_house : He.DefD := ⟨("_law_house", none), "_law_house", "_law_house", defArgs s__law_house, defBody s__law_house, defScope s__law_house, [], []⟩
def hd__law_neighbors : He.DefD := ⟨("_law_neighbors", none), "_law_neighbors", "_law_neighbors", defArgs s__law_neighbors, defBody s__law_neighbors, defScope s__law_neighbors, [], []⟩
def hd__law_connected : He.DefD := ⟨("_law_connected", none), "_law_connected", "_law_connected", defArgs s__law_connected, defBody s__law_connected, defScope s__law_connected, [], []⟩
def hd__law_random_value : He.DefD := ⟨("_law_random_value", none), "_law_random_value", "_law_random_value", defArgs s__law_random_value, defBody s__law_random_value, defScope s__law_random_value, [], []⟩
def hd__law_altered : He.DefD := ⟨("_law_altered", none), "_law_altered", "_law_altered", defArgs s__law_altered, defBody s__law_altered, defScope s__law_altered, [], []⟩
def hd__law_is_integer : He.DefD := ⟨("_law_is_integer", none), "_law_is_integer", "_law_is_integer", defArgs s__law_is_integer, defBody s__law_is_integer, defScope s__law_is_integer, [], []⟩
def hd__law_is_house : He.DefD := ⟨("_law_is_house", none), "_law_is_house", "_law_is_house", defArgs s__law_is_house, defBody s__law_is_house, defScope s__law_is_house, [], []⟩
def hd__law_checks_hold : He.DefD := ⟨("_law_checks_hold", none), "_law_checks_hold", "_law_checks_hold", defArgs s__law_checks_hold, defBody s__law_checks_hold, defScope s__law_checks_hold, [], []⟩
def hd__law_near_miss : He.DefD := ⟨("_law_near_miss", none), "_law_near_miss", "_law_near_miss", defArgs s__law_near_miss, defBody s__law_near_miss, defScope s__law_near_miss, [], []⟩
def hd_law : He.DefD := ⟨("law", none), "law", "law", defArgs s_law, defBody s_law, defScope s_law, [], []⟩
def fn1 : List He.DefD := [hd_is_integer, hd_is_ascending, hd_is_door, hd_neighbors, hd_paths_from, hd_path_between, hd_is_house, hd__law_stream, hd__law_draw, hd__law_house]
def fn2 : List He.DefD := [hd__law_neighbors, hd__law_connected, hd__law_random_value, hd__law_altered, hd__law_is_integer, hd__law_is_house, hd__law_checks_hold, hd__law_near_miss, hd_law]
def fn : List He.DefD := fn1 ++ fn2
def fa : List He.Fa := [.glo "is_integer", .glo "is_ascending", .glo "is_door", .glo "neighbors", .glo "paths_from", .glo "path_between", .glo "is_house", .glo "_law_stream", .glo "_law_draw", .glo "_law_house", .glo "_law_neighbors", .glo "_law_connected", .glo "_law_random_value", .glo "_law_altered", .glo "_law_is_integer", .glo "_law_is_house", .glo "_law_checks_hold", .glo "_law_near_miss", .glo "law", .free "isinstance", .free "int", .free "bool", .free "all", .free "zip", .free "tuple", .free "len", .free "sorted", .free "enumerate", .free "abs", .free "list", .free "range", .free "min", .free "max", .free "repr", .int "MAX_ROOMS" 8, .int "MAX_PEOPLE" 12, .int "MAX_PLAN" 4000, .int "MAX_COUNT" 1000000000000, .int "MAX_ACTIONS" 60, .int "MAX_BATCH" 20]
abbrev R : PySem.W.OpenRow := PySem.W.OpenLaw.row PySem.Challenge.rw_fromwithin_k01_houses_validated
def ex : List DL.XT := [DL.sysB]
noncomputable abbrev hk : PySem.W.Hook := DL.hookY 4 fa fn ex
noncomputable def ob (s : PySem.W.SharedT) : He.AlD := DL.obsYG 4 fa fn ex (HandSHeadRun.getT s)
theorem ob_eq (s : PySem.W.SharedT) : ob s = hk.obs s.abs := DL.obsYG_eq (HandSHeadRun.getT_eq s)
def loose0 : List PySem.Str := ["MAX_ROOMS", "MAX_PEOPLE", "MAX_PLAN", "MAX_COUNT", "MAX_ACTIONS", "MAX_BATCH", "is_integer", "is_ascending", "is_door", "neighbors", "paths_from", "path_between", "is_house", "_law_stream", "_law_draw", "_law_house", "_law_neighbors", "_law_connected", "_law_random_value", "_law_altered", "_law_checks_hold", "_law_is_integer", "_law_is_house", "_law_near_miss"]
abbrev loose : List PySem.Str := loose0
open PySem.W PySem.Calls PyProof.Rows in
set_option maxHeartbeats 0 in
theorem run1 (w : World) (os : OsState) : (HandSHeadRun.endF (HandSHeadRun.stepQ (HandSHeadRun.denQ HandSHeadRun.tabQ) R.prog w) 8000 R.prog w os).map (fun s => ((HandSHeadRun.looksF R.prog (boot_heap w.params) s.abs), (HandSHeadRun.seenQ (PySem.W.view R.prog [26]) loose (importedModules R.prog.main.body) (fun s => PySem.W.xlAt (PySem.W.view R.prog [26]) [] s && PySem.W.recOk R.toRowW.records s) s.abs))) = some (true, PySem.W.openGood (PySem.W.view R.prog [26]) loose) := by kernel_rfl
open PySem.W PySem.Calls PyProof.Rows in
set_option maxHeartbeats 0 in
theorem run2 (w : World) (os : OsState) : (HandSHeadRun.endF (HandSHeadRun.stepQ (HandSHeadRun.denQ HandSHeadRun.tabQ) R.prog w) 8000 R.prog w os).map (fun s => (fa.all fun f => f.ok (DL.KY 4 s), fn1.all fun d => d.ok (DL.KY 4 s))) = some (true, true) := by kernel_rfl
open PySem.W PySem.Calls PyProof.Rows in
set_option maxHeartbeats 0 in
theorem run3 (w : World) (os : OsState) : (HandSHeadRun.endF (HandSHeadRun.stepQ (HandSHeadRun.denQ HandSHeadRun.tabQ) R.prog w) 8000 R.prog w os).map (fun s => (ex.all fun t => t (DL.KY 4 s), fn2.all fun d => d.ok (DL.KY 4 s))) = some (true, true) := by kernel_rfl
open PySem.W PySem.Calls PyProof.Rows in
set_option maxHeartbeats 0 in
theorem run4 (w : World) (os : OsState) : (HandSHeadRun.endF (HandSHeadRun.stepQ (HandSHeadRun.denQ HandSHeadRun.tabQ) R.prog w) 8000 R.prog w os).map (fun s => (fn1 ++ fn2).map fun d => He.fnW (DL.KY 4 s) d.at_) = some ((fn1 ++ fn2).map He.DefD.val) := by kernel_rfl
theorem run (w : World) : HandSHeadRun.RunEq R (PySem.W.view R.prog [26]) hk ob 8000 loose w := fun os => DL.joinY (run1 w os) (run2 w os) (run3 w os) (run4 w os)
set_option maxHeartbeats 0 in
theorem facts {P : Program} {w : World} {K : PySem.W.Frag} {h : Heap} {mg : Str → Option Value} {f : Addr} (X : K.In h) (G : h.Ns mainGlobals mg) (hfa : mg ("law" : Str) = some (.ref f)) (c : DL.SaysX fa fn ex K) :
    ∃ fd : FuncData, (∀ (s : Shared) (v : Value), BindsTo s fd ⟨[v], []⟩ [("_law_script", v)]) ∧ ∀ base : Heap, K.In base → base.Ns mainGlobals mg → FnG P w K mg base 13 f fd ["_law_script"] (spD K mg 1 F_law) := by
  have sk := DL.sysB_ok (c.test 0 rfl)
  replace c := c.toD
  obtain ⟨fd_is_integer, H_is_integer⟩ := c.def_ 0 (d := hd_is_integer) rfl
  have x_is_integer := He.glo_ok X G (c.fact 0 (f := .glo "is_integer") rfl)
  obtain ⟨fd_is_ascending, H_is_ascending⟩ := c.def_ 1 (d := hd_is_ascending) rfl
  have x_is_ascending := He.glo_ok X G (c.fact 1 (f := .glo "is_ascending") rfl)
  obtain ⟨fd_is_door, H_is_door⟩ := c.def_ 2 (d := hd_is_door) rfl
  have x_is_door := He.glo_ok X G (c.fact 2 (f := .glo "is_door") rfl)
  obtain ⟨fd_neighbors, H_neighbors⟩ := c.def_ 3 (d := hd_neighbors) rfl
  have x_neighbors := He.glo_ok X G (c.fact 3 (f := .glo "neighbors") rfl)
  obtain ⟨fd_paths_from, H_paths_from⟩ := c.def_ 4 (d := hd_paths_from) rfl
  have x_paths_from := He.glo_ok X G (c.fact 4 (f := .glo "paths_from") rfl)
  obtain ⟨fd_path_between, H_path_between⟩ := c.def_ 5 (d := hd_path_between) rfl
  have x_path_between := He.glo_ok X G (c.fact 5 (f := .glo "path_between") rfl)
  obtain ⟨fd_is_house, H_is_house⟩ := c.def_ 6 (d := hd_is_house) rfl
  have x_is_house := He.glo_ok X G (c.fact 6 (f := .glo "is_house") rfl)
  obtain ⟨fd__law_stream, H__law_stream⟩ := c.def_ 7 (d := hd__law_stream) rfl
  have x__law_stream := He.glo_ok X G (c.fact 7 (f := .glo "_law_stream") rfl)
  obtain ⟨fd__law_draw, H__law_draw⟩ := c.def_ 8 (d := hd__law_draw) rfl
  have x__law_draw := He.glo_ok X G (c.fact 8 (f := .glo "_law_draw") rfl)
  obtain ⟨fd__law_house, H__law_house⟩ := c.def_ 9 (d := hd__law_house) rfl
  have x__law_house := He.glo_ok X G (c.fact 9 (f := .glo "_law_house") rfl)
  obtain ⟨fd__law_neighbors, H__law_neighbors⟩ := c.def_ 10 (d := hd__law_neighbors) rfl
  have x__law_neighbors := He.glo_ok X G (c.fact 10 (f := .glo "_law_neighbors") rfl)
  obtain ⟨fd__law_connected, H__law_connected⟩ := c.def_ 11 (d := hd__law_connected) rfl
  have x__law_connected := He.glo_ok X G (c.fact 11 (f := .glo "_law_connected") rfl)
  obtain ⟨fd__law_random_value, H__law_random_value⟩ := c.def_ 12 (d := hd__law_random_value) rfl
  have x__law_random_value := He.glo_ok X G (c.fact 12 (f := .glo "_law_random_value") rfl)
  obtain ⟨fd__law_altered, H__law_altered⟩ := c.def_ 13 (d := hd__law_altered) rfl
  have x__law_altered := He.glo_ok X G (c.fact 13 (f := .glo "_law_altered") rfl)
  obtain ⟨fd__law_is_integer, H__law_is_integer⟩ := c.def_ 14 (d := hd__law_is_integer) rfl
  have x__law_is_integer := He.glo_ok X G (c.fact 14 (f := .glo "_law_is_integer") rfl)
  obtain ⟨fd__law_is_house, H__law_is_house⟩ := c.def_ 15 (d := hd__law_is_house) rfl
  have x__law_is_house := He.glo_ok X G (c.fact 15 (f := .glo "_law_is_house") rfl)
  obtain ⟨fd__law_checks_hold, H__law_checks_hold⟩ := c.def_ 16 (d := hd__law_checks_hold) rfl
  have x__law_checks_hold := He.glo_ok X G (c.fact 16 (f := .glo "_law_checks_hold") rfl)
  obtain ⟨fd__law_near_miss, H__law_near_miss⟩ := c.def_ 17 (d := hd__law_near_miss) rfl
  have x__law_near_miss := He.glo_ok X G (c.fact 17 (f := .glo "_law_near_miss") rfl)
  obtain ⟨fd_law, H_law⟩ := c.def_ 18 (d := hd_law) rfl
  have x_law := He.glo_ok X G (c.fact 18 (f := .glo "law") rfl)
  have g_isinstance := He.free_ok X G (c.fact 19 (f := .free "isinstance") rfl)
  have g_int := He.free_ok X G (c.fact 20 (f := .free "int") rfl)
  have g_bool := He.free_ok X G (c.fact 21 (f := .free "bool") rfl)
  have g_all := He.free_ok X G (c.fact 22 (f := .free "all") rfl)
  have g_zip := He.free_ok X G (c.fact 23 (f := .free "zip") rfl)
  have g_tuple := He.free_ok X G (c.fact 24 (f := .free "tuple") rfl)
  have g_len := He.free_ok X G (c.fact 25 (f := .free "len") rfl)
  have g_sorted := He.free_ok X G (c.fact 26 (f := .free "sorted") rfl)
  have g_enumerate := He.free_ok X G (c.fact 27 (f := .free "enumerate") rfl)
  have g_abs := He.free_ok X G (c.fact 28 (f := .free "abs") rfl)
  have g_list := He.free_ok X G (c.fact 29 (f := .free "list") rfl)
  have g_range := He.free_ok X G (c.fact 30 (f := .free "range") rfl)
  have g_min := He.free_ok X G (c.fact 31 (f := .free "min") rfl)
  have g_max := He.free_ok X G (c.fact 32 (f := .free "max") rfl)
  have g_repr := He.free_ok X G (c.fact 33 (f := .free "repr") rfl)
  have v_MAX_ROOMS := He.int_ok X G (c.fact 34 (f := .int "MAX_ROOMS" 8) rfl)
  have v_MAX_PEOPLE := He.int_ok X G (c.fact 35 (f := .int "MAX_PEOPLE" 12) rfl)
  have v_MAX_PLAN := He.int_ok X G (c.fact 36 (f := .int "MAX_PLAN" 4000) rfl)
  have v_MAX_COUNT := He.int_ok X G (c.fact 37 (f := .int "MAX_COUNT" 1000000000000) rfl)
  have v_MAX_ACTIONS := He.int_ok X G (c.fact 38 (f := .int "MAX_ACTIONS" 60) rfl)
  have v_MAX_BATCH := He.int_ok X G (c.fact 39 (f := .int "MAX_BATCH" 20) rfl)
  have b := FunD.bindsA (ps := ["_law_script"]) H_law fun _ _ _ _ _ _ us hl => match us, hl with | [_], _ => rfl
  refine ⟨fd_law, fun s v => b s [v] rfl, fun base _ _ => ?_⟩
  have e := hfa.symm.trans x_law
  cases e
  have k_is_integer := cal_is_integer (P := P) (w := w) (base := base) H_is_integer x_is_integer g_isinstance g_int g_bool
  have k_is_ascending := cal_is_ascending (P := P) (w := w) (base := base) H_is_ascending x_is_ascending g_all g_zip
  have k_is_door := cal_is_door (P := P) (w := w) (base := base) H_is_door x_is_door g_isinstance g_tuple g_len k_is_integer
  have k_neighbors := cal_neighbors (P := P) (w := w) (base := base) H_neighbors x_neighbors g_tuple g_sorted
  have k_paths_from := cal_paths_from (P := P) (w := w) (base := base) H_paths_from x_paths_from k_neighbors
  have k_path_between := cal_path_between (P := P) (w := w) (base := base) H_path_between x_path_between k_paths_from
  have k_is_house := cal_is_house (P := P) (w := w) (base := base) H_is_house x_is_house g_isinstance g_tuple g_len g_all g_enumerate v_MAX_ROOMS k_is_integer k_is_door k_is_ascending k_path_between
  have k__law_stream := cal__law_stream (P := P) (w := w) (base := base) H__law_stream x__law_stream g_abs g_len
  have k__law_draw := cal__law_draw (P := P) (w := w) (base := base) H__law_draw x__law_draw g_len
  have k__law_house := cal__law_house (P := P) (w := w) (base := base) H__law_house x__law_house g_list g_range g_len g_min g_max g_tuple g_sorted k__law_draw
  have k__law_neighbors := cal__law_neighbors (P := P) (w := w) (base := base) H__law_neighbors x__law_neighbors g_sorted
  have k__law_connected := cal__law_connected (P := P) (w := w) (base := base) H__law_connected x__law_connected g_len g_tuple g_sorted k__law_neighbors
  have k__law_random_value := cal__law_random_value (P := P) (w := w) (base := base) H__law_random_value x__law_random_value k__law_draw
  have k__law_altered := cal__law_altered (P := P) (w := w) (base := base) H__law_altered x__law_altered g_isinstance g_tuple g_len g_list g_int k__law_draw k__law_random_value
  have k__law_is_integer := cal__law_is_integer (P := P) (w := w) (base := base) H__law_is_integer x__law_is_integer g_isinstance g_int g_bool
  have k__law_is_house := cal__law_is_house (P := P) (w := w) (base := base) H__law_is_house x__law_is_house g_isinstance g_tuple g_len g_list g_range k__law_is_integer k__law_connected
  have k__law_checks_hold := cal__law_checks_hold (P := P) (w := w) (base := base) H__law_checks_hold x__law_checks_hold g_repr g_isinstance g_bool sk k_is_house k__law_is_house
  have k__law_near_miss := cal__law_near_miss (P := P) (w := w) (base := base) H__law_near_miss x__law_near_miss g_tuple g_sorted g_min g_max k__law_draw
  exact fng_law H_law g_range v_MAX_ROOMS v_MAX_PEOPLE v_MAX_PLAN v_MAX_COUNT v_MAX_ACTIONS v_MAX_BATCH k__law_stream k__law_house k_is_house k__law_altered k__law_near_miss k__law_random_value k__law_checks_hold k__law_is_house
end Lk01
open PySem PySem.W PySem.Calls PyProof.Rows in
set_option maxHeartbeats 0 in
theorem PySem.Challenge.cw_fromwithin_k01_houses_validated_holds : PySem.Challenge.rw_fromwithin_k01_houses_validated.Holds := by
  w_on; o_law
  refine HandSHeadRun.head_any (r := OpenLaw.row PySem.Challenge.rw_fromwithin_k01_houses_validated) (q := view (OpenLaw.row PySem.Challenge.rw_fromwithin_k01_houses_validated).prog [26]) (H := Lk01.hk) (ob := Lk01.ob) (M := 8000) (loose := Lk01.loose) (d := HandSHeadRun.topDef (OpenLaw.row PySem.Challenge.rw_fromwithin_k01_houses_validated).prog 26) (kwd := []) Lk01.ob_eq
    (by kernel_rfl) (fun s => by kernel_rfl) Lk01.run (by kernel_rfl) (by kernel_rfl) (by kernel_rfl) (by rfl) (by first | assumption | decide +kernel) (by decide +kernel) ⟨rfl, rfl, rfl, rfl, rfl, by decide +kernel⟩ ?hw ?hc
  case hw => w_witness2
  case hc =>
    refine DL.walk_D (l := PySem.Challenge.rw_fromwithin_k01_houses_validated) (n := 63) (k := 13) (x := "_law_script") rfl (by decide) (by kernel_rfl) ⟨rfl, by decide, by decide⟩ ?_
    intro w mg fa h Y G hmg0
    obtain ⟨K, KX, c⟩ := Y
    have hmg : mg ("law" : PySem.Str) = some (.ref fa) := by
      have e : (HandSHeadRun.topDef (OpenLaw.row PySem.Challenge.rw_fromwithin_k01_houses_validated).prog 26).name = ("law" : PySem.Str) := by kernel_rfl
      rw [← e]
      exact hmg0
    obtain ⟨fd, hb, hF⟩ := Lk01.facts (P := (PySem.Challenge.rw_fromwithin_k01_houses_validated).prog) (w := w) KX G hmg c
    exact ⟨K, fd, DL.F_law, KX, hb, hF, DL.f_law⟩
