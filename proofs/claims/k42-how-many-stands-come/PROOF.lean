import PyProof.Rows.All
import Wide.All
import OpenK.AllK
import Wide.FinOn
import HandS.ForMost
import HandS.More
import KE.SortData
import PyProof.ReprRoads
import HandS.Strs
import HandS.TupAny
import HandS.TupLe
import HandS.Wide
import HandS.WideBits
import HandS.Deep
import HandS.Walk
import HandS.Zip
import HandS.Rev
import HandS.Conv
import HandS.NoneIn
import HandS.Style
import HandS.FStr
import HandS.RaiseMore
import HandS.IsInst
import HandS.OwnEq
import KE.GoesEnum
import PyProof.EnumMake
import HandS.Defaults
import HandS.MakeKwOnly
import HandS.Ends
import PyProof.InstNe
import HandS.Dict
import HandS.SetFor
import HandS.DictComp
import HandS.TupMul
import HandS.Text
import KE.KFmtOwn
import KE.KDictZip
import PyProof.ZipIter
import PyProof.CallFns
import HandS.ExcInitHot
import KE.KExcIs
import KE.KTryMore
import HandS.ExcField
import HandS.Set
import KE.DataMinMax
import KE.KxIndex
import PyProof.ListStr
import KE.DataAny
import PySem.Challenge.RW_wakebells_k42_how_many_stands_come
set_option Elab.async false
set_option linter.all false
set_option maxRecDepth 100000
set_option maxHeartbeats 4000000
namespace DL
open PySem PySem.Spec PyProof.Rows L2
open PySem.SeqAt PySem.MeetsSeq PySem.MeetsSeq2 PySem.MeetsSeq3
/-- a new tuple, its object known -/
noncomputable def NewT (H : Hp) (xs : List V) (Q : VK) : Prop := ∀ p ob, H p = none → ob.dict = none → Q (.ref p) (upd H p (.frz ob (.tup xs)))
section
variable {X : Cx} {es : List Expr} {e : Expr} {te : TE} {t : TA} {pos : Pos}
theorem laid_T {pins : List (Addr × Obj)} {σ : L2.St} {H : Hp} {s : Shared} {h' : Heap} {its : List Value} {xs : List V} (I : Inv X pins σ H { s with heap := h' }) (r : Vals xs its) (z : xs.length ≤ sizeLine) {Q : VK} (q : NewT H xs Q) :
    EP X pins σ Q (.ref h'.objs.size) { s with heap := h'.push { cls := .type "tuple", data := .seq its.toArray } } := by
  refine ⟨.ref h'.objs.size, upd H h'.objs.size (.frz { cls := .type "tuple", data := .seq its.toArray } (.tup xs)), I.laid (t' := s.toks) (fun b u e => Heap.get?_push_of_some _ e) (Nat.le_refl _) ?_, rfl, q _ _ (I.hok.fresh (Nat.le_refl _)) rfl⟩
  exact ⟨Heap.get?_push_size _ rfl, z, its, r, ⟨_, Heap.get?_push_size _ rfl, rfl, _, rfl⟩⟩
noncomputable def tTupB (t : TA) : TE := fun σ H Q => t σ H fun xs H1 => xs.length ≤ sizeLine ∧ NewT H1 xs Q
theorem pe_tupB {x1} (h : PA X es t) : PE X (.Tuple es x1 pos) (tTupB t) := by
  refine ⟨fun pins s σ H Q I hq => ?_⟩
  refine wpAny_Tuple_spliced (thn (h.run pos pins s σ H _ I hq) fun us s1 ⟨xs, H1, I1, r, z, q⟩ => ⟨by rw [← r.length]; exact z, ?_⟩)
  exact laid_T (s := s1) (h' := s1.heap) I1 r z q
theorem call_tuple_ofB : CallR X (.type "tuple") (fun xs H Q => ∃ p ys, xs = [.ref p] ∧ ((SqL X.K H p ys ∧ NewT H ys Q) ∨ (SqT X.K H p ys ∧ Q (.ref p) H))) := by
  intro pins s σ H xs us Q I r h
  obtain ⟨p, ys, rfl, h⟩ := h
  obtain ⟨u, rfl, rx⟩ := vals1 r
  cases rx
  rcases h with ⟨hq, q⟩ | ⟨hq, q⟩
  · obtain ⟨its, r', pl, hz⟩ := I.list hq
    have hlen := r'.length
    refine call_tuple_list pl.isList (fun h' kp => ?_) (by simp only [List.size_toArray] <;> omega)
    have I1 : Inv X pins σ H { s with heap := h' } := I.kept (t' := s.toks) kp
    exact laid_T (s := s) (h' := h') I1 r' hz q
  · obtain ⟨its, r', pl, hz⟩ := I.tuple hq
    exact call_tuple_same pl ⟨.ref p, H, I, rfl, q⟩
noncomputable def rCatB (K : PySem.W.Frag) : R2 := fun x y H Q => ∃ a b xs ys, x = .ref a ∧ y = .ref b ∧ SqT K H a xs ∧ SqT K H b ys ∧ xs.length + ys.length ≤ sizeLine ∧
  (xs = [] → Q (.ref b) H) ∧ (xs ≠ [] → ys = [] → Q (.ref a) H) ∧ (xs ≠ [] → ys ≠ [] → NewT H (xs ++ ys) Q)
theorem op_catB : OpR X (binaryOp .Add) (rCatB X.K) := by
  intro pins s σ H x y v u Q I rx ry h
  obtain ⟨a, b, xs, ys, rfl, rfl, ha, hb, hz, q0, q1, q2⟩ := h
  cases rx
  cases ry
  obtain ⟨its, r1, p1, _⟩ := I.tuple ha
  obtain ⟨its2, r2, p2, _⟩ := I.tuple hb
  by_cases hx : xs = []
  · subst hx
    cases r1
    exact cat_tup0 p1 p2 ⟨.ref b, H, I, rfl, q0 rfl⟩
  · refine HT.cat_tup p1 p2 (fun z => hx (r1.nil_iff.mp z)) (fun z => ⟨.ref a, H, I, rfl, q1 hx (r2.nil_iff.mp z)⟩) (fun z => ?_) (by rw [← r1.length, ← r2.length]; exact hz)
    exact laid_T (s := s) (h' := s.heap) I (r1.append r2) (by rw [List.length_append]; exact hz) (q2 hx fun w => z (r2.nil_iff.mpr w))
noncomputable def rSlB (K : PySem.W.Frag) : V → Option Int → Option Int → Hp → VK → Prop := fun x lo hi H Q => ∃ a xs, x = .ref a ∧ SqT K H a xs ∧
  (HT.sIx xs.length 0 lo = 0 ∧ HT.sIx xs.length xs.length hi = xs.length → Q (.ref a) H) ∧ (¬ (HT.sIx xs.length 0 lo = 0 ∧ HT.sIx xs.length xs.length hi = xs.length) → NewT H (cutV xs lo hi) Q)
theorem sl_tupB : SlR X (rSlB X.K) := by
  intro pins s σ H x v vl vu lo hi sl Q I rx hs pl pu h
  obtain ⟨a, xs, rfl, hx, q1, q2⟩ := h
  cases rx
  obtain ⟨its, r, ht, hz⟩ := I.tuple hx
  have hlen : its.toArray.size = xs.length := by rw [List.size_toArray]; exact r.length.symm
  refine ⟨"tuple", _, PyProof.Rows.slot_tuple_getitem.lookup, ht.typeIs, ?_⟩
  by_cases hw : HT.sIx xs.length 0 lo = 0 ∧ HT.sIx xs.length xs.length hi = xs.length
  · exact getItem_tuple_whole ht hs pl pu (by rw [hlen]; exact hw) ⟨.ref a, H, I, rfl, q1 hw⟩
  · refine HT.getItem_tuple_cut ht hs pl pu (by rw [hlen]; exact hw) ?_ (by rw [hlen]; exact hz)
    rw [hlen]
    exact laid_T (s := s) (h' := s.heap) I ((r.drop (HT.sIx xs.length 0 lo)).take (HT.sIx xs.length xs.length hi - HT.sIx xs.length 0 lo)) (Nat.le_trans (cutV_length xs lo hi) hz) (q2 hw)
end
end DL
namespace DL
open PySem L2
inductive D where
  | non
  | bl (b : Bool)
  | int (i : Int)
  | str (s : Str)
  | tup (l : List D)
  | tu (l : List D)
  | lst (l : List D)
  | ro (l : List D)
  | dK (ks : List Key) (l : List D)
  | dT (ks : List (List Key)) (l : List D)
  | obj (c : Str) (ns : List Str) (l : List D)
/-- a tuple that has no dict of its own, or of the program's start -/
noncomputable def TB (K : PySem.W.Frag) (F : Hp) (a : Addr) (xs : List V) : Prop := (∃ ob : PySem.Obj, F a = some (.frz ob (.tup xs)) ∧ ob.dict = none) ∨
  ∃ (o : PySem.Obj) (its : Array Value) (n : Nat), K.lookup a = some o ∧ o.cls = .type "tuple" ∧ o.dict = none ∧ o.data = .seq its n ∧ its.size ≤ sizeLine ∧ Vals xs its.toList
theorem TB.sq {K : PySem.W.Frag} {F : Hp} {a : Addr} {xs : List V} (h : TB K F a xs) : SqT K F a xs := by
  rcases h with ⟨ob, h, _⟩ | ⟨o, its, n, h1, h2, _, h3, h4, h5⟩
  · exact .inl (.inr ⟨ob, h⟩)
  · exact .inr ⟨o, its, n, h1, h2, h3, h4, h5⟩
theorem TB.same {K : PySem.W.Frag} {F F' : Hp} (s : Same F F') {a : Addr} {xs : List V} (h : TB K F a xs) : TB K F' a xs := by
  rcases h with ⟨ob, h, d⟩ | h
  · exact .inl ⟨ob, s _ _ h, d⟩
  · exact .inr h
/-- what the text is to data: where its classes stand, how its keys are hashed that are tuples -/
structure CM where
  at_ : Str → Option Addr
  hs : List Key → Int
  pin : Addr → Value → Option Addr → Prop
noncomputable instance : CoeFun CM fun _ => Str → Option Addr := ⟨CM.at_⟩
/-- a dict whose keys are tuples that stand elsewhere: its one object -/
noncomputable def TDO (hs : List Key → Int) (a : Addr) (ks : List (List Key)) (bs : List Addr) (vs : List V) : HO := .ext fun h => ∃ (us : List Value) (o : PySem.Obj) (es : Array DictEntry) (ep : Nat), Vals vs us ∧ h.get? a = some o ∧ o.ExactDict ∧ o.data = .dict es ep ∧
  es.toList = (ks.zip (bs.zip us)).map fun x => (⟨hs x.1, .ref x.2.1, x.2.2⟩ : DictEntry)
/-- its keys -/
structure TKs (K : PySem.W.Frag) (F : Hp) (ks : List (List Key)) (bs : List Addr) : Prop where
  len : bs.length = ks.length
  nd : ks.Nodup
  sz : ks.length ≤ sizeLine
  key : ∀ (i : Nat) k b, ks[i]? = some k → bs[i]? = some b → TB K F b (k.map kV)
theorem TKs.same {K : PySem.W.Frag} {F F' : Hp} {ks : List (List Key)} {bs : List Addr} (s : Same F F') (h : TKs K F ks bs) : TKs K F' ks bs := ⟨h.len, h.nd, h.sz, fun i k b e1 e2 => (h.key i k b e1 e2).same s⟩
mutual
noncomputable def Rp (K : PySem.W.Frag) (cm : CM) (F : Hp) : D → V → Prop
  | .non, v => v = .non
  | .bl b, v => v = .bl b
  | .int i, v => v = .int i
  | .str s, v => v = .str s
  | .tup l, v => ∃ a xs, v = .ref a ∧ TB K F a xs ∧ RpL K cm F l xs
  | .tu l, v => ∃ a xs, v = .ref a ∧ SqT K F a xs ∧ RpL K cm F l xs
  | .lst l, v => ∃ a xs, v = .ref a ∧ F a = some (.lst xs) ∧ RpL K cm F l xs
  | .ro l, v => ∃ a xs, v = .ref a ∧ SqL K F a xs ∧ RpL K cm F l xs
  | .dK ks l, v => ∃ a xs od, v = .ref a ∧ F a = some (.frz od (.dK (ks.zip xs))) ∧ ks.length = l.length ∧ RpL K cm F l xs
  | .dT ks l, v => ∃ a bs xs, v = .ref a ∧ (a == sysModules) = false ∧ F a = some (TDO cm.hs a ks bs xs) ∧ TKs K F ks bs ∧ ks.length = l.length ∧ RpL K cm F l xs
  | .obj c ns l, v => ∃ a dx C fs, v = .ref a ∧ cm c = some C ∧ F a = some (.ins C dx fs) ∧ F dx = some (.own a) ∧ fs.map (·.1) = ns ∧ RpL K cm F l (fs.map (·.2))
noncomputable def RpL (K : PySem.W.Frag) (cm : CM) (F : Hp) : List D → List V → Prop
  | [], vs => vs = []
  | d :: ds, vs => ∃ v r, vs = v :: r ∧ Rp K cm F d v ∧ RpL K cm F ds r
end
theorem same_T {K : PySem.W.Frag} {F F' : Hp} (s : Same F F') {a : Addr} {xs : List V} (h : SqT K F a xs) : SqT K F' a xs := by
  rcases h with h | h
  · rcases h with h | ⟨o, h⟩
    · exact .inl (.inl (s _ _ h))
    · exact .inl (.inr ⟨o, s _ _ h⟩)
  · exact .inr h
section
variable {K : PySem.W.Frag} {cm : CM} {F F' : Hp}
mutual
theorem Rp.mono (s : Same F F') : ∀ (d : D) (v : V), Rp K cm F d v → Rp K cm F' d v
  | .non, _, h => by simpa only [Rp] using h
  | .bl _, _, h => by simpa only [Rp] using h
  | .int _, _, h => by simpa only [Rp] using h
  | .str _, _, h => by simpa only [Rp] using h
  | .tup l, v, h => by
    simp only [Rp] at h ⊢
    obtain ⟨a, xs, e, q, r⟩ := h
    exact ⟨a, xs, e, q.same s, RpL.mono s l xs r⟩
  | .tu l, v, h => by
    simp only [Rp] at h ⊢
    obtain ⟨a, xs, e, q, r⟩ := h
    exact ⟨a, xs, e, same_T s q, RpL.mono s l xs r⟩
  | .lst l, v, h => by
    simp only [Rp] at h ⊢
    obtain ⟨a, xs, e, q, r⟩ := h
    exact ⟨a, xs, e, s _ _ q, RpL.mono s l xs r⟩
  | .ro l, v, h => by
    simp only [Rp] at h ⊢
    obtain ⟨a, xs, e, q, r⟩ := h
    exact ⟨a, xs, e, s.seq q, RpL.mono s l xs r⟩
  | .dK ks l, v, h => by
    simp only [Rp] at h ⊢
    obtain ⟨a, xs, od, e, q, z, r⟩ := h
    exact ⟨a, xs, od, e, s _ _ q, z, RpL.mono s l xs r⟩
  | .dT ks l, v, h => by
    simp only [Rp] at h ⊢
    obtain ⟨a, bs, xs, e, y, q, tk, z, r⟩ := h
    exact ⟨a, bs, xs, e, y, s _ _ q, tk.same s, z, RpL.mono s l xs r⟩
  | .obj c ns l, v, h => by
    simp only [Rp] at h ⊢
    obtain ⟨a, dx, C, fs, e, hc, h1, h2, h3, r⟩ := h
    exact ⟨a, dx, C, fs, e, hc, s _ _ h1, s _ _ h2, h3, RpL.mono s l _ r⟩
theorem RpL.mono (s : Same F F') : ∀ (ds : List D) (vs : List V), RpL K cm F ds vs → RpL K cm F' ds vs
  | [], _, h => by simpa only [RpL] using h
  | d :: ds, vs, h => by
    simp only [RpL] at h ⊢
    obtain ⟨v, r, e, q, t⟩ := h
    exact ⟨v, r, e, Rp.mono s d v q, RpL.mono s ds r t⟩
end
theorem RpL.len : ∀ {ds : List D} {vs : List V}, RpL K cm F ds vs → vs.length = ds.length
  | [], _, h => by simp only [RpL] at h; subst h; rfl
  | d :: ds, _, h => by
    simp only [RpL] at h
    obtain ⟨v, r, rfl, _, t⟩ := h
    simp [RpL.len t]
theorem RpL.nil : RpL K cm F [] [] := by simp only [RpL]
theorem RpL.cons {d : D} {v : V} {ds : List D} {vs : List V} (h : Rp K cm F d v) (t : RpL K cm F ds vs) : RpL K cm F (d :: ds) (v :: vs) := by
  simp only [RpL]; exact ⟨v, vs, rfl, h, t⟩
theorem RpL.append : ∀ {ds es : List D} {vs us : List V}, RpL K cm F ds vs → RpL K cm F es us → RpL K cm F (ds ++ es) (vs ++ us)
  | [], _, _, _, h, t => by simp only [RpL] at h; subst h; exact t
  | d :: ds, es, _, us, h, t => by
    simp only [RpL] at h
    obtain ⟨v, r, rfl, q, h⟩ := h
    exact .cons q (RpL.append h t)
theorem RpL.get : ∀ {ds : List D} {vs : List V} {i : Nat} {d : D}, RpL K cm F ds vs → ds[i]? = some d → ∃ v, vs[i]? = some v ∧ Rp K cm F d v
  | [], _, i, _, _, e => by simp at e
  | d :: ds, _, 0, x, h, e => by
    simp only [RpL] at h
    obtain ⟨v, r, rfl, q, h⟩ := h
    simp at e; subst e
    exact ⟨v, rfl, q⟩
  | d :: ds, _, i + 1, x, h, e => by
    simp only [RpL] at h
    obtain ⟨v, r, rfl, q, h⟩ := h
    simp at e
    obtain ⟨w, h1, h2⟩ := RpL.get h e
    exact ⟨w, by simpa using h1, h2⟩
theorem RpL.get' : ∀ {ds : List D} {vs : List V} {i : Nat} {v : V}, RpL K cm F ds vs → vs[i]? = some v → ∃ d, ds[i]? = some d ∧ Rp K cm F d v := fun {ds vs i v} h e => by
  have hl := h.len
  have : i < ds.length := by
    have := (List.getElem?_eq_some_iff.mp e).1; omega
  obtain ⟨w, h1, h2⟩ := h.get (i := i) (d := ds[i]) (by simp [this])
  rw [e] at h1; cases h1
  exact ⟨_, by simp [this], h2⟩
theorem RpL.set : ∀ {ds : List D} {vs : List V} {i : Nat} {d : D} {v : V}, RpL K cm F ds vs → Rp K cm F d v → RpL K cm F (ds.set i d) (vs.set i v)
  | [], _, i, _, _, h, _ => by simp only [RpL] at h; subst h; exact .nil
  | d :: ds, _, 0, x, w, h, q => by
    simp only [RpL] at h
    obtain ⟨v, r, rfl, _, h⟩ := h
    exact .cons q h
  | d :: ds, _, i + 1, x, w, h, q => by
    simp only [RpL] at h
    obtain ⟨v, r, rfl, q', h⟩ := h
    exact .cons q' (RpL.set h q)
theorem RpL.take : ∀ {ds : List D} {vs : List V} (n : Nat), RpL K cm F ds vs → RpL K cm F (ds.take n) (vs.take n)
  | _, _, 0, _ => by simp only [List.take_zero]; exact .nil
  | [], _, n + 1, h => by simp only [RpL] at h; subst h; exact .nil
  | d :: ds, _, n + 1, h => by
    simp only [RpL] at h
    obtain ⟨v, r, rfl, q, h⟩ := h
    exact .cons q (RpL.take n h)
theorem RpL.drop : ∀ {ds : List D} {vs : List V} (n : Nat), RpL K cm F ds vs → RpL K cm F (ds.drop n) (vs.drop n)
  | _, _, 0, h => by simpa using h
  | [], _, n + 1, h => by simp only [RpL] at h; subst h; exact .nil
  | d :: ds, _, n + 1, h => by
    simp only [RpL] at h
    obtain ⟨v, r, rfl, _, h⟩ := h
    exact RpL.drop n h
end
/-- what an own object holds: a list, a dict with keys that are ints and texts, a dict whose keys are tuples of such, an instance; Kf: such a dict while it is walked -/
inductive OV where
  | L (l : List D)
  | K (ks : List Key) (l : List D)
  | T (ks : List (List Key)) (l : List D)
  | I (c : Str) (ns : List Str) (l : List D)
  | Kf (ks : List Key) (l : List D)
/-- an exception of the text's own: its class, what its one field holds -/
structure Xc where
  cls : Str
  fld : Option (Str × D)
/-- a slot: unset, data that never change, an own object, one that the caller owns, the exception that is handled -/
inductive SV where
  | un
  | dat (d : D)
  | own (o : OV)
  | bor (o : OV)
  | exc (x : Xc)
noncomputable abbrev Env := List SV
noncomputable def SV.isO : SV → Bool
  | .own _ => true
  | .bor _ => true
  | _ => false
noncomputable def SV.isB : SV → Bool
  | .bor _ => true
  | _ => false
section
variable (K : PySem.W.Frag) (cm : CM)
noncomputable def RO (F H : Hp) (a : Addr) : OV → Prop
  | .L l => ∃ xs, H a = some (.lst xs) ∧ RpL K cm F l xs
  | .K ks l => ∃ xs, H a = some (.dK (ks.zip xs)) ∧ ks.length = l.length ∧ RpL K cm F l xs
  | .T ks l => ∃ bs xs, (a == sysModules) = false ∧ H a = some (TDO cm.hs a ks bs xs) ∧ TKs K F ks bs ∧ ks.length = l.length ∧ RpL K cm F l xs
  | .I c ns l => ∃ dx C fs, cm c = some C ∧ H a = some (.ins C dx fs) ∧ F dx = some (.own a) ∧ fs.map (·.1) = ns ∧ RpL K cm F l (fs.map (·.2))
  | .Kf ks l => ∃ xs od, H a = some (.frz od (.dK (ks.zip xs))) ∧ ks.length = l.length ∧ RpL K cm F l xs
/-- how an exception lies: its class, its dict -/
noncomputable def XRp (F : Hp) (x : Xc) (cl : Value) (dx : Option Addr) : Prop :=
  ∃ C, cm x.cls = some C ∧ cl = .ref C ∧ match x.fld with
    | none => dx = none
    | some (f, v) => ∃ d u, dx = some d ∧ F d = some (.xd [(f, u)]) ∧ Rp K cm F v u
noncomputable def SlotOk (F H : Hp) (v : Option (Option V)) : SV → Prop
  | .un => True
  | .exc x => ∃ a cl dx, v = some (some (.ref a)) ∧ cm.pin a cl dx ∧ XRp K cm F x cl dx
  | .dat d => ∃ u, v = some (some u) ∧ Rp K cm F d u
  | .own o => ∃ a, v = some (some (.ref a)) ∧ F a = none ∧ RO K cm F H a o
  | .bor o => ∃ a, v = some (some (.ref a)) ∧ F a = none ∧ RO K cm F H a o
theorem XRp.mono {K : PySem.W.Frag} {cm : CM} {F F' : Hp} {x : Xc} {cl : Value} {dx : Option Addr} (s : Same F F') (h : XRp K cm F x cl dx) : XRp K cm F' x cl dx := by
  obtain ⟨C, h1, h2, h3⟩ := h
  refine ⟨C, h1, h2, ?_⟩
  obtain ⟨cls, fld⟩ := x
  cases fld with
  | none => exact h3
  | some q =>
    obtain ⟨d, u, e, z, r⟩ := h3
    exact ⟨d, u, e, s _ _ z, Rp.mono s _ _ r⟩
/-- the environment env is borne by the slots σ and the heap H; F: what never changes; H0: the heap at the entry -/
structure Good (H0 F : Hp) (env : Env) (σ : L2.St) (H : Hp) : Prop where
  le : Same F H
  len : σ.length = env.length
  slot : ∀ (i : Nat) sv, env[i]? = some sv → SlotOk K cm F H σ[i]? sv
  sep : ∀ (i j : Nat) sv tv a, i ≠ j → env[i]? = some sv → env[j]? = some tv → sv.isO = true → tv.isO = true → σ[i]? = some (some (.ref a)) → σ[j]? ≠ some (some (.ref a))
  frame : ∀ a o, H0 a = some o → (∀ (i : Nat) sv, env[i]? = some sv → sv.isB = true → σ[i]? ≠ some (some (.ref a))) → H a = some o
  fresh : ∀ (i : Nat) o a, env[i]? = some (.own o) → σ[i]? = some (some (.ref a)) → H0 a = none
end
/-- what an expression may do to the kinds of the slots -/
noncomputable def SvLe : SV → SV → Prop
  | .un, t => t = .un
  | .dat d, t => t = .dat d
  | .own _, t => (∃ o, t = .own o) ∨ ∃ d, t = .dat d
  | .bor _, t => ∃ o, t = .bor o
  | .exc x, t => t = .exc x
theorem SvLe.refl : ∀ s, SvLe s s
  | .un => rfl
  | .dat _ => rfl
  | .own o => .inl ⟨o, rfl⟩
  | .bor o => ⟨o, rfl⟩
  | .exc _ => rfl
theorem SvLe.trans : ∀ {a b c : SV}, SvLe a b → SvLe b c → SvLe a c
  | .un, _, _, h, k => by cases h; exact k
  | .dat _, _, _, h, k => by cases h; exact k
  | .own _, _, _, h, k => by
    rcases h with ⟨o, rfl⟩ | ⟨d, rfl⟩
    · exact k
    · cases k; exact .inr ⟨d, rfl⟩
  | .bor _, _, _, h, k => by
    obtain ⟨o, rfl⟩ := h
    exact k
  | .exc _, _, _, h, k => by cases h; exact k
structure EnvLe (a b : Env) : Prop where
  len : b.length = a.length
  at_ : ∀ (i : Nat) s, a[i]? = some s → ∃ t, b[i]? = some t ∧ SvLe s t
theorem EnvLe.refl (a : Env) : EnvLe a a := ⟨rfl, fun i s h => ⟨s, h, SvLe.refl s⟩⟩
theorem EnvLe.trans {a b c : Env} (h : EnvLe a b) (k : EnvLe b c) : EnvLe a c := ⟨k.len.trans h.len, fun i s e => by
  obtain ⟨t, e1, l1⟩ := h.at_ i s e
  obtain ⟨u, e2, l2⟩ := k.at_ i t e1
  exact ⟨u, e2, l1.trans l2⟩⟩
theorem EnvLe.back {a b : Env} (h : EnvLe a b) {i : Nat} {t : SV} (e : b[i]? = some t) : ∃ s, a[i]? = some s ∧ SvLe s t := by
  have : i < a.length := by rw [← h.len]; exact (List.getElem?_eq_some_iff.mp e).1
  obtain ⟨t', e', l⟩ := h.at_ i a[i] (by simp [this])
  rw [e] at e'; cases e'
  exact ⟨_, by simp [this], l⟩
inductive Out (α : Type) where
  | no
  | ok (a : α) (e : Env)
  | ex (x : Xc) (e : Env)
noncomputable def Out.bind {α β : Type} (o : Out α) (f : α → Env → Out β) : Out β := match o with
  | .no => .no
  | .ok a e => f a e
  | .ex x e => .ex x e
@[simp] theorem bind_no {α β : Type} (f : α → Env → Out β) : (Out.no : Out α).bind f = .no := rfl
@[simp] theorem bind_ok {α β : Type} (a : α) (e : Env) (f : α → Env → Out β) : (Out.ok a e).bind f = f a e := rfl
@[simp] theorem bind_ex {α β : Type} (x : Xc) (e : Env) (f : α → Env → Out β) : (Out.ex x e : Out α).bind f = .ex x e := rfl
/-- a wish for what is raised -/
noncomputable abbrev WX := L2.St → XK
noncomputable def W0 : WX := fun _ _ _ _ => False
/-- the facts of the text that data lean on -/
structure Kc where
  K : PySem.W.Frag
  cm : CM
section
variable (c : Kc)
noncomputable abbrev Kc.Good (H0 F : Hp) (env : Env) (σ : L2.St) (H : Hp) : Prop := DL.Good c.K c.cm H0 F env σ H
noncomputable abbrev XRep (F _H : Hp) (x : Xc) (cl : Value) (dx : Option Addr) : Prop := XRp c.K c.cm F x cl dx
structure Step (H0 F : Hp) (env : Env) (σ : L2.St) (F' : Hp) (env' : Env) (H' : Hp) : Prop where
  same : Same F F'
  le : EnvLe env env'
  good : c.Good H0 F' env' σ H'
  old : ∀ a o, H0 a ≠ none → F' a = some o → F a = some o
noncomputable def Res {α : Type} (W : WX) (H0 F : Hp) (env : Env) (σ : L2.St) (o : Out α) (k : α → Env → Hp → Hp → Prop) : Prop := match o with
  | .no => False
  | .ok a env' => ∀ F' H', Step c H0 F env σ F' env' H' → k a env' F' H'
  | .ex x env' => ∀ F' H' cl dx, Step c H0 F env σ F' env' H' → XRep c F' H' x cl dx → W σ cl dx H'
/-- THE canonical reading of what an expression comes to -/
noncomputable def tD (W : WX) (r : Env → Out D) : TE := fun σ H Q => ∃ H0 F env, c.Good H0 F env σ H ∧ Res c W H0 F env σ (r env) fun d _ F' H' => ∀ v, Rp c.K c.cm F' d v → Q v H'
end
section
variable {c : Kc} {W : WX} {H0 F F' H H' : Hp} {env env' : Env} {σ : L2.St} {α β : Type}
theorem Step.refl (g : c.Good H0 F env σ H) : Step c H0 F env σ F env H := ⟨Same.refl _, EnvLe.refl _, g, fun _ _ _ e => e⟩
theorem Step.trans {F2 H2 : Hp} {env2 : Env} (s : Step c H0 F env σ F' env' H') (t : Step c H0 F' env' σ F2 env2 H2) : Step c H0 F env σ F2 env2 H2 :=
  ⟨s.same.trans t.same, s.le.trans t.le, t.good, fun a o n e => s.old a o n (t.old a o n e)⟩
theorem Res.base {o : Out α} {k : α → Env → Hp → Hp → Prop} (s : Step c H0 F env σ F' env' H') (h : Res c W H0 F env σ o k) : Res c W H0 F' env' σ o k := by
  cases o with
  | no => exact h
  | ok a e => exact fun F2 H2 st => h F2 H2 (s.trans st)
  | ex x e => exact fun F2 H2 cl dx st => h F2 H2 cl dx (s.trans st)
theorem Res.mono {o : Out α} {k k' : α → Env → Hp → Hp → Prop} (h : Res c W H0 F env σ o k) (f : ∀ a e F' H', Step c H0 F env σ F' e H' → k a e F' H' → k' a e F' H') : Res c W H0 F env σ o k' := by
  cases o with
  | no => exact h
  | ok a e => exact fun F2 H2 st => f a e F2 H2 st (h F2 H2 st)
  | ex x e => exact h
theorem Res.bind {o : Out α} {f : α → Env → Out β} {k : β → Env → Hp → Hp → Prop} (h : Res c W H0 F env σ (o.bind f) k) :
    Res c W H0 F env σ o fun a e F' _ => Res c W H0 F' e σ (f a e) k := by
  cases o with
  | no => exact h
  | ok a e => exact fun F2 H2 st => Res.base st h
  | ex x e => exact h
/-- both at once -/
theorem Res.seq {o : Out α} {f : α → Env → Out β} {k : β → Env → Hp → Hp → Prop} {k' : α → Env → Hp → Hp → Prop} (h : Res c W H0 F env σ (o.bind f) k)
    (q : ∀ a e F' H', Step c H0 F env σ F' e H' → Res c W H0 F' e σ (f a e) k → k' a e F' H') : Res c W H0 F env σ o k' := h.bind.mono q
theorem Res.ret {a : α} {k : α → Env → Hp → Hp → Prop} (g : c.Good H0 F env σ H) (h : Res c W H0 F env σ (.ok a env) k) : k a env F H := h F H (Step.refl g)
theorem _root_.L2.PE.imp {X : Cx} {e : Expr} {t t' : TE} (h : PE X e t) (i : ∀ σ H Q, t' σ H Q → t σ H Q) : PE X e t' := ⟨fun pins s σ H Q I q => h.run pins s σ H Q I (i σ H Q q)⟩
theorem _root_.L2.PT.imp {X : Cx} {e : Expr} {t t' : TT} (h : PT X e t) (i : ∀ σ H Q, t' σ H Q → t σ H Q) : PT X e t' := ⟨fun pins s σ H Q I q => h.run pins s σ H Q I (i σ H Q q)⟩
theorem _root_.L2.PA.imp {X : Cx} {e : List Expr} {t t' : TA} (h : PA X e t) (i : ∀ σ H Q, t' σ H Q → t σ H Q) : PA X e t' := ⟨fun pos pins s σ H Q I q => h.run pos pins s σ H Q I (i σ H Q q)⟩
theorem _root_.L2.PS.imp {X : Cx} {e : Stmt} {t t' : TS} (h : PS X e t) (i : ∀ D σ H, t' D σ H → t D σ H) : PS X e t' := ⟨fun pins s σ H D I q => h.run pins s σ H D I (i D σ H q)⟩
theorem _root_.L2.PSs.imp {X : Cx} {e : List Stmt} {t t' : TS} (h : PSs X e t) (i : ∀ D σ H, t' D σ H → t D σ H) : PSs X e t' := ⟨fun pins s σ H D I q => h.run pins s σ H D I (i D σ H q)⟩
end
section
variable {c : Kc} {H0 F H : Hp} {env : Env} {σ : L2.St} {p : Addr} {o : HO}
theorem RO.mono {K : PySem.W.Frag} {cm : CM} {F F' H H' : Hp} {a : Addr} (s : Same F F') (e : H' a = H a) : ∀ {o : OV}, RO K cm F H a o → RO K cm F' H' a o
  | .L _, ⟨xs, h, r⟩ => ⟨xs, e.trans h, RpL.mono s _ _ r⟩
  | .K _ _, ⟨xs, h, z, r⟩ => ⟨xs, e.trans h, z, RpL.mono s _ _ r⟩
  | .T _ _, ⟨bs, xs, y, h, tk, z, r⟩ => ⟨bs, xs, y, e.trans h, tk.same s, z, RpL.mono s _ _ r⟩
  | .I _ _ _, ⟨dx, C, fs, hc, h, k, z, r⟩ => ⟨dx, C, fs, hc, e.trans h, s _ _ k, z, RpL.mono s _ _ r⟩
  | .Kf _ _, ⟨xs, od, h, z, r⟩ => ⟨xs, od, e.trans h, z, RpL.mono s _ _ r⟩
theorem RO.some {K : PySem.W.Frag} {cm : CM} {F H : Hp} {a : Addr} : ∀ {o : OV}, RO K cm F H a o → ∃ u, H a = some u
  | .L _, ⟨xs, h, r⟩ => ⟨_, h⟩
  | .K _ _, ⟨xs, h, r⟩ => ⟨_, h⟩
  | .T _ _, ⟨bs, xs, y, h, r⟩ => ⟨_, h⟩
  | .I _ _ _, ⟨dx, C, fs, hc, h, r⟩ => ⟨_, h⟩
  | .Kf _ _, ⟨xs, od, h, r⟩ => ⟨_, h⟩
theorem Good.at_own (g : c.Good H0 F env σ H) {i : Nat} {sv : SV} (e : env[i]? = Option.some sv) (o : sv.isO = true) : ∃ a ov, (sv = .own ov ∨ sv = .bor ov) ∧ σ[i]? = Option.some (Option.some (.ref a)) ∧ F a = none ∧ RO c.K c.cm F H a ov := by
  have h := g.slot i sv e
  cases sv with
  | un => cases o
  | dat d => cases o
  | exc x => cases o
  | own ov => obtain ⟨a, h1, h2, h3⟩ := h; exact ⟨a, ov, .inl rfl, h1, h2, h3⟩
  | bor ov => obtain ⟨a, h1, h2, h3⟩ := h; exact ⟨a, ov, .inr rfl, h1, h2, h3⟩
/-- a new thing that never changes -/
theorem Good.alloc (g : c.Good H0 F env σ H) (hp : H p = none) : Step c H0 F env σ (upd F p o) env (upd H p o) := by
  have fp : F p = none := Same.free g.le hp
  have sm : Same F (upd F p o) := fun a u e => by rw [upd_ne (ne_of_none e fp)]; exact e
  refine ⟨sm, EnvLe.refl _, ⟨fun a u e => ?_, g.len, fun i sv e => ?_, g.sep, fun a u e q => ?_, g.fresh⟩, fun a u n e => ?_⟩
  · by_cases h : a = p
    · subst h; rw [upd_same] at e ⊢; exact e
    · rw [upd_ne h] at e ⊢; exact g.le a u e
  · have h := g.slot i sv e
    have key : ∀ {a : Addr} {ov : OV}, F a = none → RO c.K c.cm F H a ov → upd F p o a = none ∧ RO c.K c.cm (upd F p o) (upd H p o) a ov := fun {a ov} h1 h2 => by
      obtain ⟨u, hu⟩ := h2.some
      have ne := ne_of_none hu hp
      exact ⟨by rw [upd_ne ne]; exact h1, h2.mono sm (upd_ne ne)⟩
    cases sv with
    | un => trivial
    | dat d => obtain ⟨u, h1, h2⟩ := h; exact ⟨u, h1, Rp.mono sm _ _ h2⟩
    | exc x => obtain ⟨b, cl, dx, h1, h2, h3⟩ := h; exact ⟨b, cl, dx, h1, h2, h3.mono sm⟩
    | own ov => obtain ⟨a, h1, h2, h3⟩ := h; exact ⟨a, h1, key h2 h3⟩
    | bor ov => obtain ⟨a, h1, h2, h3⟩ := h; exact ⟨a, h1, key h2 h3⟩
  · have := g.frame a u e q
    rw [upd_ne (ne_of_none this hp)]; exact this
  · by_cases h : a = p
    · subst h
      exfalso
      cases e0 : H0 a with
      | none => exact n e0
      | some w =>
        have := g.frame a w e0 fun i sv e' sb z => by
          obtain ⟨b, ov, _, h1, _, h3⟩ := g.at_own e' (by cases sv <;> first | rfl | cases sb)
          obtain ⟨u', hu⟩ := h3.some
          rw [z] at h1; cases h1
          rw [hp] at hu; cases hu
        rw [hp] at this; cases this
    · rw [upd_ne h] at e; exact e
/-- an own object's content changes -/
theorem Good.change (g : c.Good H0 F env σ H) {i : Nat} {sv sv' : SV} {a : Addr} {ov : OV} (e : env[i]? = some sv) (so : sv.isO = true) (ha : σ[i]? = some (some (.ref a)))
    (k : (∃ x, sv = .own x ∧ sv' = .own ov) ∨ ∃ x, sv = .bor x ∧ sv' = .bor ov) (r : RO c.K c.cm F (upd H a o) a ov) : Step c H0 F env σ F (env.set i sv') (upd H a o) := by
  obtain ⟨a', ov', _, h1, h2, h3⟩ := g.at_own e so
  rw [ha] at h1; cases h1
  have hi : i < env.length := (List.getElem?_eq_some_iff.mp e).1
  have so' : sv'.isO = true := by rcases k with ⟨x, rfl, rfl⟩ | ⟨x, rfl, rfl⟩ <;> rfl
  have sb : sv'.isB = sv.isB := by rcases k with ⟨x, rfl, rfl⟩ | ⟨x, rfl, rfl⟩ <;> rfl
  have look : ∀ {j : Nat} {tv : SV}, (env.set i sv')[j]? = some tv → (j = i ∧ tv = sv') ∨ (j ≠ i ∧ env[j]? = some tv) := fun {j tv} q => by
    by_cases hj : j = i
    · subst hj; rw [List.getElem?_set_self hi] at q; cases q; exact .inl ⟨rfl, rfl⟩
    · rw [List.getElem?_set_ne (Ne.symm hj)] at q; exact .inr ⟨hj, q⟩
  have orig : ∀ {j : Nat} {tv : SV}, (env.set i sv')[j]? = some tv → ∃ t0, env[j]? = some t0 ∧ t0.isO = tv.isO ∧ t0.isB = tv.isB := fun {j tv} q => by
    rcases look q with ⟨rfl, rfl⟩ | ⟨_, q⟩
    · exact ⟨sv, e, so.trans so'.symm, sb.symm⟩
    · exact ⟨tv, q, rfl, rfl⟩
  have hF : ∀ b, F b ≠ none → b ≠ a := fun b hb z => hb (z ▸ h2)
  refine ⟨Same.refl _, ⟨by simp, fun j s q => ?_⟩, ⟨fun b u q => ?_, by simpa using g.len, fun j tv q => ?_, fun j l tv uv b n q1 q2 o1 o2 r1 => ?_, fun b u q z => ?_, fun j ox b q z => ?_⟩, fun _ _ _ e => e⟩
  · by_cases hj : j = i
    · subst hj
      rw [e] at q; cases q
      refine ⟨sv', List.getElem?_set_self hi, ?_⟩
      rcases k with ⟨x, rfl, rfl⟩ | ⟨x, rfl, rfl⟩
      · exact .inl ⟨_, rfl⟩
      · exact ⟨_, rfl⟩
    · exact ⟨s, by rw [List.getElem?_set_ne (Ne.symm hj)]; exact q, SvLe.refl s⟩
  · rw [upd_ne (hF b (by rw [q]; simp))]; exact g.le b u q
  · rcases look q with ⟨rfl, rfl⟩ | ⟨hj, q⟩
    · rcases k with ⟨x, rfl, rfl⟩ | ⟨x, rfl, rfl⟩ <;> exact ⟨a, ha, h2, r⟩
    · have h := g.slot j tv q
      have ne : ∀ {b : Addr}, tv.isO = true → σ[j]? = some (some (.ref b)) → b ≠ a := fun {b} ot hb z => g.sep i j sv tv a (Ne.symm hj) e q so ot ha (z ▸ hb)
      cases tv with
      | un => trivial
      | dat d => exact h
      | exc x => exact h
      | own ox => obtain ⟨b, b1, b2, b3⟩ := h; exact ⟨b, b1, b2, b3.mono (Same.refl _) (upd_ne (ne rfl b1))⟩
      | bor ox => obtain ⟨b, b1, b2, b3⟩ := h; exact ⟨b, b1, b2, b3.mono (Same.refl _) (upd_ne (ne rfl b1))⟩
  · obtain ⟨t1, e1, x1, _⟩ := orig q1
    obtain ⟨t2, e2, x2, _⟩ := orig q2
    exact g.sep j l t1 t2 b n e1 e2 (x1.trans o1) (x2.trans o2) r1
  · have z' : ∀ (j : Nat) tv, env[j]? = some tv → tv.isB = true → σ[j]? ≠ some (some (.ref b)) := fun j tv q1 b1 => by
      by_cases hj : j = i
      · subst hj
        rw [e] at q1; cases q1
        exact z j sv' (List.getElem?_set_self hi) (sb.trans b1)
      · exact z j tv (by rw [List.getElem?_set_ne (Ne.symm hj)]; exact q1) b1
    have := g.frame b u q z'
    by_cases hb : b = a
    · subst hb
      exfalso
      rcases k with ⟨x, rfl, rfl⟩ | ⟨x, rfl, rfl⟩
      · have := g.fresh i x b e ha; rw [q] at this; cases this
      · exact z' i _ e rfl ha
    · rw [upd_ne hb]; exact this
  · rcases look q with ⟨rfl, rfl⟩ | ⟨hj, q⟩
    · rcases k with ⟨x, rfl, z2⟩ | ⟨x, _, z2⟩
      · exact g.fresh j x b e z
      · cases z2
    · exact g.fresh j ox b q z
end
section
variable {c : Kc} {H0 F H : Hp} {env : Env} {σ : L2.St} {p : Addr} {o : HO}
/-- a thing that nobody's slot owns, that stands in H and not yet in F -/
structure Apart (env : Env) (σ : L2.St) (H0 F H : Hp) (p : Addr) (o : HO) : Prop where
  f : F p = none
  h : H p = some o
  h0 : H0 p = none
  no : ∀ (i : Nat) sv, env[i]? = some sv → sv.isO = true → σ[i]? ≠ some (some (.ref p))
theorem Good.lay (g : c.Good H0 F env σ H) (hp : H p = none) : c.Good H0 F env σ (upd H p o) ∧ Apart env σ H0 F (upd H p o) p o := by
  have fp : F p = none := Same.free g.le hp
  have no : ∀ (i : Nat) sv, env[i]? = some sv → sv.isO = true → σ[i]? ≠ some (some (.ref p)) := fun i sv e so z => by
    obtain ⟨a, ov, _, h1, _, h3⟩ := g.at_own e so
    obtain ⟨u, hu⟩ := h3.some
    rw [z] at h1; cases h1
    rw [hp] at hu; cases hu
  refine ⟨⟨fun a u e => by rw [upd_ne (ne_of_none e fp)]; exact g.le a u e, g.len, fun i sv e => ?_, g.sep, fun a u e q => ?_, g.fresh⟩, fp, upd_same, ?_, no⟩
  · have h := g.slot i sv e
    have key : ∀ {a : Addr} {ov : OV}, RO c.K c.cm F H a ov → RO c.K c.cm F (upd H p o) a ov := fun {a ov} h2 => by
      obtain ⟨u, hu⟩ := h2.some
      exact h2.mono (Same.refl _) (upd_ne (ne_of_none hu hp))
    cases sv with
    | un => trivial
    | dat d => exact h
    | exc x => exact h
    | own ov => obtain ⟨a, h1, h2, h3⟩ := h; exact ⟨a, h1, h2, key h3⟩
    | bor ov => obtain ⟨a, h1, h2, h3⟩ := h; exact ⟨a, h1, h2, key h3⟩
  · have := g.frame a u e q
    rw [upd_ne (ne_of_none this hp)]; exact this
  · cases e : H0 p with
    | none => rfl
    | some u =>
      have := g.frame p u e fun i sv e' so => no i sv e' (by cases sv <;> first | rfl | cases so)
      rw [hp] at this; cases this
/-- it is held for good -/
theorem Good.hold (g : c.Good H0 F env σ H) (a : Apart env σ H0 F H p o) : Step c H0 F env σ (upd F p o) env H := by
  have sm : Same F (upd F p o) := fun b u e => by rw [upd_ne (ne_of_none e a.f)]; exact e
  refine ⟨sm, EnvLe.refl _, ⟨fun b u e => ?_, g.len, fun i sv e => ?_, g.sep, g.frame, g.fresh⟩, fun b u n e => by
    by_cases h : b = p
    · subst h; exact absurd a.h0 n
    · rw [upd_ne h] at e; exact e⟩
  · by_cases h : b = p
    · subst h; rw [upd_same] at e; cases e; exact a.h
    · rw [upd_ne h] at e; exact g.le b u e
  · have h := g.slot i sv e
    have ne : ∀ {b : Addr}, sv.isO = true → σ[i]? = some (some (.ref b)) → b ≠ p := fun {b} so hb z => a.no i sv e so (z ▸ hb)
    cases sv with
    | un => trivial
    | dat d => obtain ⟨u, h1, h2⟩ := h; exact ⟨u, h1, Rp.mono sm _ _ h2⟩
    | exc x => obtain ⟨b, cl, dx, h1, h2, h3⟩ := h; exact ⟨b, cl, dx, h1, h2, h3.mono sm⟩
    | own ov => obtain ⟨b, h1, h2, h3⟩ := h; exact ⟨b, h1, by rw [upd_ne (ne rfl h1)]; exact h2, h3.mono sm rfl⟩
    | bor ov => obtain ⟨b, h1, h2, h3⟩ := h; exact ⟨b, h1, by rw [upd_ne (ne rfl h1)]; exact h2, h3.mono sm rfl⟩
/-- a slot is given data -/
theorem Good.set (g : c.Good H0 F env σ H) {i : Nat} {d : D} {v : V} (hb : ∀ sv, env[i]? = some sv → sv.isB = false) (r : Rp c.K c.cm F d v) : c.Good H0 F (env.set i (.dat d)) (σ.set i (some v)) H := by
  have look : ∀ {j : Nat} {tv : SV}, (env.set i (.dat d))[j]? = some tv → (j = i ∧ i < env.length ∧ tv = .dat d) ∨ (j ≠ i ∧ env[j]? = some tv ∧ (σ.set i (some v))[j]? = σ[j]?) := fun {j tv} q => by
    by_cases hj : j = i
    · subst hj
      have hi : j < env.length := by have := (List.getElem?_eq_some_iff.mp q).1; simpa using this
      rw [List.getElem?_set_self hi] at q; cases q; exact .inl ⟨rfl, hi, rfl⟩
    · rw [List.getElem?_set_ne (Ne.symm hj)] at q; exact .inr ⟨hj, q, List.getElem?_set_ne (Ne.symm hj)⟩
  refine ⟨g.le, by simpa using g.len, fun j tv q => ?_, fun j l tv uv a n q1 q2 o1 o2 r1 => ?_, fun a u e z => g.frame a u e fun j tv q b => ?_, fun j ox a q z => ?_⟩
  · rcases look q with ⟨rfl, hi, rfl⟩ | ⟨_, q, e⟩
    · exact ⟨v, List.getElem?_set_self (by rw [g.len]; exact hi), r⟩
    · rw [e]; exact g.slot j tv q
  · rcases look q1 with ⟨rfl, _, rfl⟩ | ⟨_, q1, e1⟩
    · cases o1
    rcases look q2 with ⟨rfl, _, rfl⟩ | ⟨_, q2, e2⟩
    · cases o2
    rw [e1] at r1; rw [e2]
    exact g.sep j l tv uv a n q1 q2 o1 o2 r1
  · by_cases hj : j = i
    · subst hj; rw [hb tv q] at b; cases b
    · have := z j tv (by rw [List.getElem?_set_ne (Ne.symm hj)]; exact q) b
      rwa [List.getElem?_set_ne (Ne.symm hj)] at this
  · rcases look q with ⟨rfl, _, q⟩ | ⟨_, q, e⟩
    · cases q
    · rw [e] at z; exact g.fresh j ox a q z
/-- a slot is given an own object -/
theorem Good.setOwn (g : c.Good H0 F env σ H) {i : Nat} {ov : OV} (hb : ∀ sv, env[i]? = some sv → sv.isB = false) (a : Apart env σ H0 F H p o) (r : RO c.K c.cm F H p ov) : c.Good H0 F (env.set i (.own ov)) (σ.set i (some (.ref p))) H := by
  have look : ∀ {j : Nat} {tv : SV}, (env.set i (.own ov))[j]? = some tv → (j = i ∧ i < env.length ∧ tv = .own ov) ∨ (j ≠ i ∧ env[j]? = some tv ∧ (σ.set i (some (.ref p)))[j]? = σ[j]?) := fun {j tv} q => by
    by_cases hj : j = i
    · subst hj
      have hi : j < env.length := by have := (List.getElem?_eq_some_iff.mp q).1; simpa using this
      rw [List.getElem?_set_self hi] at q; cases q; exact .inl ⟨rfl, hi, rfl⟩
    · rw [List.getElem?_set_ne (Ne.symm hj)] at q; exact .inr ⟨hj, q, List.getElem?_set_ne (Ne.symm hj)⟩
  refine ⟨g.le, by simpa using g.len, fun j tv q => ?_, fun j l tv uv b n q1 q2 o1 o2 r1 => ?_, fun b u e z => g.frame b u e fun j tv q bb => ?_, fun j ox b q z => ?_⟩
  · rcases look q with ⟨rfl, hi, rfl⟩ | ⟨_, q, e⟩
    · exact ⟨p, List.getElem?_set_self (by rw [g.len]; exact hi), a.f, r⟩
    · rw [e]; exact g.slot j tv q
  · rcases look q1 with ⟨rfl, hi, rfl⟩ | ⟨_, q1, e1⟩
    · rw [List.getElem?_set_self (by rw [g.len]; exact hi)] at r1; cases r1
      rcases look q2 with ⟨rfl, _, rfl⟩ | ⟨_, q2, e2⟩
      · exact absurd rfl n
      · rw [e2]; exact a.no l uv q2 o2
    · rw [e1] at r1
      rcases look q2 with ⟨rfl, hi, rfl⟩ | ⟨_, q2, e2⟩
      · rw [List.getElem?_set_self (by rw [g.len]; exact hi)]
        intro z
        have z' := Option.some.inj (Option.some.inj z)
        injection z' with z'
        subst z'
        exact absurd r1 (a.no j tv (by assumption) o1)
      · rw [e2]; exact g.sep j l tv uv b n (by assumption) q2 o1 o2 r1
  · by_cases hj : j = i
    · subst hj; rw [hb tv q] at bb; cases bb
    · have := z j tv (by rw [List.getElem?_set_ne (Ne.symm hj)]; exact q) bb
      rwa [List.getElem?_set_ne (Ne.symm hj)] at this
  · rcases look q with ⟨rfl, hi, q⟩ | ⟨_, q, e⟩
    · rw [List.getElem?_set_self (by rw [g.len]; exact hi)] at z; cases z; exact a.h0
    · rw [e] at z; exact g.fresh j ox b q z
/-- what an own list is as data -/
noncomputable def OV.toD : OV → D
  | .L l => .lst l
  | .K ks l => .dK ks l
  | .T ks l => .dT ks l
  | .I c ns l => .obj c ns l
  | .Kf ks l => .dK ks l
/-- an own object is held for good: from here on it is data (a dict: only once it is locked) -/
theorem Good.freeze (g : c.Good H0 F env σ H) {i : Nat} {ov : OV} (e : env[i]? = some (.own ov)) (hk : ∀ ks l, ov ≠ .K ks l := by intro _ _ z; cases z) :
    ∃ a F', σ[i]? = some (some (.ref a)) ∧ Step c H0 F env σ F' (env.set i (.dat ov.toD)) H ∧ Rp c.K c.cm F' ov.toD (.ref a) := by
  obtain ⟨a, ov', k, h1, h2, h3⟩ := g.at_own e rfl
  obtain rfl : ov = ov' := by
    rcases k with k | k
    · injection k
    · cases k
  obtain ⟨o, ho⟩ := h3.some
  have hi : i < env.length := (List.getElem?_eq_some_iff.mp e).1
  have sm : Same F (upd F a o) := fun b u q => by rw [upd_ne (ne_of_none q h2)]; exact q
  have rp : Rp c.K c.cm (upd F a o) ov.toD (.ref a) := by
    cases ov with
    | L l =>
      obtain ⟨xs, q, r⟩ := h3
      rw [ho] at q; cases q
      simp only [OV.toD, Rp]
      exact ⟨a, xs, rfl, upd_same, RpL.mono sm _ _ r⟩
    | K ks l => exact absurd rfl (hk ks l)
    | Kf ks l =>
      obtain ⟨xs, od, q, z, r⟩ := h3
      rw [ho] at q; cases q
      simp only [OV.toD, Rp]
      exact ⟨a, xs, od, rfl, upd_same, z, RpL.mono sm _ _ r⟩
    | T ks l =>
      obtain ⟨bs, xs, y, q, tk, z, r⟩ := h3
      rw [ho] at q; cases q
      simp only [OV.toD, Rp]
      exact ⟨a, bs, xs, rfl, y, upd_same, tk.same sm, z, RpL.mono sm _ _ r⟩
    | I cn ns l =>
      obtain ⟨dx, C, fs, hc, q, k, z, r⟩ := h3
      rw [ho] at q; cases q
      simp only [OV.toD, Rp]
      exact ⟨a, dx, C, fs, rfl, hc, upd_same, sm _ _ k, z, RpL.mono sm _ _ r⟩
  have look : ∀ {j : Nat} {tv : SV}, (env.set i (.dat ov.toD))[j]? = some tv → (j = i ∧ tv = .dat ov.toD) ∨ (j ≠ i ∧ env[j]? = some tv) := fun {j tv} q => by
    by_cases hj : j = i
    · subst hj
      rw [List.getElem?_set_self hi] at q; cases q; exact .inl ⟨rfl, rfl⟩
    · rw [List.getElem?_set_ne (Ne.symm hj)] at q; exact .inr ⟨hj, q⟩
  refine ⟨a, upd F a o, h1, ⟨sm, ⟨by simp, fun j s q => ?_⟩, ⟨fun b u q => ?_, by simpa using g.len, fun j tv q => ?_, fun j l tv uv b n q1 q2 o1 o2 r1 => ?_, fun b u q z => g.frame b u q fun j tv q1 bb => ?_, fun j ox b q z => ?_⟩, fun b u n q => by
    by_cases h : b = a
    · subst h; exact absurd (g.fresh i ov b e h1) n
    · rw [upd_ne h] at q; exact q⟩, rp⟩
  · by_cases hj : j = i
    · subst hj
      rw [e] at q; cases q
      exact ⟨_, List.getElem?_set_self hi, .inr ⟨_, rfl⟩⟩
    · exact ⟨s, by rw [List.getElem?_set_ne (Ne.symm hj)]; exact q, SvLe.refl s⟩
  · by_cases h : b = a
    · subst h; rw [upd_same] at q; cases q; exact ho
    · rw [upd_ne h] at q; exact g.le b u q
  · rcases look q with ⟨rfl, rfl⟩ | ⟨hj, q⟩
    · exact ⟨_, h1, rp⟩
    · have h := g.slot j tv q
      have ne : ∀ {b : Addr}, tv.isO = true → σ[j]? = some (some (.ref b)) → b ≠ a := fun {b} ot hb z => g.sep i j _ tv a (Ne.symm hj) e q rfl ot h1 (z ▸ hb)
      cases tv with
      | un => trivial
      | dat d => obtain ⟨u, h1, h2⟩ := h; exact ⟨u, h1, Rp.mono sm _ _ h2⟩
      | exc x => obtain ⟨b, cl, dx, h1, h2, h3⟩ := h; exact ⟨b, cl, dx, h1, h2, h3.mono sm⟩
      | own ox => obtain ⟨b, b1, b2, b3⟩ := h; exact ⟨b, b1, by rw [upd_ne (ne rfl b1)]; exact b2, b3.mono sm rfl⟩
      | bor ox => obtain ⟨b, b1, b2, b3⟩ := h; exact ⟨b, b1, by rw [upd_ne (ne rfl b1)]; exact b2, b3.mono sm rfl⟩
  · rcases look q1 with ⟨rfl, rfl⟩ | ⟨_, q1⟩
    · cases o1
    rcases look q2 with ⟨rfl, rfl⟩ | ⟨_, q2⟩
    · cases o2
    exact g.sep j l tv uv b n q1 q2 o1 o2 r1
  · by_cases hj : j = i
    · subst hj; rw [e] at q1; cases q1; cases bb
    · exact z j tv (by rw [List.getElem?_set_ne (Ne.symm hj)]; exact q1) bb
  · rcases look q with ⟨rfl, q'⟩ | ⟨_, q'⟩
    · cases q'
    · exact g.fresh j ox b q' z
end
/-- what comes out may be locked for good -/
noncomputable def tMl (t : TE) : TE := fun σ H Q => t σ H fun v H1 => Q v H1 ∨ ∃ d u, v = .ref d ∧ H1 d = some u ∧ Mut (some u) ∧ ∀ od, Q v (upd H1 d (.frz od u))
theorem pe_ml {X : Cx} {e : Expr} {t : TE} (h : PE X e t) : PE X e (tMl t) := by
  refine ⟨fun pins s σ H Q I hw => ?_⟩
  refine thn (h.run pins s σ H _ I hw) fun v s1 ⟨x, H1, I1, r, q⟩ => ?_
  rcases q with q | ⟨d, u, ex, hd, mu, q⟩
  · exact ⟨x, H1, I1, r, q⟩
  · obtain ⟨od, I2⟩ := I1.lock hd mu
    exact ⟨x, _, I2, r, q od⟩
section
variable {c : Kc} {H0 F H : Hp} {env : Env} {σ : L2.St}
/-- an own dict is locked -/
theorem Good.lockK (g : c.Good H0 F env σ H) {i : Nat} {ks : List Key} {l : List D} (e : env[i]? = some (.own (.K ks l))) :
    ∃ a u, σ[i]? = some (some (.ref a)) ∧ H a = some u ∧ Mut (some u) ∧ ∀ od, Step c H0 F env σ F (env.set i (.own (.Kf ks l))) (upd H a (.frz od u)) := by
  obtain ⟨a, ov, k, h1, h2, h3⟩ := g.at_own e rfl
  obtain rfl : ov = .K ks l := by
    rcases k with k | k
    · injection k with k; exact k.symm
    · cases k
  obtain ⟨xs, q, z, r⟩ := h3
  exact ⟨a, _, h1, q, trivial, fun od => g.change e rfl h1 (.inl ⟨_, rfl, rfl⟩) ⟨xs, od, upd_same, z, r⟩⟩
/-- an own dict is held for good -/
theorem Good.freezeK (g : c.Good H0 F env σ H) {i : Nat} {ks : List Key} {l : List D} (e : env[i]? = some (.own (.K ks l))) :
    ∃ a u, σ[i]? = some (some (.ref a)) ∧ H a = some u ∧ Mut (some u) ∧ ∀ od, ∃ F', Step c H0 F env σ F' (env.set i (.dat (.dK ks l))) (upd H a (.frz od u)) ∧ Rp c.K c.cm F' (.dK ks l) (.ref a) := by
  obtain ⟨a, u, h1, h2, h3, h4⟩ := g.lockK e
  refine ⟨a, u, h1, h2, h3, fun od => ?_⟩
  have st := h4 od
  have hi : i < env.length := (List.getElem?_eq_some_iff.mp e).1
  obtain ⟨a2, F', k1, k2, k3⟩ := st.good.freeze (i := i) (ov := .Kf ks l) (List.getElem?_set_self hi)
  rw [h1] at k1; cases k1
  rw [List.set_set] at k2
  exact ⟨F', st.trans k2, k3⟩
end
section
variable {c : Kc} {W : WX} {H0 F F' H H' : Hp} {env env' : Env} {σ : L2.St} {p : Addr} {o o' : HO} {α : Type}
noncomputable def rebase (env : Env) (σ : L2.St) (H : Hp) : Hp := fun b => open Classical in if ∃ (i : Nat) (o : OV), env[i]? = some (.own o) ∧ σ[i]? = some (some (.ref b)) then none else H b
theorem rebase_some {b : Addr} {u : HO} (h : rebase env σ H b = some u) : H b = some u := by
  unfold rebase at h
  split at h
  · cases h
  · exact h
theorem rebase_ne {b : Addr} (h : ∀ (i : Nat) ov, env[i]? = some (.own ov) → σ[i]? ≠ some (some (.ref b))) : rebase env σ H b = H b := by
  unfold rebase
  rw [if_neg]
  rintro ⟨i, ov, h1, h2⟩
  exact h i ov h1 h2
theorem Good.rebased (g : c.Good H0 F env σ H) : c.Good (rebase env σ H) F env σ H :=
  ⟨g.le, g.len, g.slot, g.sep, fun a u e _ => rebase_some e, fun i ov a e h => by unfold rebase; exact if_pos ⟨i, ov, e, h⟩⟩
theorem EnvLe.bor {a b : Env} (l : EnvLe a b) {i : Nat} {s : SV} (e : b[i]? = some s) (sb : s.isB = true) : ∃ t, a[i]? = some t ∧ t.isB = true := by
  obtain ⟨t, e1, k⟩ := l.back e
  refine ⟨t, e1, ?_⟩
  cases t with
  | un => cases k; cases sb
  | dat d => cases k; cases sb
  | exc x => cases k; cases sb
  | own ov => rcases k with ⟨_, rfl⟩ | ⟨_, rfl⟩ <;> cases sb
  | bor ov => rfl
theorem EnvLe.bor' {a b : Env} (l : EnvLe a b) {i : Nat} {s : SV} (e : a[i]? = some s) (sb : s.isB = true) : ∃ t, b[i]? = some t ∧ t.isB = true := by
  obtain ⟨t, e1, k⟩ := l.at_ i s e
  refine ⟨t, e1, ?_⟩
  cases s with
  | bor ov => obtain ⟨o, rfl⟩ := k; rfl
  | _ => cases sb
theorem EnvLe.own {a b : Env} (l : EnvLe a b) {i : Nat} {ov : OV} (e : b[i]? = some (.own ov)) : ∃ o, a[i]? = some (.own o) := by
  obtain ⟨t, e1, k⟩ := l.back e
  cases t with
  | un => cases k
  | dat d => cases k
  | exc x => cases k
  | own ov => exact ⟨ov, e1⟩
  | bor ov => obtain ⟨_, k⟩ := k; cases k
theorem Good.bor_some (g : c.Good H0 F env σ H) {i : Nat} {s : SV} {a : Addr} (e : env[i]? = some s) (so : s.isO = true) (ha : σ[i]? = some (some (.ref a))) : ∃ u, H a = some u := by
  obtain ⟨b, ov, _, h1, _, h3⟩ := g.at_own e so
  rw [ha] at h1; cases h1
  exact h3.some
theorem SV.isO_of_isB {s : SV} (h : s.isB = true) : s.isO = true := by cases s <;> first | rfl | cases h
theorem Good.base_some (g : c.Good H0 F env σ H) {a : Addr} (n : H0 a ≠ none) : rebase env σ H a ≠ none := by
  have no : ∀ (i : Nat) ov, env[i]? = some (.own ov) → σ[i]? ≠ some (some (.ref a)) := fun i ov e z => n (g.fresh i ov a e z)
  rw [rebase_ne no]
  by_cases hb : ∃ (i : Nat) (sv : SV), env[i]? = some sv ∧ sv.isB = true ∧ σ[i]? = some (some (.ref a))
  · obtain ⟨i, sv, e, sb, ha⟩ := hb
    obtain ⟨u, hu⟩ := g.bor_some e (SV.isO_of_isB sb) ha
    rw [hu]; simp
  · cases e0 : H0 a with
    | none => exact absurd e0 n
    | some u => rw [g.frame a u e0 fun i sv e sb z => hb ⟨i, sv, e, sb, z⟩]; simp
theorem Good.unbase (g : c.Good H0 F env σ H) (s : Step c (rebase env σ H) F env σ F' env' H') : Step c H0 F env σ F' env' H' := by
  refine ⟨s.same, s.le, ⟨s.good.le, s.good.len, s.good.slot, s.good.sep, fun a u e q => ?_, fun i ov a e ha => ?_⟩, fun a u n e => s.old a u (g.base_some n) e⟩
  · have h1 : H a = some u := g.frame a u e fun i sv e1 sb => by
      obtain ⟨t, e2, sb2⟩ := s.le.bor' e1 sb
      exact q i t e2 sb2
    refine s.good.frame a u ?_ q
    rw [rebase_ne fun i ov e1 z => by have := g.fresh i ov a e1 z; rw [e] at this; cases this]
    exact h1
  · obtain ⟨o, e1⟩ := s.le.own e
    exact g.fresh i o a e1 ha
/-- what stands apart stands so behind -/
theorem Apart.after (g : c.Good H0 F env σ H) (a : Apart env σ H0 F H p o) (s : Step c (rebase env σ H) F env σ F' env' H') : Apart env' σ H0 F' H' p o := by
  have no : ∀ (i : Nat) sv, env'[i]? = some sv → sv.isO = true → σ[i]? ≠ some (some (.ref p)) := fun i sv e so => by
    obtain ⟨t, e1, k⟩ := s.le.back e
    refine a.no i t e1 ?_
    cases t with
    | un => cases k; cases so
    | dat d => cases k; cases so
    | exc x => cases k; cases so
    | _ => rfl
  have hb : rebase env σ H p = some o := by rw [rebase_ne fun i ov e => a.no i _ e rfl]; exact a.h
  refine ⟨?_, s.good.frame p o hb fun i sv e sb => no i sv e (SV.isO_of_isB sb), a.h0, no⟩
  cases e : F' p with
  | none => rfl
  | some u =>
    have := s.old p u (by rw [hb]; simp) e
    rw [a.f] at this; cases this
theorem Res.rebased {o : Out α} {k : α → Env → Hp → Hp → Prop} (g : c.Good H0 F env σ H) (h : Res c W H0 F env σ o k) :
    Res c W (rebase env σ H) F env σ o fun a e F' H' => k a e F' H' ∧ Step c H0 F env σ F' e H' ∧ Step c (rebase env σ H) F env σ F' e H' := by
  cases o with
  | no => exact h
  | ok a e => exact fun F2 H2 st => ⟨h F2 H2 (g.unbase st), g.unbase st, st⟩
  | ex x e => exact fun F2 H2 cl dx st => h F2 H2 cl dx (g.unbase st)
/-- what stands apart is changed -/
theorem Good.changeApart (g : c.Good H0 F env σ H) (a : Apart env σ H0 F H p o) : c.Good H0 F env σ (upd H p o') ∧ Apart env σ H0 F (upd H p o') p o' := by
  refine ⟨⟨fun b u e => ?_, g.len, fun i sv e => ?_, g.sep, fun b u e q => ?_, g.fresh⟩, a.f, upd_same, a.h0, a.no⟩
  · rw [upd_ne (ne_of_none e a.f)]; exact g.le b u e
  · have h := g.slot i sv e
    have key : ∀ {b : Addr} {ov : OV}, sv.isO = true → σ[i]? = some (some (.ref b)) → RO c.K c.cm F H b ov → RO c.K c.cm F (upd H p o') b ov := fun {b ov} so hb r =>
      r.mono (Same.refl _) (upd_ne fun z => by subst z; exact a.no i sv e so hb)
    cases sv with
    | un => trivial
    | dat d => exact h
    | exc x => exact h
    | own ov => obtain ⟨b, h1, h2, h3⟩ := h; exact ⟨b, h1, h2, key rfl h1 h3⟩
    | bor ov => obtain ⟨b, h1, h2, h3⟩ := h; exact ⟨b, h1, h2, key rfl h1 h3⟩
  · have ne : b ≠ p := fun z => by subst z; rw [a.h0] at e; cases e
    rw [upd_ne ne]; exact g.frame b u e q
end
end DL
namespace DL
open PySem L2
/-- what is wanted of a value that bears a datum -/
noncomputable abbrev kD (c : Kc) (Q : VK) : D → Env → Hp → Hp → Prop := fun d _ F' _H' => ∀ v, Rp c.K c.cm F' d v → Q v _H'
noncomputable abbrev kA (c : Kc) (Q : List V → Hp → Prop) : List D → Env → Hp → Hp → Prop := fun ds _ F' H' => ∀ vs, RpL c.K c.cm F' ds vs → Q vs H'
noncomputable abbrev kT (Q : Bool → Hp → Prop) : Bool → Env → Hp → Hp → Prop := fun b _ _ H' => Q b H'
/-- a test's, an argument list's reading -/
noncomputable def tT (c : Kc) (W : WX) (r : Env → Out Bool) : TT := fun σ H Q => ∃ H0 F env, c.Good H0 F env σ H ∧ Res c W H0 F env σ (r env) (kT Q)
noncomputable def tA (c : Kc) (W : WX) (r : Env → Out (List D)) : TA := fun σ H Q => ∃ H0 F env, c.Good H0 F env σ H ∧ Res c W H0 F env σ (r env) (kA c Q)
/-- a new list that nobody knows yet -/
noncomputable def NewL (c : Kc) (H0 F : Hp) (env : Env) (σ : L2.St) (H : Hp) (ds : List D) (v : V) : Prop := ∃ p xs, v = .ref p ∧ Apart env σ H0 F H p (.lst xs) ∧ RpL c.K c.cm F ds xs
noncomputable abbrev kF (c : Kc) (H0 : Hp) (σ : L2.St) (Q : VK) : List D → Env → Hp → Hp → Prop := fun ds e F' H' => ∀ v, NewL c H0 F' e σ H' ds v → Q v H'
noncomputable def tF (c : Kc) (W : WX) (r : Env → Out (List D)) : TE := fun σ H Q => ∃ H0 F env, c.Good H0 F env σ H ∧ Res c W H0 F env σ (r env) (kF c H0 σ Q)
section
variable {c : Kc} {W : WX} {X : Cx} {H0 F H : Hp} {env : Env} {σ : L2.St} {Q : VK}
noncomputable def nameD (i : Nat) (e : Env) : Out D := match e[i]? with
  | some (.dat d) => .ok d e
  | some (.own o) => .ok o.toD (e.set i (.dat o.toD))
  | _ => .no
theorem dl_name {i : Nat} {x : Str} {pos : Pos} (h : PE X (.Name x pos) (tVar i)) : PE X (.Name x pos) (tD c W (nameD i)) := (pe_ml h).imp fun σ H Q ⟨H0, F, env, g, r⟩ => by
  unfold nameD at r
  split at r
  · rename_i d e
    obtain ⟨v, h1, h2⟩ := g.slot i _ e
    exact ⟨v, h1, .inl (r.ret g v h2)⟩
  · rename_i o e
    by_cases hk : ∃ ks l, o = .K ks l
    · obtain ⟨ks, l, rfl⟩ := hk
      obtain ⟨a, u, h1, h2, h3, h4⟩ := g.freezeK e
      refine ⟨_, h1, .inr ⟨a, u, rfl, h2, h3, fun od => ?_⟩⟩
      obtain ⟨F', st, rp⟩ := h4 od
      exact r F' _ st _ rp
    · obtain ⟨a, F', h1, st, rp⟩ := g.freeze e (fun ks l z => hk ⟨ks, l, z⟩)
      exact ⟨_, h1, .inl (r F' H st _ rp)⟩
  · exact r.elim
noncomputable def constD (d : D) (e : Env) : Out D := .ok d e
/-- a constant without parts -/
noncomputable def flatD : D → Option V
  | .non => some .non
  | .bl b => some (.bl b)
  | .int i => some (.int i)
  | .str s => some (.str s)
  | _ => none
theorem flatD_rp {K : PySem.W.Frag} {cm : CM} {d : D} {v : V} (h : flatD d = some v) : Rp K cm F d v := by
  cases d <;> simp [flatD] at h <;> subst h <;> simp [Rp]
theorem dl_const {e : Expr} {d : D} {v : V} (h : PE X e (tC v)) (hv : flatD d = some v) : PE X e (tD c W (constD d)) := h.imp fun σ H Q ⟨H0, F, env, g, r⟩ => r.ret g v (flatD_rp hv)
noncomputable def bin2 (f : D → D → Env → Out D) (ra rb : Env → Out D) (e : Env) : Out D := (ra e).bind fun x e1 => (rb e1).bind fun y e2 => f x y e2
noncomputable def un1 (f : D → Env → Out D) (ra : Env → Out D) (e : Env) : Out D := (ra e).bind f
noncomputable def Prim2 (c : Kc) (r : R2) (f : D → D → Env → Out D) : Prop := ∀ W H0 F H env σ x y v u Q, c.Good H0 F env σ H → Rp c.K c.cm F x v → Rp c.K c.cm F y u → Res c W H0 F env σ (f x y env) (kD c Q) → r v u H Q
noncomputable def Prim1 (c : Kc) (r : V → Hp → VK → Prop) (f : D → Env → Out D) : Prop := ∀ W H0 F H env σ x v Q, c.Good H0 F env σ H → Rp c.K c.cm F x v → Res c W H0 F env σ (f x env) (kD c Q) → r v H Q
theorem dl_bin {e : Expr} {r : R2} {f : D → D → Env → Out D} {ra rb : Env → Out D} (h : PE X e (tOp r (tD c W ra) (tD c W rb))) (p : Prim2 c r f) : PE X e (tD c W (bin2 f ra rb)) := h.imp fun σ H Q ⟨H0, F, env, g, q⟩ =>
  ⟨H0, F, env, g, q.seq fun x e1 F1 H1 s1 q1 v hv => ⟨H0, F1, e1, s1.good, q1.seq fun y e2 F2 H2 s2 q2 u hu => p W H0 F2 H2 e2 σ x y v u Q s2.good (Rp.mono s2.same _ _ hv) hu q2⟩⟩
theorem dl_un {e : Expr} {r : V → Hp → VK → Prop} {f : D → Env → Out D} {ra : Env → Out D} (h : PE X e (tUn r (tD c W ra))) (p : Prim1 c r f) : PE X e (tD c W (un1 f ra)) := h.imp fun σ H Q ⟨H0, F, env, g, q⟩ =>
  ⟨H0, F, env, g, q.seq fun x e1 F1 H1 s1 q1 v hv => p W H0 F1 H1 e1 σ x v Q s1.good hv q1⟩
/-- an operation without a trace -/
noncomputable def pur2 (f : D → D → Option D) (x y : D) (e : Env) : Out D := match f x y with
  | some d => .ok d e
  | none => .no
noncomputable def pur1 (f : D → Option D) (x : D) (e : Env) : Out D := match f x with
  | some d => .ok d e
  | none => .no
theorem prim2 {r : R2} {f : D → D → Option D}
    (h : ∀ H0 F H env σ x y v u d Q, c.Good H0 F env σ H → Rp c.K c.cm F x v → Rp c.K c.cm F y u → f x y = some d → (∀ F' H', Step c H0 F env σ F' env H' → ∀ z, Rp c.K c.cm F' d z → Q z H') → r v u H Q) : Prim2 c r (pur2 f) := fun W H0 F H env σ x y v u Q g hx hy q => by
  unfold pur2 at q
  split at q
  · rename_i d e
    exact h H0 F H env σ x y v u d Q g hx hy e fun F' H' st z hz => q F' H' st z hz
  · exact q.elim
theorem prim1 {r : V → Hp → VK → Prop} {f : D → Option D}
    (h : ∀ H0 F H env σ x v d Q, c.Good H0 F env σ H → Rp c.K c.cm F x v → f x = some d → (∀ F' H', Step c H0 F env σ F' env H' → ∀ z, Rp c.K c.cm F' d z → Q z H') → r v H Q) : Prim1 c r (pur1 f) := fun W H0 F H env σ x v Q g hx q => by
  unfold pur1 at q
  split at q
  · rename_i d e
    exact h H0 F H env σ x v d Q g hx e fun F' H' st z hz => q F' H' st z hz
  · exact q.elim
noncomputable def addF : D → D → Option D
  | .int i, .int j => some (.int (i + j))
  | .str a, .str b => if a.length + b.length ≤ sizeLine then some (.str (a ++ b)) else none
  | .lst a, .lst b => if a.length + b.length ≤ sizeLine then some (.lst (a ++ b)) else none
  | .tup a, .tup b => if a.length + b.length ≤ sizeLine then some (.tup (a ++ b)) else none
  | _, _ => none
noncomputable def rAddA (K : PySem.W.Frag) : R2 := fun x y H Q => rI0 (fun i j => .int (i + j)) x y H Q ∨ (fun x y H Q => ∃ i j, x = .str i ∧ y = .str j ∧ i.length + j.length ≤ sizeLine ∧ Q (.str (i ++ j)) H : R2) x y H Q ∨ rCat x y H Q ∨ rCatB K x y H Q
theorem op_addA : OpR X (binaryOp .Add) (rAddA X.K) := OpR.or op_add (OpR.or op_add_str (OpR.or op_cat op_catB))
theorem prim_add : Prim2 c (rAddA c.K) (pur2 addF) := prim2 fun H0 F H env σ x y v u d Q g hx hy e k => by
  unfold addF at e
  split at e
  · cases e
    simp only [Rp] at hx hy
    subst hx; subst hy
    exact .inl ⟨_, _, rfl, rfl, k F H (Step.refl g) _ (by simp [Rp])⟩
  · split at e
    · cases e
      simp only [Rp] at hx hy
      subst hx; subst hy
      exact .inr (.inl ⟨_, _, rfl, rfl, by assumption, k F H (Step.refl g) _ (by simp [Rp])⟩)
    · cases e
  · split at e
    · cases e
      simp only [Rp] at hx hy
      obtain ⟨a, xs, rfl, h1, r1⟩ := hx
      obtain ⟨b, ys, rfl, h2, r2⟩ := hy
      refine .inr (.inr (.inl ⟨a, b, xs, ys, rfl, rfl, g.le _ _ h1, g.le _ _ h2, by rw [r1.len, r2.len]; assumption, fun p hp => ?_⟩))
      have st := g.alloc (o := .lst (xs ++ ys)) hp
      refine k _ _ st _ ?_
      simp only [Rp]
      exact ⟨p, _, rfl, upd_same, RpL.mono st.same _ _ (r1.append r2)⟩
    · cases e
  · split at e
    · cases e
      simp only [Rp] at hx hy
      obtain ⟨a, xs, rfl, h1, r1⟩ := hx
      obtain ⟨b, ys, rfl, h2, r2⟩ := hy
      refine .inr (.inr (.inr ⟨a, b, xs, ys, rfl, rfl, same_T g.le h1.sq, same_T g.le h2.sq, by rw [r1.len, r2.len]; assumption, fun z => ?_, fun z z2 => ?_, fun z z2 p ob hp hdn => ?_⟩))
      · refine k F H (Step.refl g) _ ?_
        simp only [Rp]
        refine ⟨b, ys, rfl, h2, ?_⟩
        have := r1.append r2
        rw [z] at this
        simpa using this
      · refine k F H (Step.refl g) _ ?_
        simp only [Rp]
        refine ⟨a, xs, rfl, h1, ?_⟩
        have := r1.append r2
        rw [z2] at this
        simpa using this
      · have st := g.alloc (o := .frz ob (.tup (xs ++ ys))) hp
        refine k _ _ st _ ?_
        simp only [Rp]
        exact ⟨p, _, rfl, .inl ⟨ob, upd_same, hdn⟩, RpL.mono st.same _ _ (r1.append r2)⟩
    · cases e
  · cases e
/-- two ints, under a condition -/
noncomputable def intF (C : Int → Int → Bool) (g : Int → Int → D) : D → D → Option D
  | .int i, .int j => if C i j = true then some (g i j) else none
  | _, _ => none
theorem prim_int {Cp : Int → Int → Prop} {C : Int → Int → Bool} {gd : Int → Int → D} {gv : Int → Int → V} (hC : ∀ i j, C i j = true → Cp i j) (hg : ∀ i j, flatD (gd i j) = some (gv i j)) : Prim2 c (rI Cp gv) (pur2 (intF C gd)) := prim2 fun H0 F H env σ x y v u d Q g hx hy e k => by
  unfold intF at e
  split at e
  · split at e
    · cases e
      simp only [Rp] at hx hy
      subst hx; subst hy
      exact ⟨_, _, rfl, rfl, hC _ _ (by assumption), k F H (Step.refl g) _ (flatD_rp (hg _ _))⟩
    · cases e
  · cases e
theorem op_i0 {f : Value → Value → Sem Value} {g : Int → Int → V} (h : OpR X f (rI0 g)) : OpR X f (rI (fun _ _ => True) g) := fun pins s σ H x y v u Q I rx ry ⟨i, j, e1, e2, _, q⟩ => h pins s σ H x y v u Q I rx ry ⟨i, j, e1, e2, q⟩
noncomputable def yes2 (_ _ : Int) : Bool := true
noncomputable abbrev subF := intF yes2 fun i j => .int (i - j)
theorem prim_sub : Prim2 c (rI (fun _ _ => True) fun i j => .int (i - j)) (pur2 subF) := prim_int (fun _ _ _ => trivial) fun _ _ => rfl
noncomputable abbrev mulF := intF (fun i j => decide (i.natAbs.log2 + j.natAbs.log2 < 1000000)) fun i j => .int (i * j)
theorem prim_mul : Prim2 c (rI CMulW fun i j => .int (i * j)) (pur2 mulF) := prim_int (fun i j h => by simpa [CMulW, CDivW] using h) fun _ _ => rfl
noncomputable abbrev fdivF := intF (fun _ j => decide (0 < j ∧ j.natAbs.log2 < 9000)) fun i j => .int (i / j)
theorem prim_fdiv : Prim2 c (rI CDivW fun i j => .int (i / j)) (pur2 fdivF) := prim_int (fun i j h => by simpa [CMulW, CDivW] using h) fun _ _ => rfl
noncomputable abbrev modF := intF (fun _ j => decide (0 < j)) fun i j => .int (i % j)
theorem prim_mod : Prim2 c (rI (fun _ j => 0 < j) fun i j => .int (i % j)) (pur2 modF) := prim_int (fun i j h => by simpa [CMulW, CDivW] using h) fun _ _ => rfl
noncomputable abbrev powF := intF (fun i j => decide (0 ≤ j ∧ j ≤ 1000000 ∧ i.natAbs < 18446744073709551616)) fun i j => .int (i ^ j.toNat)
theorem prim_pow : Prim2 c (rI CPow fun i j => .int (i ^ j.toNat)) (pur2 powF) := prim_int (fun _ _ h => by have := of_decide_eq_true h; exact ⟨this.1, this.2.1, by simpa using this.2.2⟩) fun _ _ => rfl
/-- the order of texts -/
noncomputable def ltS (a b : Str) : Bool := decide (a.cps.toList < b.cps.toList)
noncomputable def rCmpA (gi : Int → Int → Bool) (gs : Str → Str → Bool) : R2 := fun x y H Q => rI0 (fun i j => .bl (gi i j)) x y H Q ∨ (fun x y H Q => ∃ i j, x = .str i ∧ y = .str j ∧ Q (.bl (gs i j)) H : R2) x y H Q
noncomputable def cmpF (gi : Int → Int → Bool) (gs : Str → Str → Bool) : D → D → Option D
  | .int i, .int j => some (.bl (gi i j))
  | .str i, .str j => some (.bl (gs i j))
  | _, _ => none
theorem prim_cmp {gi : Int → Int → Bool} {gs : Str → Str → Bool} : Prim2 c (rCmpA gi gs) (pur2 (cmpF gi gs)) := prim2 fun H0 F H env σ x y v u d Q g hx hy e k => by
  unfold cmpF at e
  split at e
  · cases e
    simp only [Rp] at hx hy
    subst hx; subst hy
    exact .inl ⟨_, _, rfl, rfl, k F H (Step.refl g) _ (by simp [Rp])⟩
  · cases e
    simp only [Rp] at hx hy
    subst hx; subst hy
    exact .inr ⟨_, _, rfl, rfl, k F H (Step.refl g) _ (by simp [Rp])⟩
  · cases e
noncomputable abbrev ltF := cmpF (fun i j => decide (i < j)) ltS
noncomputable abbrev leF := cmpF (fun i j => decide (i ≤ j)) fun a b => !ltS b a
noncomputable abbrev gtF := cmpF (fun i j => decide (j < i)) fun a b => ltS b a
noncomputable abbrev geF := cmpF (fun i j => decide (j ≤ i)) fun a b => !ltS a b
theorem op_ltA : OpR X (compareOp .Lt) (rCmpA (fun i j => decide (i < j)) ltS) := OpR.or op_lt op_lt_str
theorem op_leA : OpR X (compareOp .LtE) (rCmpA (fun i j => decide (i ≤ j)) fun a b => !ltS b a) := OpR.or op_le op_le_str
theorem op_gtA : OpR X (compareOp .Gt) (rCmpA (fun i j => decide (j < i)) fun a b => ltS b a) := OpR.or op_gt op_gt_str
theorem op_geA : OpR X (compareOp .GtE) (rCmpA (fun i j => decide (j ≤ i)) fun a b => !ltS a b) := OpR.or op_ge op_ge_str
mutual
noncomputable def D.toP : D → PyData
  | .non => .none
  | .bl b => .bool b
  | .int i => .int i
  | .str s => .str s
  | .tup l => .tuple (toPL l)
  | .tu l => .tuple (toPL l)
  | .lst l => .list (toPL l)
  | .ro l => .list (toPL l)
  | _ => .none
noncomputable def toPL : List D → List PyData
  | [] => []
  | d :: ds => d.toP :: toPL ds
end
mutual
noncomputable def D.pure : D → Bool
  | .tup l => pureL l
  | .tu l => pureL l
  | .lst l => pureL l
  | .ro l => pureL l
  | .dK _ _ => false
  | .dT _ _ => false
  | .obj _ _ _ => false
  | _ => true
noncomputable def pureL : List D → Bool
  | [] => true
  | d :: ds => d.pure && pureL ds
end
mutual
theorem Rp.dp {K : PySem.W.Frag} {cm : CM} {F : Hp} : ∀ (d : D) (v : V), d.pure = true → Rp K cm F d v → Dp K F v d.toP
  | .non, v, _, h => by simp only [Rp] at h; subst h; exact .non
  | .bl b, v, _, h => by simp only [Rp] at h; subst h; exact .bl b
  | .int i, v, _, h => by simp only [Rp] at h; subst h; exact .int i
  | .str s, v, _, h => by simp only [Rp] at h; subst h; exact .str s
  | .tup l, v, p, h => by
    simp only [Rp] at h; simp only [D.pure] at p; simp only [D.toP]
    obtain ⟨a, xs, rfl, q, r⟩ := h
    exact .tup q.sq (RpL.dp l xs p r)
  | .tu l, v, p, h => by
    simp only [Rp] at h; simp only [D.pure] at p; simp only [D.toP]
    obtain ⟨a, xs, rfl, q, r⟩ := h
    exact .tup q (RpL.dp l xs p r)
  | .lst l, v, p, h => by
    simp only [Rp] at h; simp only [D.pure] at p; simp only [D.toP]
    obtain ⟨a, xs, rfl, q, r⟩ := h
    exact .lst (SqL.of q) (RpL.dp l xs p r)
  | .ro l, v, p, h => by
    simp only [Rp] at h; simp only [D.pure] at p; simp only [D.toP]
    obtain ⟨a, xs, rfl, q, r⟩ := h
    exact .lst q (RpL.dp l xs p r)
  | .dK _ _, v, p, h => by simp [D.pure] at p
  | .dT _ _, v, p, h => by simp [D.pure] at p
  | .obj _ _ _, v, p, h => by simp [D.pure] at p
theorem RpL.dp {K : PySem.W.Frag} {cm : CM} {F : Hp} : ∀ (ds : List D) (vs : List V), pureL ds = true → RpL K cm F ds vs → DpAll K F vs (toPL ds)
  | [], vs, _, h => by simp only [RpL] at h; subst h; exact .nil
  | d :: ds, vs, p, h => by
    simp only [RpL] at h; simp only [pureL, Bool.and_eq_true] at p; simp only [toPL]
    obtain ⟨v, r, rfl, q, t⟩ := h
    exact .cons (Rp.dp d v p.1 q) (RpL.dp ds r p.2 t)
end
noncomputable def okP (d : D) : Bool := d.pure && SeqAt.shaped d.toP
noncomputable def eqO (n : Bool) (x y : D) : Option D := if (okP x && okP y) = true then some (.bl (if n then !PyData.eqv x.toP y.toP else PyData.eqv x.toP y.toP)) else none
noncomputable def twoS (x y : D) : Option (Str × Str) := match x, y with
  | .str a, .str b => some (a, b)
  | _, _ => none
/-- ==, != of data; of texts whatever their signs -/
noncomputable def eqF (n : Bool) (x y : D) : Option D := match twoS x y with
  | some (a, b) => some (.bl (if n then !decide (a = b) else decide (a = b)))
  | none => eqO n x y
noncomputable def rEqA (K : PySem.W.Frag) (n : Bool) : R2 := fun x y H Q => (if n then rNeD K else rEqD K) x y H Q ∨ (if n then rNe else rEq) x y H Q
theorem op_eqA (hu : X.A.units + 64 < cLine) : OpR X (compareOp .Eq) (rEqA X.K false) := fun pins s σ H x y v u Q I rx ry q => q.elim (op_eqD hu pins s σ H x y v u Q I rx ry) (op_eq pins s σ H x y v u Q I rx ry)
theorem op_neA (hu : X.A.units + 64 < cLine) : OpR X (compareOp .NotEq) (rEqA X.K true) := fun pins s σ H x y v u Q I rx ry q => q.elim (op_neD hu pins s σ H x y v u Q I rx ry) (op_ne pins s σ H x y v u Q I rx ry)
theorem twoS_eq {x y : D} {a b : Str} (h : twoS x y = some (a, b)) : x = .str a ∧ y = .str b := by
  unfold twoS at h
  split at h
  · cases h; exact ⟨rfl, rfl⟩
  · cases h
theorem prim_eqB {n : Bool} : Prim2 c (rEqA c.K n) (pur2 (eqF n)) := prim2 fun H0 F H env σ x y v u d Q g hx hy e k => by
  unfold eqF at e
  split at e
  · rename_i a b ht
    obtain ⟨rfl, rfl⟩ := twoS_eq ht
    cases e
    simp only [Rp] at hx hy
    subst hx; subst hy
    have q := k F H (Step.refl g) (.bl (if n then !decide (a = b) else decide (a = b))) (by simp [Rp])
    have e2 : decide (V.str a = V.str b) = decide (a = b) := by simp
    right
    cases n with
    | true => exact ⟨rfl, by rw [e2]; exact q⟩
    | false => exact ⟨rfl, by rw [e2]; exact q⟩
  · unfold eqO at e
    split at e
    · rename_i p
      simp only [Bool.and_eq_true, okP] at p
      cases e
      left
      have q : ∀ b, b = (if n then !PyData.eqv x.toP y.toP else PyData.eqv x.toP y.toP) → Q (.bl b) H := fun b hb => k F H (Step.refl g) _ (by simp [Rp, hb])
      cases n with
      | true => exact ⟨_, _, Rp.dp _ _ p.1.1 (Rp.mono g.le _ _ hx), Rp.dp _ _ p.2.1 (Rp.mono g.le _ _ hy), p.1.2, p.2.2, q _ rfl⟩
      | false => exact ⟨_, _, Rp.dp _ _ p.1.1 (Rp.mono g.le _ _ hx), Rp.dp _ _ p.2.1 (Rp.mono g.le _ _ hy), p.1.2, p.2.2, q _ rfl⟩
    · cases e
end
end DL
namespace DL
open PySem L2
noncomputable def asV : List D → Option (List V)
  | [] => some []
  | d :: ds => match flatD d, asV ds with
    | some v, some vs => some (v :: vs)
    | _, _ => none
noncomputable def asS : List D → Option (List Str)
  | [] => some []
  | .str s :: ds => (asS ds).map (s :: ·)
  | _ :: _ => none
noncomputable def asI : List D → Option (List Int)
  | [] => some []
  | .int s :: ds => (asI ds).map (s :: ·)
  | _ :: _ => none
noncomputable def asB : List D → Option (List Bool)
  | [] => some []
  | .bl s :: ds => (asB ds).map (s :: ·)
  | _ :: _ => none
noncomputable def seqOf : D → Option (List D)
  | .tup l => some l
  | .tu l => some l
  | .lst l => some l
  | .ro l => some l
  | _ => none
section
variable {K : PySem.W.Frag} {cm : CM} {F : Hp}
theorem flatD_eq {d : D} {v u : V} (h : flatD d = some v) (r : Rp K cm F d u) : u = v := by
  cases d <;> simp [flatD] at h <;> subst h <;> simpa [Rp] using r
theorem asV_eq : ∀ {ds : List D} {vs us : List V}, asV ds = some vs → RpL K cm F ds us → us = vs
  | [], vs, us, h, r => by simp [asV] at h; simp only [RpL] at r; subst h; exact r
  | d :: ds, vs, us, h, r => by
    simp only [RpL] at r
    obtain ⟨v, w, rfl, r1, r2⟩ := r
    unfold asV at h
    split at h
    · rename_i a b e1 e2
      cases h
      rw [flatD_eq e1 r1, asV_eq e2 r2]
    · cases h
theorem asS_eq : ∀ {ds : List D} {ys : List Str} {us : List V}, asS ds = some ys → RpL K cm F ds us → us = ys.map V.str
  | [], ys, us, h, r => by simp [asS] at h; simp only [RpL] at r; subst h; exact r
  | d :: ds, ys, us, h, r => by
    simp only [RpL] at r
    obtain ⟨v, w, rfl, r1, r2⟩ := r
    unfold asS at h
    split at h
    · rename_i e; cases e
    · rename_i e
      cases e
      obtain ⟨z, e2, rfl⟩ := Option.map_eq_some_iff.mp h
      simp only [Rp] at r1
      rw [r1, asS_eq e2 r2]
      rfl
    · cases h
theorem asI_eq : ∀ {ds : List D} {ys : List Int} {us : List V}, asI ds = some ys → RpL K cm F ds us → us = ys.map V.int
  | [], ys, us, h, r => by simp [asI] at h; simp only [RpL] at r; subst h; exact r
  | d :: ds, ys, us, h, r => by
    simp only [RpL] at r
    obtain ⟨v, w, rfl, r1, r2⟩ := r
    unfold asI at h
    split at h
    · rename_i e; cases e
    · rename_i e
      cases e
      obtain ⟨z, e2, rfl⟩ := Option.map_eq_some_iff.mp h
      simp only [Rp] at r1
      rw [r1, asI_eq e2 r2]
      rfl
    · cases h
theorem asB_eq : ∀ {ds : List D} {ys : List Bool} {us : List V}, asB ds = some ys → RpL K cm F ds us → us = ys.map V.bl
  | [], ys, us, h, r => by simp [asB] at h; simp only [RpL] at r; subst h; exact r
  | d :: ds, ys, us, h, r => by
    simp only [RpL] at r
    obtain ⟨v, w, rfl, r1, r2⟩ := r
    unfold asB at h
    split at h
    · rename_i e; cases e
    · rename_i e
      cases e
      obtain ⟨z, e2, rfl⟩ := Option.map_eq_some_iff.mp h
      simp only [Rp] at r1
      rw [r1, asB_eq e2 r2]
      rfl
    · cases h
theorem seqOf_rp {d : D} {l : List D} {v : V} (h : seqOf d = some l) (r : Rp K cm F d v) : ∃ a xs, v = .ref a ∧ (SqL K F a xs ∨ SqT K F a xs) ∧ RpL K cm F l xs := by
  cases d <;> simp [seqOf] at h <;> subst h <;> simp only [Rp] at r <;> obtain ⟨a, xs, rfl, q, r⟩ := r
  · exact ⟨a, xs, rfl, .inr q.sq, r⟩
  · exact ⟨a, xs, rfl, .inr q, r⟩
  · exact ⟨a, xs, rfl, .inl (SqL.of q), r⟩
  · exact ⟨a, xs, rfl, .inl q, r⟩
theorem sq_mono {F F' : Hp} (s : Same F F') {a : Addr} {xs : List V} (h : SqL K F a xs ∨ SqT K F a xs) : SqL K F' a xs ∨ SqT K F' a xs := h.elim (fun h => .inl (s.seq h)) fun h => .inr (same_T s h)
theorem atI_rp {ds : List D} {vs : List V} {i : Int} {d : D} (r : RpL K cm F ds vs) (h : atI ds i = some d) : ∃ v, atI vs i = some v ∧ Rp K cm F d v := by
  unfold atI at h ⊢
  rw [r.len]
  cases e : ixN ds.length i with
  | none => rw [e] at h; cases h
  | some j =>
    rw [e] at h
    exact r.get h
end
section
variable {c : Kc} {W : WX} {X : Cx} {H0 F H : Hp} {env : Env} {σ : L2.St} {Q : VK}
noncomputable def rInT (K : PySem.W.Frag) (n : Bool) : R2 := fun x y H Q => ∃ d ds, Dp K H x d ∧ Dp K H y (.tuple ds) ∧ SeqAt.shaped d = true ∧ SeqAt.shaped (.tuple ds) = true ∧ Q (.bl (if n then !ds.any (fun z => PyData.eqv z d) else ds.any fun z => PyData.eqv z d)) H
theorem op_inT (hu : X.A.units + 65 < cLine) : OpR X (compareOp .In) (rInT X.K false) := by
  intro pins s σ H x y v u Q I rx ry ⟨d, ds, hd, he, sd, se, q⟩
  obtain ⟨as, r1⟩ := Dp.reads I d x v hd rx
  obtain ⟨bs, r2⟩ := Dp.reads I (.tuple ds) y u he ry
  exact SeqAt.in_tuple_reads r2 r1 (SeqAt.canLay_of_shaped se) (SeqAt.canLay_of_shaped sd) (PyProof.Rows.room_in_shaped sd hu) ⟨.bl _, H, I, rfl, q⟩
theorem op_ninT (hu : X.A.units + 65 < cLine) : OpR X (compareOp .NotIn) (rInT X.K true) := by
  intro pins s σ H x y v u Q I rx ry ⟨d, ds, hd, he, sd, se, q⟩
  obtain ⟨as, r1⟩ := Dp.reads I d x v hd rx
  obtain ⟨bs, r2⟩ := Dp.reads I (.tuple ds) y u he ry
  exact SeqAt.notIn_tuple_reads r2 r1 (SeqAt.canLay_of_shaped se) (SeqAt.canLay_of_shaped sd) (PyProof.Rows.room_in_shaped sd hu) ⟨.bl _, H, I, rfl, q⟩
noncomputable def rInS (n : Bool) : R2 := fun x y H Q => ∃ (k : Nat) (z : Str), x = .str ⟨#[k]⟩ ∧ y = .str z ∧ Q (.bl (if n then !decide (k ∈ z.cps.toList) else decide (k ∈ z.cps.toList))) H
noncomputable def rInL (K : PySem.W.Frag) (n : Bool) : R2 := fun x y H Q => ∃ d ds, Dp K H x d ∧ Dp K H y (.list ds) ∧ SeqAt.shaped d = true ∧ SeqAt.shaped (.list ds) = true ∧ Q (.bl (if n then !ds.any (fun z => PyData.eqv z d) else ds.any fun z => PyData.eqv z d)) H
noncomputable def rInAll (K : PySem.W.Frag) (n : Bool) : R2 := fun x y H Q => rIn K n x y H Q ∨ rInS n x y H Q ∨ rInL K n x y H Q ∨ rInT K n x y H Q
theorem op_inAll (hu : X.A.units + 65 < cLine) : OpR X (compareOp .In) (rInAll X.K false) := OpR.or op_in_seq (OpR.or op_in_sign (OpR.or (op_inD hu) (op_inT hu)))
theorem op_ninAll (hu : X.A.units + 65 < cLine) : OpR X (compareOp .NotIn) (rInAll X.K true) := OpR.or op_notIn_seq (OpR.or op_notIn_sign (OpR.or (op_notInD hu) (op_ninT hu)))
noncomputable def signOf (s : Str) : Option Nat := match s.cps.toList with
  | [k] => some k
  | _ => none
theorem signOf_eq {s : Str} {k : Nat} (h : signOf s = some k) : s = ⟨#[k]⟩ := by
  obtain ⟨a⟩ := s
  unfold signOf at h
  split at h
  · rename_i k' e
    cases h
    have : a = #[k] := by
      obtain ⟨l⟩ := a
      simp at e
      rw [e]
    rw [this]
  · cases h
noncomputable def inF (n : Bool) (x y : D) : Option D := match y with
  | .str z => match x with
    | .str s => (signOf s).map fun k => .bl (if n then !decide (k ∈ z.cps.toList) else decide (k ∈ z.cps.toList))
    | _ => none
  | y => match seqOf y with
    | none => none
    | some l => match flatD x, asV l with
      | some v, some vs => if (flatV v && vs.all flatV) = true then some (.bl (if n then !inV v vs else inV v vs)) else none
      | _, _ => if (okP x && okP y) = true then some (.bl (if n then !(toPL l).any (fun z => PyData.eqv z x.toP) else (toPL l).any fun z => PyData.eqv z x.toP)) else none
theorem prim_in {n : Bool} : Prim2 c (rInAll c.K n) (pur2 (inF n)) := prim2 fun H0 F H env σ x y v u d Q g hx hy e k => by
  unfold inF at e
  split at e
  · split at e
    · obtain ⟨z, e1, rfl⟩ := Option.map_eq_some_iff.mp e
      simp only [Rp] at hx hy
      subst hy
      rw [signOf_eq e1] at hx
      subst hx
      exact .inr (.inl ⟨_, _, rfl, rfl, k F H (Step.refl g) _ (by simp [Rp])⟩)
    · cases e
  · rename_i y' hny
    split at e
    · cases e
    · rename_i l hl
      split at e
      · rename_i v' vs' e1 e2
        split at e
        · rename_i hf
          simp only [Bool.and_eq_true] at hf
          cases e
          obtain ⟨a, xs, rfl, q, r⟩ := seqOf_rp hl hy
          obtain rfl := flatD_eq e1 hx
          obtain rfl := asV_eq e2 r
          exact .inl ⟨a, _, rfl, sq_mono g.le q, hf.1, hf.2, k F H (Step.refl g) _ (by simp [Rp])⟩
        · cases e
      · split at e
        · rename_i p
          simp only [Bool.and_eq_true, okP] at p
          cases e
          have k' := k F H (Step.refl g) (.bl _) (by simp only [Rp]; rfl)
          have d1 := Rp.dp _ _ p.1.1 (Rp.mono g.le _ _ hx)
          have d2 := Rp.dp _ _ p.2.1 (Rp.mono g.le _ _ hy)
          cases y <;> simp [seqOf] at hl <;> subst hl <;> simp only [D.toP] at d2 p
          · exact .inr (.inr (.inr ⟨_, _, d1, d2, p.1.2, p.2.2, k'⟩))
          · exact .inr (.inr (.inr ⟨_, _, d1, d2, p.1.2, p.2.2, k'⟩))
          · exact .inr (.inr (.inl ⟨_, _, d1, d2, p.1.2, p.2.2, k'⟩))
          · exact .inr (.inr (.inl ⟨_, _, d1, d2, p.1.2, p.2.2, k'⟩))
        · cases e
noncomputable def ixF : D → D → Option D
  | .str z, .int i => if z.length ≤ sizeLine then (atI z.cps.toList i).map fun k => .str ⟨#[k]⟩ else none
  | x, .int i => (seqOf x).bind fun l => atI l i
  | _, _ => none
theorem prim_ix : Prim2 c (rIx c.K) (pur2 ixF) := prim2 fun H0 F H env σ x y v u d Q g hx hy e k => by
  unfold ixF at e
  split at e
  · split at e
    · obtain ⟨z, e1, rfl⟩ := Option.map_eq_some_iff.mp e
      simp only [Rp] at hx hy
      subst hx; subst hy
      exact .inr (.inr ⟨_, _, _, rfl, rfl, by assumption, e1, k F H (Step.refl g) _ (by simp [Rp])⟩)
    · cases e
  · obtain ⟨l, e1, e2⟩ := Option.bind_eq_some_iff.mp e
    simp only [Rp] at hy
    subst hy
    obtain ⟨a, xs, rfl, q, r⟩ := seqOf_rp e1 hx
    obtain ⟨w, h1, h2⟩ := atI_rp r e2
    rcases q with q | q
    · exact .inl ⟨a, xs, _, w, rfl, rfl, g.le.seq q, h1, k F H (Step.refl g) _ h2⟩
    · exact .inr (.inl ⟨a, xs, _, w, rfl, rfl, same_T g.le q, h1, k F H (Step.refl g) _ h2⟩)
  · cases e
/-- an own object's list -/
noncomputable def lstOf : Option SV → Option (List D)
  | some (.own (.L l)) => some l
  | some (.bor (.L l)) => some l
  | _ => none
theorem own_list (g : c.Good H0 F env σ H) {i : Nat} {l : List D} (e : lstOf env[i]? = some l) : ∃ a xs, σ[i]? = some (some (.ref a)) ∧ H a = some (.lst xs) ∧ RpL c.K c.cm F l xs := by
  cases h : env[i]? with
  | none => rw [h] at e; cases e
  | some sv =>
    rw [h] at e
    have := g.slot i sv h
    unfold lstOf at e
    split at e
    · rename_i h'; cases h'; cases e; obtain ⟨a, h1, h2, xs, h3, h4⟩ := this; exact ⟨a, xs, h1, h3, h4⟩
    · rename_i h'; cases h'; cases e; obtain ⟨a, h1, h2, xs, h3, h4⟩ := this; exact ⟨a, xs, h1, h3, h4⟩
    · cases e
/-- a use of an own list by its name: what is reckoned first may change its content, it is looked at behind it -/
noncomputable def ownUse {α β : Type} (i : Nat) (rb : Env → Out α) (f : List D → α → Env → Out β) (e : Env) : Out β := match lstOf e[i]? with
  | none => .no
  | some _ => (rb e).bind fun k e1 => match lstOf e1[i]? with
    | none => .no
    | some l => f l k e1
noncomputable def ownIx (i : Nat) (rb : Env → Out D) : Env → Out D := ownUse i rb fun l k e => match k with
  | .int n => (match atI l n with | some d => .ok d e | none => .no)
  | _ => .no
theorem dl_ownIx {e : Expr} {i : Nat} {rb : Env → Out D} (h : PE X e (tOp (rIx c.K) (tVar i) (tD c W rb))) : PE X e (tD c W (ownIx i rb)) := h.imp fun σ H Q ⟨H0, F, env, g, q⟩ => by
  unfold ownIx ownUse at q
  split at q
  · exact q.elim
  · rename_i l0 e0
    obtain ⟨a, xs0, ha, _, _⟩ := own_list g e0
    refine ⟨_, ha, H0, F, env, g, q.seq fun k e1 F1 H1 s1 q1 u hu => ?_⟩
    split at q1
    · exact q1.elim
    · rename_i l el
      obtain ⟨a', xs, ha', hH, r⟩ := own_list s1.good el
      rw [ha] at ha'; cases ha'
      dsimp only at q1
      split at q1
      · rename_i n
        split at q1
        · rename_i d ed
          simp only [Rp] at hu
          subst hu
          obtain ⟨w, h1, h2⟩ := atI_rp r ed
          exact .inl ⟨a, xs, n, w, rfl, rfl, SqL.of hH, h1, q1.ret s1.good w h2⟩
        · exact q1.elim
      · exact q1.elim
noncomputable def nilA (e : Env) : Out (List D) := .ok [] e
noncomputable def consA (ra : Env → Out D) (rr : Env → Out (List D)) (e : Env) : Out (List D) := (ra e).bind fun x e1 => (rr e1).bind fun xs e2 => .ok (x :: xs) e2
theorem tA_nil : PA X [] (tA c W nilA) := pa_nil.imp fun σ H Q ⟨H0, F, env, g, q⟩ => q.ret g [] RpL.nil
theorem tA_cons {e : Expr} {es : List Expr} {ra : Env → Out D} {rr : Env → Out (List D)} (h : PA X (e :: es) (tCons (tD c W ra) (tA c W rr))) : PA X (e :: es) (tA c W (consA ra rr)) := h.imp fun σ H Q ⟨H0, F, env, g, q⟩ =>
  ⟨H0, F, env, g, q.seq fun x e1 F1 H1 s1 q1 v hv => ⟨H0, F1, e1, s1.good, q1.seq fun xs e2 F2 H2 s2 q2 vs hvs => q2.ret s2.good (v :: vs) (RpL.cons (Rp.mono s2.same _ _ hv) hvs)⟩⟩
noncomputable def tupD (ra : Env → Out (List D)) (e : Env) : Out D := (ra e).bind fun ds e1 => if ds.length ≤ sizeLine then .ok (.tup ds) e1 else .no
theorem dl_tup {e : Expr} {ra : Env → Out (List D)} (h : PE X e (tTupB (tA c W ra))) : PE X e (tD c W (tupD ra)) := h.imp fun σ H Q ⟨H0, F, env, g, q⟩ =>
  ⟨H0, F, env, g, q.seq fun ds e1 F1 H1 s1 q1 vs hv => by
    split at q1
    · refine ⟨by rw [hv.len]; assumption, fun p ob hp hd => ?_⟩
      have st := s1.good.alloc (o := .frz ob (.tup vs)) hp
      refine q1 _ _ st _ ?_
      simp only [Rp]
      exact ⟨p, vs, rfl, .inl ⟨ob, upd_same, hd⟩, RpL.mono st.same _ _ hv⟩
    · exact q1.elim⟩
noncomputable def lstF (ra : Env → Out (List D)) (e : Env) : Out (List D) := (ra e).bind fun ds e1 => if ds.length ≤ sizeLine then .ok ds e1 else .no
theorem dl_lstF {e : Expr} {ra : Env → Out (List D)} (h : PE X e (tLst (tA c W ra))) : PE X e (tF c W (lstF ra)) := h.imp fun σ H Q ⟨H0, F, env, g, q⟩ =>
  ⟨H0, F, env, g, q.seq fun ds e1 F1 H1 s1 q1 vs hv => by
    split at q1
    · refine ⟨by rw [hv.len]; assumption, fun p hp => ?_⟩
      obtain ⟨g2, ap⟩ := s1.good.lay (o := .lst vs) hp
      exact q1 F1 _ ⟨Same.refl _, EnvLe.refl _, g2, fun _ _ _ e => e⟩ _ ⟨p, vs, rfl, ap, hv⟩
    · exact q1.elim⟩
/-- a new list taken as data -/
noncomputable def heldD (rf : Env → Out (List D)) (e : Env) : Out D := (rf e).bind fun ds e1 => .ok (.lst ds) e1
theorem dl_held {e : Expr} {rf : Env → Out (List D)} (h : PE X e (tF c W rf)) : PE X e (tD c W (heldD rf)) := h.imp fun σ H Q ⟨H0, F, env, g, q⟩ =>
  ⟨H0, F, env, g, q.seq fun ds e1 F1 H1 s1 q1 v ⟨p, xs, hv, ap, rp⟩ => by
    subst hv
    have st := s1.good.hold ap
    refine q1 _ _ st _ ?_
    simp only [Rp]
    exact ⟨p, xs, rfl, upd_same, RpL.mono st.same _ _ rp⟩⟩
noncomputable def tO (c : Kc) (W : WX) (r : Env → Out (Option Int)) : TO := fun σ H Q => ∃ H0 F env, c.Good H0 F env σ H ∧ Res c W H0 F env σ (r env) fun o _ _ H' => Q o H'
theorem _root_.L2.PO.imp {X : Cx} {e : Option Expr} {t t' : TO} (h : PO X e t) (i : ∀ σ H Q, t' σ H Q → t σ H Q) : PO X e t' := ⟨fun pins s σ H Q I q => h.run pins s σ H Q I (i σ H Q q)⟩
noncomputable def noO (e : Env) : Out (Option Int) := .ok none e
noncomputable def someO (ra : Env → Out D) (e : Env) : Out (Option Int) := (ra e).bind fun d e1 => match d with
  | .int i => .ok (some i) e1
  | _ => .no
theorem tO_none : PO X none (tO c W noO) := po_none.imp fun σ H Q ⟨H0, F, env, g, q⟩ => q.ret g
theorem tO_some {e : Option Expr} {ra : Env → Out D} (h : PO X e (tPart (tD c W ra))) : PO X e (tO c W (someO ra)) := h.imp fun σ H Q ⟨H0, F, env, g, q⟩ =>
  ⟨H0, F, env, g, q.seq fun d e1 F1 H1 s1 q1 v hv => by
    split at q1
    · simp only [Rp] at hv
      exact ⟨_, hv, q1.ret s1.good⟩
    · exact q1.elim⟩
noncomputable def cutL {α : Type} (l : List α) (lo hi : Option Int) : List α := (l.drop (HT.sIx l.length 0 lo)).take (HT.sIx l.length l.length hi - HT.sIx l.length 0 lo)
theorem cutL_rp {ds : List D} {vs : List V} (r : RpL c.K c.cm F ds vs) (lo hi : Option Int) : RpL c.K c.cm F (cutL ds lo hi) (cutV vs lo hi) := by
  unfold cutL cutV
  rw [r.len]
  exact (r.drop _).take _
noncomputable def sl3 (ra : Env → Out D) (rl rh : Env → Out (Option Int)) {β : Type} (f : D → Option Int → Option Int → Env → Out β) (e : Env) : Out β :=
  (ra e).bind fun x e1 => (rl e1).bind fun lo e2 => (rh e2).bind fun hi e3 => f x lo hi e3
/-- a slice of a text, a tuple -/
noncomputable def cutF (x : D) (lo hi : Option Int) (e : Env) : Out D := match x with
  | .str z => if z.length ≤ sizeLine then .ok (.str (cutS z lo hi)) e else .no
  | .tup l => .ok (.tup (cutL l lo hi)) e
  | _ => .no
noncomputable def rSlTS (K : PySem.W.Frag) : V → Option Int → Option Int → Hp → VK → Prop := fun x lo hi H Q => rSlS x lo hi H Q ∨ rSlB K x lo hi H Q
theorem sl_ts : SlR X (rSlTS X.K) := SlR.or sl_str sl_tupB
theorem dl_cut {e : Expr} {ra : Env → Out D} {rl rh : Env → Out (Option Int)} (h : PE X e (tSl (rSlTS c.K) (tD c W ra) (tO c W rl) (tO c W rh))) : PE X e (tD c W (sl3 ra rl rh cutF)) := h.imp fun σ H Q ⟨H0, F, env, g, q⟩ =>
  ⟨H0, F, env, g, q.seq fun x e1 F1 H1 s1 q1 v hv => ⟨H0, F1, e1, s1.good, q1.seq fun lo e2 F2 H2 s2 q2 => ⟨H0, F2, e2, s2.good, q2.seq fun hi e3 F3 H3 s3 q3 => by
    have hv := Rp.mono (s2.same.trans s3.same) _ _ hv
    unfold cutF at q3
    split at q3
    · split at q3
      · simp only [Rp] at hv
        subst hv
        exact .inl ⟨_, rfl, by assumption, q3.ret s3.good _ (by simp [Rp])⟩
      · exact q3.elim
    · simp only [Rp] at hv
      obtain ⟨a, xs, rfl, h1, r⟩ := hv
      refine .inr ⟨a, xs, rfl, same_T s3.good.le h1.sq, fun ⟨z1, z2⟩ => ?_, fun _ p ob hp hd => ?_⟩
      · refine q3.ret s3.good _ ?_
        simp only [Rp]
        refine ⟨a, xs, rfl, h1, ?_⟩
        have := cutL_rp r lo hi
        have e : cutV xs lo hi = xs := by unfold cutV; rw [z1, z2]; simp
        rwa [e] at this
      · have st := s3.good.alloc (o := .frz ob (.tup (cutV xs lo hi))) hp
        refine q3 _ _ st _ ?_
        simp only [Rp]
        exact ⟨p, _, rfl, .inl ⟨ob, upd_same, hd⟩, RpL.mono st.same _ _ (cutL_rp r lo hi)⟩
    · exact q3.elim⟩⟩⟩
/-- a slice of a list: a new list -/
noncomputable def cutLF (x : D) (lo hi : Option Int) (e : Env) : Out (List D) := match x with
  | .lst l => .ok (cutL l lo hi) e
  | .ro l => .ok (cutL l lo hi) e
  | _ => .no
theorem dl_cutL {e : Expr} {ra : Env → Out D} {rl rh : Env → Out (Option Int)} (h : PE X e (tSl (rSlL c.K) (tD c W ra) (tO c W rl) (tO c W rh))) : PE X e (tF c W (sl3 ra rl rh cutLF)) := h.imp fun σ H Q ⟨H0, F, env, g, q⟩ =>
  ⟨H0, F, env, g, q.seq fun x e1 F1 H1 s1 q1 v hv => ⟨H0, F1, e1, s1.good, q1.seq fun lo e2 F2 H2 s2 q2 => ⟨H0, F2, e2, s2.good, q2.seq fun hi e3 F3 H3 s3 q3 => by
    have hv := Rp.mono (s2.same.trans s3.same) _ _ hv
    have fin : ∀ {a : Addr} {xs : List V} {l : List D}, SqL c.K F3 a xs → RpL c.K c.cm F3 l xs → Res c W H0 F3 e3 σ (.ok (cutL l lo hi) e3) (kF c H0 σ Q) → rSlL c.K (.ref a) lo hi H3 Q := fun {a xs l} h1 r q3 => ⟨a, xs, rfl, s3.good.le.seq h1, fun p hp => by
      obtain ⟨g2, ap⟩ := s3.good.lay (o := .lst (cutV xs lo hi)) hp
      exact q3 F3 _ ⟨Same.refl _, EnvLe.refl _, g2, fun _ _ _ e => e⟩ _ ⟨p, _, rfl, ap, cutL_rp r lo hi⟩⟩
    unfold cutLF at q3
    split at q3
    · simp only [Rp] at hv
      obtain ⟨a, xs, rfl, h1, r⟩ := hv
      exact fin (SqL.of h1) r q3
    · simp only [Rp] at hv
      obtain ⟨a, xs, rfl, h1, r⟩ := hv
      exact fin h1 r q3
    · exact q3.elim⟩⟩⟩
noncomputable def PrimC (c : Kc) (r : List V → Hp → VK → Prop) (f : List D → Option D) : Prop :=
  ∀ H0 F H env σ ds vs d Q, c.Good H0 F env σ H → RpL c.K c.cm F ds vs → f ds = some d → (∀ F' H', Step c H0 F env σ F' env H' → ∀ z, Rp c.K c.cm F' d z → Q z H') → r vs H Q
noncomputable def callD (f : List D → Option D) (ra : Env → Out (List D)) (e : Env) : Out D := (ra e).bind fun ds e1 => match f ds with
  | some d => .ok d e1
  | none => .no
theorem dl_call {e : Expr} {r : List V → Hp → VK → Prop} {f : List D → Option D} {ra : Env → Out (List D)} (h : PE X e (tCB r (tA c W ra))) (p : PrimC c r f) : PE X e (tD c W (callD f ra)) := h.imp fun σ H Q ⟨H0, F, env, g, q⟩ =>
  ⟨H0, F, env, g, q.seq fun ds e1 F1 H1 s1 q1 vs hv => by
    split at q1
    · rename_i d ed
      exact p H0 F1 H1 e1 σ ds vs d Q s1.good hv ed fun F' H' st z hz => q1 F' H' st z hz
    · exact q1.elim⟩
noncomputable def one (f : D → Option D) : List D → Option D
  | [d] => f d
  | _ => none
theorem primC1 {r : List V → Hp → VK → Prop} {f : D → Option D}
    (h : ∀ H0 F H env σ x v d Q, c.Good H0 F env σ H → Rp c.K c.cm F x v → f x = some d → (∀ F' H', Step c H0 F env σ F' env H' → ∀ z, Rp c.K c.cm F' d z → Q z H') → r [v] H Q) : PrimC c r (one f) := fun H0 F H env σ ds vs d Q g hv e k => by
  unfold one at e
  split at e
  · simp only [RpL] at hv
    obtain ⟨v, w, rfl, r1, rfl⟩ := hv
    exact h H0 F H env σ _ v d Q g r1 e k
  · cases e
noncomputable def rLenA (K : PySem.W.Frag) : List V → Hp → VK → Prop := fun xs H Q => (∃ p ys, xs = [.ref p] ∧ (SqL K H p ys ∨ SqT K H p ys) ∧ Q (.int ys.length) H) ∨ ∃ z, xs = [.str z] ∧ z.length ≤ sizeLine ∧ Q (.int z.length) H
theorem CallR.or {f : Value} {r r' : List V → Hp → VK → Prop} (h : CallR X f r) (h' : CallR X f r') : CallR X f (fun xs H Q => r xs H Q ∨ r' xs H Q) := fun pins s σ H xs us Q I rv q => q.elim (h pins s σ H xs us Q I rv) (h' pins s σ H xs us Q I rv)
theorem cr_len : CallR X (.builtin "len") (rLenA X.K) := CallR.or call_len_seq call_len_str
noncomputable def lenF : D → Option D
  | .str z => if z.length ≤ sizeLine then some (.int z.length) else none
  | x => (seqOf x).map fun l => .int l.length
theorem prim_len : PrimC c (rLenA c.K) (one lenF) := primC1 fun H0 F H env σ x v d Q g hx e k => by
  unfold lenF at e
  split at e
  · split at e
    · cases e
      simp only [Rp] at hx
      subst hx
      exact .inr ⟨_, rfl, by assumption, k F H (Step.refl g) _ (by simp [Rp])⟩
    · cases e
  · obtain ⟨l, e1, rfl⟩ := Option.map_eq_some_iff.mp e
    obtain ⟨a, xs, rfl, q, r⟩ := seqOf_rp e1 hx
    exact .inl ⟨a, xs, rfl, sq_mono g.le q, k F H (Step.refl g) _ (by simp [Rp, r.len])⟩
noncomputable def tupleF (x : D) : Option D := match x with
  | .tu l => some (.tu l)
  | x => (seqOf x).map .tup
theorem prim_tuple : PrimC c (fun xs H Q => ∃ p ys, xs = [.ref p] ∧ ((SqL c.K H p ys ∧ NewT H ys Q) ∨ (SqT c.K H p ys ∧ Q (.ref p) H))) (one tupleF) := primC1 fun H0 F H env σ x v d Q g hx e k => by
  have fin : ∀ {a : Addr} {xs : List V} {l : List D}, SqL c.K F a xs → RpL c.K c.cm F l xs → (D.tup l = d) → NewT H xs Q := fun {a xs l} q r e p ob hp hd => by
    have st := g.alloc (o := .frz ob (.tup xs)) hp
    refine k _ _ st _ ?_
    subst e
    simp only [Rp]
    exact ⟨p, xs, rfl, .inl ⟨ob, upd_same, hd⟩, RpL.mono st.same _ _ r⟩
  have hx' := hx
  cases x with
  | tup l =>
    cases e
    simp only [Rp] at hx
    obtain ⟨a, xs, rfl, q, r⟩ := hx
    exact ⟨a, xs, rfl, .inr ⟨same_T g.le q.sq, k F H (Step.refl g) _ hx'⟩⟩
  | tu l =>
    cases e
    simp only [Rp] at hx
    obtain ⟨a, xs, rfl, q, r⟩ := hx
    exact ⟨a, xs, rfl, .inr ⟨same_T g.le q, k F H (Step.refl g) _ hx'⟩⟩
  | lst l =>
    cases e
    simp only [Rp] at hx
    obtain ⟨a, xs, rfl, q, r⟩ := hx
    exact ⟨a, xs, rfl, .inl ⟨g.le.seq (SqL.of q), fin (SqL.of q) r rfl⟩⟩
  | ro l =>
    cases e
    simp only [Rp] at hx
    obtain ⟨a, xs, rfl, q, r⟩ := hx
    exact ⟨a, xs, rfl, .inl ⟨g.le.seq q, fin q r rfl⟩⟩
  | _ => cases e
noncomputable def lrOf : D → Option (List D)
  | .lst l => some l
  | .ro l => some l
  | _ => none
noncomputable def allF (x : D) : Option D := ((lrOf x).bind asB).map fun (bs : List Bool) => .bl (bs.all id)
noncomputable def anyF (x : D) : Option D := ((lrOf x).bind asB).map fun (bs : List Bool) => .bl (bs.any id)
noncomputable def sumF (x : D) : Option D := ((lrOf x).bind asI).map fun (bs : List Int) => .int bs.sum
theorem lr_rp {x : D} {v : V} {α : Type} {f : List D → Option α} {z : α} (h : (lrOf x).bind f = some z) (hx : Rp c.K c.cm F x v) : ∃ a xs l, v = .ref a ∧ SqL c.K F a xs ∧ RpL c.K c.cm F l xs ∧ f l = some z := by
  unfold lrOf at h
  split at h
  · simp only [Rp] at hx
    obtain ⟨a, xs, rfl, q, r⟩ := hx
    exact ⟨a, xs, _, rfl, SqL.of q, r, h⟩
  · simp only [Rp] at hx
    obtain ⟨a, xs, rfl, q, r⟩ := hx
    exact ⟨a, xs, _, rfl, q, r, h⟩
  · cases h
theorem prim_all : PrimC c (rAll c.K) (one allF) := primC1 fun H0 F H env σ x v d Q g hx e k => by
  obtain ⟨bs, e1, rfl⟩ := Option.map_eq_some_iff.mp e
  obtain ⟨a, xs, l, rfl, q, r, e2⟩ := lr_rp e1 hx
  obtain rfl := asB_eq e2 r
  exact ⟨a, bs, rfl, g.le.seq q, k F H (Step.refl g) _ (by simp [Rp])⟩
theorem prim_any : PrimC c (rAny c.K) (one anyF) := primC1 fun H0 F H env σ x v d Q g hx e k => by
  obtain ⟨bs, e1, rfl⟩ := Option.map_eq_some_iff.mp e
  obtain ⟨a, xs, l, rfl, q, r, e2⟩ := lr_rp e1 hx
  obtain rfl := asB_eq e2 r
  exact ⟨a, bs, rfl, g.le.seq q, k F H (Step.refl g) _ (by simp [Rp])⟩
theorem prim_sum : PrimC c (rSum c.K) (one sumF) := primC1 fun H0 F H env σ x v d Q g hx e k => by
  obtain ⟨bs, e1, rfl⟩ := Option.map_eq_some_iff.mp e
  obtain ⟨a, xs, l, rfl, q, r, e2⟩ := lr_rp e1 hx
  obtain rfl := asI_eq e2 r
  exact ⟨a, bs, rfl, g.le.seq q, k F H (Step.refl g) _ (by simp [Rp])⟩
/-- of two numbers -/
noncomputable def max2F : List D → Option D
  | [.int i, .int j] => some (.int (if j > i then j else i))
  | _ => none
noncomputable def min2F : List D → Option D
  | [.int i, .int j] => some (.int (if j < i then j else i))
  | _ => none
theorem prim_max2 : PrimC c (fun xs H Q => ∃ i j, xs = [.int i, .int j] ∧ Q (.int (if j > i then j else i)) H) max2F := fun H0 F H env σ ds vs d Q g hv e k => by
  unfold max2F at e
  split at e
  · cases e
    simp only [RpL, Rp] at hv
    obtain ⟨v, w, rfl, rfl, v2, w2, rfl, rfl, rfl⟩ := hv
    exact ⟨_, _, rfl, k F H (Step.refl g) _ (by simp only [Rp])⟩
  · cases e
theorem prim_min2 : PrimC c (fun xs H Q => ∃ i j, xs = [.int i, .int j] ∧ Q (.int (if j < i then j else i)) H) min2F := fun H0 F H env σ ds vs d Q g hv e k => by
  unfold min2F at e
  split at e
  · cases e
    simp only [RpL, Rp] at hv
    obtain ⟨v, w, rfl, rfl, v2, w2, rfl, rfl, rfl⟩ := hv
    exact ⟨_, _, rfl, k F H (Step.refl g) _ (by simp only [Rp])⟩
  · cases e
noncomputable def minI : List Int → Int
  | [] => 0
  | x :: xs => xs.foldl min x
noncomputable def minLF (x : D) : Option D := (((lrOf x).bind asI).bind fun (bs : List Int) => if 0 < bs.length then some (.int (minI bs)) else none)
noncomputable def absF : D → Option D
  | .int i => some (.int (if i < 0 then -i else i))
  | _ => none
theorem prim_abs : PrimC c (fun xs H Q => ∃ i, xs = [.int i] ∧ Q (.int (if i < 0 then -i else i)) H) (one absF) := primC1 fun H0 F H env σ x v d Q g hx e k => by
  unfold absF at e
  split at e
  · cases e
    simp only [Rp] at hx
    subst hx
    exact ⟨_, rfl, k F H (Step.refl g) _ (by simp only [Rp])⟩
  · cases e
noncomputable def int1F : D → Option D
  | .int i => some (.int i)
  | .bl b => some (.int (if b then 1 else 0))
  | _ => none
theorem prim_int1 : PrimC c (fun xs H Q => (∃ i, xs = [.int i] ∧ Q (.int i) H) ∨ ∃ k, xs = [.bl k] ∧ Q (.int (if k then 1 else 0)) H) (one int1F) := primC1 fun H0 F H env σ x v d Q g hx e k => by
  unfold int1F at e
  split at e
  · cases e
    simp only [Rp] at hx
    subst hx
    exact .inl ⟨_, rfl, k F H (Step.refl g) _ (by simp only [Rp])⟩
  · cases e
    simp only [Rp] at hx
    subst hx
    exact .inr ⟨_, rfl, k F H (Step.refl g) _ (by simp only [Rp])⟩
  · cases e
/-- list(xs): a new list -/
noncomputable def listF (ra : Env → Out (List D)) (e : Env) : Out (List D) := (ra e).bind fun ds e1 => match ds with
  | [x] => (match seqOf x with | some l => .ok l e1 | none => .no)
  | _ => .no
theorem dl_list {e : Expr} {ra : Env → Out (List D)} (h : PE X e (tCB (fun xs H Q => ∃ p ys, xs = [.ref p] ∧ (SqL c.K H p ys ∨ SqT c.K H p ys) ∧ ∀ l, H l = none → Q (.ref l) (upd H l (.lst ys))) (tA c W ra))) : PE X e (tF c W (listF ra)) := h.imp fun σ H Q ⟨H0, F, env, g, q⟩ =>
  ⟨H0, F, env, g, q.seq fun ds e1 F1 H1 s1 q1 vs hv => by
    split at q1
    · rename_i x
      split at q1
      · rename_i l el
        simp only [RpL] at hv
        obtain ⟨v, w, rfl, r1, rfl⟩ := hv
        obtain ⟨a, xs, rfl, q2, r⟩ := seqOf_rp el r1
        refine ⟨a, xs, rfl, sq_mono s1.good.le q2, fun p hp => ?_⟩
        obtain ⟨g2, ap⟩ := s1.good.lay (o := .lst xs) hp
        exact q1 F1 _ ⟨Same.refl _, EnvLe.refl _, g2, fun _ _ _ e => e⟩ _ ⟨p, _, rfl, ap, r⟩
      · exact q1.elim
    · exact q1.elim⟩
end
end DL
namespace DL
open PySem L2
section
variable {c : Kc} {W : WX} {X : Cx} {H0 F F' H H' : Hp} {env env' : Env} {σ : L2.St} {Q : VK}
/-- d is given to the names of a target; sl: their slots -/
noncomputable def tG (c : Kc) (sl : List Nat) (r : D → Env → Option Env) : TG := fun v σ H Q => ∃ H0 F env d, c.Good H0 F env σ H ∧ Rp c.K c.cm F d v ∧ match r d env with
  | none => False
  | some env' => ∀ σ', σ'.length = σ.length → c.Good H0 F env' σ' H → (∀ j, j ∉ sl → σ'[j]? = σ[j]? ∧ env'[j]? = env[j]?) → Q σ' H
noncomputable def setD (i : Nat) (d : D) (e : Env) : Option Env := match e[i]? with
  | some (.bor _) => none
  | some _ => some (e.set i (.dat d))
  | none => none
theorem _root_.L2.PG.imp {X : Cx} {e : Expr} {t t' : TG} (h : PG X e t) (i : ∀ v σ H Q, t' v σ H Q → t v σ H Q) : PG X e t' := ⟨fun pins s σ H v u Q I r q => h.run pins s σ H v u Q I r (i v σ H Q q)⟩
theorem setD_good {i : Nat} {d : D} {e : Env} {v : V} (g : c.Good H0 F env σ H) (h : setD i d env = some e) (r : Rp c.K c.cm F d v) : c.Good H0 F e (σ.set i (some v)) H ∧ ∀ j, j ≠ i → (σ.set i (some v))[j]? = σ[j]? ∧ e[j]? = env[j]? := by
  unfold setD at h
  split at h
  · cases h
  · rename_i sv hs h1
    cases h
    refine ⟨g.set (fun t e1 => ?_) r, fun j hj => ⟨List.getElem?_set_ne (Ne.symm hj), List.getElem?_set_ne (Ne.symm hj)⟩⟩
    rw [h1] at e1; cases e1
    cases sv with
    | bor ov => exact absurd rfl (hs ov)
    | _ => rfl
  · cases h
theorem tgn_read {i : Nat} {v : V} {σ : L2.St} {H : Hp} {Q : L2.St → Hp → Prop} (h : tG c [i] (setD i) v σ H Q) : gName i v σ H Q := by
  obtain ⟨H0, F, env, d, g, r, q⟩ := h
  split at q
  · exact q.elim
  · rename_i env' e
    obtain ⟨g2, k⟩ := setD_good g e r
    exact q _ (by simp) g2 fun j hj => k j (by simpa using hj)
theorem dl_tgName {i : Nat} {e : Expr} (h : PG X e (gName i)) : PG X e (tG c [i] (setD i)) := h.imp fun v σ H Q q => tgn_read q
/-- the parts of a tuple, one name each -/
noncomputable def tGs (c : Kc) (sl : List Nat) (r : List D → Env → Option Env) : TGs := fun vs σ H Q => ∃ H0 F env ds, c.Good H0 F env σ H ∧ RpL c.K c.cm F ds vs ∧ match r ds env with
  | none => False
  | some env' => ∀ σ', σ'.length = σ.length → c.Good H0 F env' σ' H → (∀ j, j ∉ sl → σ'[j]? = σ[j]? ∧ env'[j]? = env[j]?) → Q σ' H
theorem _root_.L2.PGs.imp {X : Cx} {e : List Expr} {t t' : TGs} (h : PGs X e t) (i : ∀ v σ H Q, t' v σ H Q → t v σ H Q) : PGs X e t' := ⟨fun pins s σ H v u Q I r q => h.run pins s σ H v u Q I r (i v σ H Q q)⟩
noncomputable def setNil (ds : List D) (e : Env) : Option Env := match ds with
  | [] => some e
  | _ => none
noncomputable def setCons (r1 : D → Env → Option Env) (r2 : List D → Env → Option Env) (ds : List D) (e : Env) : Option Env := match ds with
  | [] => none
  | d :: ds => (r1 d e).bind (r2 ds)
theorem dl_tgNil (h : PGs X [] gNil) : PGs X [] (tGs c [] setNil) := h.imp fun vs σ H Q ⟨H0, F, env, ds, g, r, q⟩ => by
  unfold setNil at q
  cases ds with
  | nil =>
    simp only [RpL] at r
    exact ⟨r, q σ rfl g fun _ _ => ⟨rfl, rfl⟩⟩
  | cons d ds => exact q.elim
theorem dl_tgCons {e : Expr} {es : List Expr} {s1 s2 : List Nat} {r1 : D → Env → Option Env} {r2 : List D → Env → Option Env} (h : PGs X (e :: es) (gCons (tG c s1 r1) (tGs c s2 r2))) : PGs X (e :: es) (tGs c (s1 ++ s2) (setCons r1 r2)) := h.imp fun vs σ H Q ⟨H0, F, env, ds, g, r, q⟩ => by
  cases ds with
  | nil => exact q.elim
  | cons d ds =>
    simp only [RpL] at r
    obtain ⟨v, w, rfl, ra, rb⟩ := r
    refine ⟨v, w, rfl, H0, F, env, d, g, ra, ?_⟩
    simp only [setCons] at q
    cases e1 : r1 d env with
    | none => rw [e1] at q; exact q.elim
    | some env1 =>
      rw [e1] at q
      refine fun σ1 hl g1 k1 => ⟨H0, F, env1, ds, g1, rb, ?_⟩
      have e2 : (some env1).bind (r2 ds) = r2 ds env1 := rfl
      rw [e2] at q
      cases e3 : r2 ds env1 with
      | none => rw [e3] at q; exact q.elim
      | some env2 =>
        rw [e3] at q
        exact fun σ2 hl2 g2 k2 => q σ2 (hl2.trans hl) g2 fun j hj => by
          rw [List.mem_append, not_or] at hj
          exact ⟨(k2 j hj.2).1.trans (k1 j hj.1).1, (k2 j hj.2).2.trans (k1 j hj.1).2⟩
noncomputable def setTup (n : Nat) (r : List D → Env → Option Env) (d : D) (e : Env) : Option Env := match d with
  | .tup l => if l.length = n then r l e else none
  | .tu l => if l.length = n then r l e else none
  | _ => none
noncomputable def setUnl (n : Nat) (r : List D → Env → Option Env) (d : D) (e : Env) : Option Env := match d with
  | .lst l => if l.length = n then r l e else none
  | .ro l => if l.length = n then r l e else none
  | _ => none
theorem dl_tgTup {e : Expr} {n : Nat} {sl : List Nat} {r : List D → Env → Option Env} (h : PG X e (gTup c.K n (tGs c sl r))) : PG X e (tG c sl (setTup n r)) := h.imp fun v σ H Q ⟨H0, F, env, d, g, rp, q⟩ => by
  unfold setTup at q
  cases d with
  | tup l =>
    dsimp only at q
    split at q
    · exact q.elim
    · rename_i env' e1
      split at e1
      · simp only [Rp] at rp
        obtain ⟨a, xs, rfl, h1, r1⟩ := rp
        refine ⟨a, xs, rfl, same_T g.le h1.sq, by rw [r1.len]; assumption, H0, F, env, l, g, r1, ?_⟩
        rw [e1]
        exact q
      · cases e1
  | tu l =>
    dsimp only at q
    split at q
    · exact q.elim
    · rename_i env' e1
      split at e1
      · simp only [Rp] at rp
        obtain ⟨a, xs, rfl, h1, r1⟩ := rp
        refine ⟨a, xs, rfl, same_T g.le h1, by rw [r1.len]; assumption, H0, F, env, l, g, r1, ?_⟩
        rw [e1]
        exact q
      · cases e1
  | _ => exact q.elim
/-- what a walk gives at a turn -/
noncomputable def YD (c : Kc) (F : Hp) (ds : List D) (i : Nat) (H : Hp) (x : V) (H' : Hp) : Prop := ∃ d, ds[i]? = some d ∧
  ((H' = H ∧ Rp c.K c.cm F d x) ∨ ∃ p xs l, d = .tu l ∧ x = .ref p ∧ H p = none ∧ H' = upd H p (.tup xs) ∧ RpL c.K c.cm F l xs)
theorem YD.step {F1 : Hp} {ds : List D} {i : Nat} {x : V} (g : c.Good H0 F env σ H) (s : Same F1 F) (y : YD c F1 ds i H x H') : ∃ F' d, ds[i]? = some d ∧ Step c H0 F env σ F' env H' ∧ Rp c.K c.cm F' d x := by
  obtain ⟨d, e, ⟨rfl, r⟩ | ⟨p, xs, l, rfl, rfl, hp, rfl, r⟩⟩ := y
  · exact ⟨F, d, e, Step.refl g, Rp.mono s _ _ r⟩
  · have st := g.alloc (o := .tup xs) hp
    refine ⟨_, _, e, st, ?_⟩
    simp only [Rp]
    exact ⟨p, xs, rfl, SqT.of upd_same, RpL.mono (s.trans st.same) _ _ r⟩
noncomputable def kI (c : Kc) (R : It → Hp → Prop) : List D → Env → Hp → Hp → Prop := fun ds _ F' H' => ∀ J G, Walk J ds.length G (YD c F' ds) → (∀ F2 H2, Same F' F2 → Same F2 H2 → G H2) → R J H'
noncomputable def tI (c : Kc) (W : WX) (r : Env → Out (List D)) : TI := fun σ H R => ∃ H0 F env, c.Good H0 F env σ H ∧ Res c W H0 F env σ (r env) (kI c R)
theorem _root_.L2.PI.imp {X : Cx} {tg e : Expr} {t t' : TI} (h : PI X tg e t) (i : ∀ σ H Q, t' σ H Q → t σ H Q) : PI X tg e t' := ⟨fun pins s σ H Q I q => h.run pins s σ H Q I (i σ H Q q)⟩
/-- what is walked as a list, a tuple, a text -/
noncomputable def itL (ra : Env → Out D) (e : Env) : Out (List D) := (ra e).bind fun x e1 => match x with
  | .lst l => .ok l e1
  | .ro l => .ok l e1
  | _ => .no
noncomputable def itT (ra : Env → Out D) (e : Env) : Out (List D) := (ra e).bind fun x e1 => match x with
  | .tup l => .ok l e1
  | _ => .no
noncomputable def signs (s : Str) : List D := s.cps.toList.map fun k => .str ⟨#[k]⟩
noncomputable def itS (ra : Env → Out D) (e : Env) : Out (List D) := (ra e).bind fun x e1 => match x with
  | .str s => .ok (signs s) e1
  | _ => .no
theorem walk_listD {a : Addr} {xs : List V} {l : List D} (r : RpL c.K c.cm F l xs) : Walk (Itl c.K a) l.length (fun H => SqL c.K H a xs) (YD c F l) := by
  rw [← r.len]
  refine walk_list.mono (fun _ z => z) fun i H x H' _ _ y => ?_
  obtain ⟨d, e, r2⟩ := r.get' y.2
  exact ⟨d, e, .inl ⟨y.1, r2⟩⟩
theorem walk_tupD {a : Addr} {xs : List V} {l : List D} (r : RpL c.K c.cm F l xs) : Walk (Itt c.K a) l.length (fun H => SqT c.K H a xs) (YD c F l) := by
  rw [← r.len]
  refine walk_tup.mono (fun _ z => z) fun i H x H' _ _ y => ?_
  obtain ⟨d, e, r2⟩ := r.get' y.2
  exact ⟨d, e, .inl ⟨y.1, r2⟩⟩
theorem dl_itL {tg e : Expr} {ra : Env → Out D} (h : PI X tg e (iList c.K (tD c W ra))) : PI X tg e (tI c W (itL ra)) := h.imp fun σ H R ⟨H0, F, env, g, q⟩ => by
  refine ⟨H0, F, env, g, q.seq fun x e1 F1 H1 s1 q1 v hv => ?_⟩
  have fin : ∀ {a : Addr} {xs : List V} {l : List D}, SqL c.K F1 a xs → RpL c.K c.cm F1 l xs → Res c W H0 F1 e1 σ (.ok l e1) (kI c R) → ∃ a', V.ref a = .ref a' ∧ (∃ xs, SqL c.K H1 a' xs) ∧ R (Itl c.K a') H1 := fun {a xs l} h1 r q1 =>
    ⟨a, rfl, ⟨xs, s1.good.le.seq h1⟩, q1.ret s1.good _ _ (walk_listD r) fun F2 H2 s2 s3 => s3.seq (s2.seq h1)⟩
  split at q1
  · simp only [Rp] at hv
    obtain ⟨a, xs, rfl, h1, r⟩ := hv
    exact fin (SqL.of h1) r q1
  · simp only [Rp] at hv
    obtain ⟨a, xs, rfl, h1, r⟩ := hv
    exact fin h1 r q1
  · exact q1.elim
theorem dl_itT {tg e : Expr} {ra : Env → Out D} (h : PI X tg e (iTup c.K (tD c W ra))) : PI X tg e (tI c W (itT ra)) := h.imp fun σ H R ⟨H0, F, env, g, q⟩ => by
  refine ⟨H0, F, env, g, q.seq fun x e1 F1 H1 s1 q1 v hv => ?_⟩
  split at q1
  · simp only [Rp] at hv
    obtain ⟨a, xs, rfl, h1, r⟩ := hv
    exact ⟨a, rfl, ⟨xs, same_T s1.good.le h1.sq⟩, q1.ret s1.good _ _ (walk_tupD r) fun F2 H2 s2 s3 => same_T s3 (same_T s2 h1.sq)⟩
  · exact q1.elim
theorem dl_itS {tg e : Expr} {ra : Env → Out D} (h : PI X tg e (iStr (tD c W ra))) : PI X tg e (tI c W (itS ra)) := h.imp fun σ H R ⟨H0, F, env, g, q⟩ => by
  refine ⟨H0, F, env, g, q.seq fun x e1 F1 H1 s1 q1 v hv => ?_⟩
  split at q1
  · rename_i s
    simp only [Rp] at hv
    have hl : (signs s).length = s.cps.size := by simp [signs]
    refine ⟨s, hv, q1.ret s1.good _ _ ((walk_str (z := s)).mono (n := s.cps.size) (fun _ z => z) (fun i H x H' _ _ y => ?_) |> fun w => by rw [hl]; exact w) fun F2 H2 s2 s3 => trivial⟩
    obtain ⟨e, k, e2, rfl⟩ := y
    refine ⟨.str ⟨#[k]⟩, ?_, .inl ⟨e, by simp [Rp]⟩⟩
    simp [signs, e2]
  · exact q1.elim
/-- range(n), range(a, b) -/
noncomputable def rgL (a : Int) (n : Nat) : List D := (List.range n).map fun (i : Nat) => .int (a + i)
noncomputable def okR (i : Int) : Bool := decide (-4611686018427387904 ≤ i ∧ i < 4611686018427387904)
theorem okR_iff {i : Int} (h : okR i = true) : -(2 ^ 62) ≤ i ∧ i < 2 ^ 62 := by have := of_decide_eq_true h; simpa using this
noncomputable def itR1 (ra : Env → Out (List D)) (e : Env) : Out (List D) := (ra e).bind fun ds e1 => match ds with
  | [.int j] => if okR j = true then .ok (rgL 0 j.toNat) e1 else .no
  | _ => .no
noncomputable def itR2 (ra : Env → Out (List D)) (e : Env) : Out (List D) := (ra e).bind fun ds e1 => match ds with
  | [.int i, .int j] => if (okR i && okR j) = true then .ok (rgL i (j - i).toNat) e1 else .no
  | _ => .no
theorem walk_rgL {lo : Int} {n : Nat} {F : Hp} : Walk (Itr lo n) (rgL lo n).length (fun _ => True) (YD c F (rgL lo n)) := by
  have hl : (rgL lo n).length = n := by simp [rgL]
  rw [hl]
  refine (walk_range (lo := lo) (n := n)).mono (fun _ z => z) fun i H x H' hi _ y => ?_
  obtain ⟨e, rfl⟩ := y
  exact ⟨.int (lo + i), by simp [rgL, hi], .inl ⟨e, by simp [Rp]⟩⟩
theorem dl_itR1 {tg e : Expr} {ra : Env → Out (List D)} (h : PI X tg e (iRng1 (tA c W ra))) : PI X tg e (tI c W (itR1 ra)) := h.imp fun σ H R ⟨H0, F, env, g, q⟩ => by
  refine ⟨H0, F, env, g, q.seq fun ds e1 F1 H1 s1 q1 vs hv => ?_⟩
  split at q1
  · split at q1
    · rename_i j hj
      simp only [RpL, Rp] at hv
      obtain ⟨v, w, rfl, rfl, rfl⟩ := hv
      exact ⟨j, rfl, (okR_iff hj).1, (okR_iff hj).2, q1.ret s1.good _ _ walk_rgL fun _ _ _ _ => trivial⟩
    · exact q1.elim
  · exact q1.elim
theorem dl_itR2 {tg e : Expr} {ra : Env → Out (List D)} (h : PI X tg e (iRng2 (tA c W ra))) : PI X tg e (tI c W (itR2 ra)) := h.imp fun σ H R ⟨H0, F, env, g, q⟩ => by
  refine ⟨H0, F, env, g, q.seq fun ds e1 F1 H1 s1 q1 vs hv => ?_⟩
  split at q1
  · split at q1
    · rename_i i j hj
      simp only [Bool.and_eq_true] at hj
      simp only [RpL, Rp] at hv
      obtain ⟨v, w, rfl, rfl, v2, w2, rfl, rfl, rfl⟩ := hv
      exact ⟨i, j, rfl, ⟨(okR_iff hj.1).1, (okR_iff hj.1).2, (okR_iff hj.2).1, (okR_iff hj.2).2⟩, q1.ret s1.good _ _ walk_rgL fun _ _ _ _ => trivial⟩
    · exact q1.elim
  · exact q1.elim
/-- enumerate(list) -/
noncomputable def enL (l : List D) : List D := l.zipIdx.map fun (d, i) => .tu [.int (i : Nat), d]
noncomputable def itE (ra : Env → Out (List D)) (e : Env) : Out (List D) := (ra e).bind fun ds e1 => match ds with
  | [.lst l] => .ok (enL l) e1
  | [.ro l] => .ok (enL l) e1
  | _ => .no
theorem enL_get {l : List D} {i : Nat} {d : D} (h : l[i]? = some d) : (enL l)[i]? = some (.tu [.int (i : Nat), d]) := by
  simp [enL, h]
theorem enL_len (l : List D) : (enL l).length = l.length := by simp [enL]
theorem walk_enumD {a : Addr} {xs : List V} {l : List D} (r : RpL c.K c.cm F l xs) : Walk (Ite c.K a) (enL l).length (fun H => SqL c.K H a xs) (YD c F (enL l)) := by
  rw [enL_len, ← r.len]
  refine walk_enum.mono (fun _ z => z) fun i H x H' _ _ y => ?_
  obtain ⟨T, u, w, rfl, hT, rfl, e1, e2⟩ := y
  cases e1
  obtain ⟨d, e, r2⟩ := r.get' e2
  exact ⟨_, enL_get e, .inr ⟨T, _, _, rfl, rfl, hT, rfl, RpL.cons (by simp [Rp]) (RpL.cons r2 RpL.nil)⟩⟩
theorem dl_itE {tg e : Expr} {ra : Env → Out (List D)} (h : PI X tg e (iEnum c.K (tA c W ra))) : PI X tg e (tI c W (itE ra)) := h.imp fun σ H R ⟨H0, F, env, g, q⟩ => by
  refine ⟨H0, F, env, g, q.seq fun ds e1 F1 H1 s1 q1 vs hv => ?_⟩
  have fin : ∀ {a : Addr} {xs : List V} {l : List D}, SqL c.K F1 a xs → RpL c.K c.cm F1 l xs → Res c W H0 F1 e1 σ (.ok (enL l) e1) (kI c R) → ∃ a' xs, [V.ref a] = [.ref a'] ∧ SqL c.K H1 a' xs ∧ R (Ite c.K a') H1 := fun {a xs l} h1 r q1 =>
    ⟨a, xs, rfl, s1.good.le.seq h1, q1.ret s1.good _ _ (walk_enumD r) fun F2 H2 s2 s3 => s3.seq (s2.seq h1)⟩
  split at q1
  · simp only [RpL, Rp] at hv
    obtain ⟨v, w, rfl, ⟨a, xs, rfl, h1, r⟩, rfl⟩ := hv
    exact fin (SqL.of h1) r q1
  · simp only [RpL, Rp] at hv
    obtain ⟨v, w, rfl, ⟨a, xs, rfl, h1, r⟩, rfl⟩ := hv
    exact fin h1 r q1
  · exact q1.elim
/-- zip of two lists, of two tuples -/
noncomputable def zipL (l m : List D) : List D := (l.zip m).map fun (a, b) => .tu [a, b]
noncomputable def wipeE (e : Env) : List Nat → Env
  | [] => e
  | v :: vs => (wipeE e vs).set v .un
/-- the comprehension's own slots are as they were -/
noncomputable def backE (e0 e : Env) : List Nat → Env
  | [] => e
  | v :: vs => (backE e0 e vs).set v (e0.getD v .un)
theorem wipeE_len (e : Env) : ∀ vs, (wipeE e vs).length = e.length
  | [] => rfl
  | v :: vs => by simp [wipeE, wipeE_len e vs]
theorem backE_len (e0 e : Env) : ∀ vs, (backE e0 e vs).length = e.length
  | [] => rfl
  | v :: vs => by simp [backE, backE_len e0 e vs]
theorem wipeE_out {e : Env} {i : Nat} : ∀ {vs : List Nat}, i ∉ vs → (wipeE e vs)[i]? = e[i]?
  | [], _ => rfl
  | v :: vs, h => by
    rw [List.mem_cons, not_or] at h
    rw [wipeE, List.getElem?_set_ne (Ne.symm h.1), wipeE_out h.2]
theorem wipeE_in {e : Env} {i : Nat} : ∀ {vs : List Nat}, i ∈ vs → i < e.length → (wipeE e vs)[i]? = some .un
  | v :: vs, h, hi => by
    by_cases hv : i = v
    · subst hv; rw [wipeE, List.getElem?_set_self (by rw [wipeE_len]; exact hi)]
    · rw [wipeE, List.getElem?_set_ne (Ne.symm hv)]
      exact wipeE_in ((List.mem_cons.mp h).resolve_left hv) hi
theorem backE_out {e0 e : Env} {i : Nat} : ∀ {vs : List Nat}, i ∉ vs → (backE e0 e vs)[i]? = e[i]?
  | [], _ => rfl
  | v :: vs, h => by
    rw [List.mem_cons, not_or] at h
    rw [backE, List.getElem?_set_ne (Ne.symm h.1), backE_out h.2]
theorem backE_in {e0 e : Env} {i : Nat} : ∀ {vs : List Nat}, i ∈ vs → i < e.length → (backE e0 e vs)[i]? = some (e0.getD i .un)
  | v :: vs, h, hi => by
    by_cases hv : i = v
    · subst hv; rw [backE, List.getElem?_set_self (by rw [backE_len]; exact hi)]
    · rw [backE, List.getElem?_set_ne (Ne.symm hv)]
      exact backE_in ((List.mem_cons.mp h).resolve_left hv) hi
theorem wipe_out {σ : L2.St} {i : Nat} : ∀ {vs : List Nat}, i ∉ vs → (wipe σ vs)[i]? = σ[i]?
  | [], _ => rfl
  | v :: vs, h => by
    rw [List.mem_cons, not_or] at h
    rw [wipe, List.getElem?_set_ne (Ne.symm h.1), wipe_out h.2]
theorem wipe_in {σ : L2.St} {i : Nat} : ∀ {vs : List Nat}, i ∈ vs → i < σ.length → (wipe σ vs)[i]? = some none
  | v :: vs, h, hi => by
    by_cases hv : i = v
    · subst hv; rw [wipe, List.getElem?_set_self (by rw [wipe_length]; exact hi)]
    · rw [wipe, List.getElem?_set_ne (Ne.symm hv)]
      exact wipe_in ((List.mem_cons.mp h).resolve_left hv) hi
theorem wipe_eq {σ σ2 : L2.St} {vs : List Nat} (hl : σ2.length = σ.length) (h : ∀ j, j ∉ vs → σ2[j]? = σ[j]?) : wipe σ2 vs = wipe σ vs := by
  refine List.ext_getElem? fun i => ?_
  by_cases hv : i ∈ vs
  · by_cases hi : i < σ.length
    · rw [wipe_in hv (by omega), wipe_in hv hi]
    · rw [List.getElem?_eq_none (by rw [wipe_length]; omega), List.getElem?_eq_none (by rw [wipe_length]; omega)]
  · rw [wipe_out hv, wipe_out hv, h i hv]
theorem wipe_wipe (σ : L2.St) (vs : List Nat) : wipe (wipe σ vs) vs = wipe σ vs := wipe_eq (wipe_length _ _) fun j hj => wipe_out hj
/-- none of the slots is an own object's -/
noncomputable def freeE (e : Env) (vs : List Nat) : Bool := vs.all fun v => match e[v]? with
  | some sv => !sv.isO
  | none => true
theorem freeE_at {e : Env} {vs : List Nat} (h : freeE e vs = true) {i : Nat} {sv : SV} (hi : i ∈ vs) (e1 : e[i]? = some sv) : sv.isO = false := by
  have := List.all_eq_true.mp h i hi
  rw [e1] at this
  simpa using this
theorem Good.wiped {vs : List Nat} (g : c.Good H0 F env σ H) (h : freeE env vs = true) : c.Good H0 F (wipeE env vs) (wipe σ vs) H := by
  have look : ∀ {j : Nat} {tv : SV}, (wipeE env vs)[j]? = some tv → (j ∈ vs ∧ tv = .un) ∨ (j ∉ vs ∧ env[j]? = some tv ∧ (wipe σ vs)[j]? = σ[j]?) := fun {j tv} q => by
    by_cases hv : j ∈ vs
    · have hj : j < env.length := by rw [← wipeE_len env vs]; exact (List.getElem?_eq_some_iff.mp q).1
      rw [wipeE_in hv hj] at q; cases q; exact .inl ⟨hv, rfl⟩
    · rw [wipeE_out hv] at q; exact .inr ⟨hv, q, wipe_out hv⟩
  refine ⟨g.le, by rw [wipe_length, wipeE_len]; exact g.len, fun j tv q => ?_, fun i j tv uv a n q1 q2 o1 o2 r1 => ?_, fun a u e z => g.frame a u e fun i sv e1 sb => ?_, fun i ov a q z => ?_⟩
  · rcases look q with ⟨_, rfl⟩ | ⟨_, q, e⟩
    · trivial
    · rw [e]; exact g.slot j tv q
  · rcases look q1 with ⟨_, rfl⟩ | ⟨_, q1, e1⟩
    · cases o1
    rcases look q2 with ⟨_, rfl⟩ | ⟨_, q2, e2⟩
    · cases o2
    rw [e1] at r1; rw [e2]
    exact g.sep i j tv uv a n q1 q2 o1 o2 r1
  · have hv : i ∉ vs := fun hv => by have := freeE_at h hv e1; rw [SV.isO_of_isB sb] at this; cases this
    have := z i sv (by rw [wipeE_out hv]; exact e1) sb
    rwa [wipe_out hv] at this
  · rcases look q with ⟨_, q⟩ | ⟨_, q, e⟩
    · cases q
    · rw [e] at z; exact g.fresh i ov a q z
/-- .. and back: from the wiped slots to those ahead -/
theorem Good.unwiped {vs : List Nat} {F' H' : Hp} {e : Env} (g : c.Good H0 F env σ H) (h : freeE env vs = true) (s : Step c H0 F (wipeE env vs) (wipe σ vs) F' e H') : Step c H0 F env σ F' (backE env e vs) H' := by
  have le : e.length = env.length := by rw [s.le.len, wipeE_len]
  have look : ∀ {j : Nat} {tv : SV}, (backE env e vs)[j]? = some tv → (j ∈ vs ∧ env[j]? = some tv ∧ tv.isO = false) ∨ (j ∉ vs ∧ e[j]? = some tv ∧ (wipe σ vs)[j]? = σ[j]?) := fun {j tv} q => by
    by_cases hv : j ∈ vs
    · have hj : j < e.length := by rw [← backE_len env e vs]; exact (List.getElem?_eq_some_iff.mp q).1
      rw [backE_in hv hj] at q
      have e1 : env[j]? = some (env.getD j .un) := by
        rw [List.getD_eq_getElem?_getD]
        have : j < env.length := by omega
        simp [this]
      rw [← Option.some.inj q]
      exact .inl ⟨hv, e1, freeE_at h hv e1⟩
    · rw [backE_out hv] at q; exact .inr ⟨hv, q, wipe_out hv⟩
  refine ⟨s.same, ⟨by rw [backE_len, le], fun j tv q => ?_⟩, ⟨s.good.le, by rw [backE_len, le]; exact g.len, fun j tv q => ?_, fun i j tv uv a n q1 q2 o1 o2 r1 => ?_, fun a u e z => s.good.frame a u e fun i sv e1 sb => ?_, fun i ov a q z => ?_⟩, s.old⟩
  · by_cases hv : j ∈ vs
    · have hj : j < e.length := by rw [le]; exact (List.getElem?_eq_some_iff.mp q).1
      refine ⟨tv, ?_, SvLe.refl _⟩
      rw [backE_in hv hj, List.getD_eq_getElem?_getD, q]
      rfl
    · obtain ⟨t, e1, l⟩ := s.le.at_ j tv (by rw [wipeE_out hv]; exact q)
      exact ⟨t, by rw [backE_out hv]; exact e1, l⟩
  · rcases look q with ⟨_, q, no⟩ | ⟨_, q, e2⟩
    · have := g.slot j tv q
      cases tv with
      | un => trivial
      | dat d => obtain ⟨u, h1, h2⟩ := this; exact ⟨u, h1, Rp.mono s.same _ _ h2⟩
      | exc x => obtain ⟨b, cl, dx, h1, h2, h3⟩ := this; exact ⟨b, cl, dx, h1, h2, h3.mono s.same⟩
      | own ov => cases no
      | bor ov => cases no
    · have := s.good.slot j tv q
      rwa [e2] at this
  · rcases look q1 with ⟨_, _, no⟩ | ⟨_, q1, e1⟩
    · rw [o1] at no; cases no
    rcases look q2 with ⟨_, _, no⟩ | ⟨_, q2, e2⟩
    · rw [o2] at no; cases no
    rw [← e1] at r1; rw [← e2]
    exact s.good.sep i j tv uv a n q1 q2 o1 o2 r1
  · obtain ⟨t, e2, sb2⟩ := s.le.bor e1 sb
    have hv : i ∉ vs := fun hv => by
      rw [wipeE_in hv (by have := (List.getElem?_eq_some_iff.mp e2).1; rwa [wipeE_len] at this)] at e2; cases e2; cases sb2
    have := z i sv (by rw [backE_out hv]; exact e1) sb
    rwa [wipe_out hv]
  · rcases look q with ⟨_, _, no⟩ | ⟨_, q, e2⟩
    · cases no
    · rw [← e2] at z; exact s.good.fresh i ov a q z
end
end DL
namespace DL
open PySem L2
section
variable {c : Kc} {W : WX} {X : Cx} {H0 F F' H H' : Hp} {env env' : Env} {σ : L2.St} {Q : VK}
noncomputable def noEx {α : Type} (o : Out α) : Out α := match o with
  | .ex _ _ => .no
  | o => o
noncomputable def compL (vs : List Nat) (rg : D → Env → Option Env) (rt : Env → Out Bool) (re : Env → Out D) : List D → Env → Out (List D)
  | [], e => .ok [] e
  | d :: ds, e => match rg d e with
    | none => .no
    | some e2 => if freeE e2 vs = true then (noEx (rt e2)).bind fun b e3 => if b = true then (noEx (re e3)).bind fun y e4 => if freeE e4 vs = true then (compL vs rg rt re ds (wipeE e4 vs)).bind fun ys e5 => .ok (y :: ys) e5 else .no
        else if freeE e3 vs = true then compL vs rg rt re ds (wipeE e3 vs) else .no
      else .no
noncomputable def compF (vs : List Nat) (ri : Env → Out (List D)) (rg : D → Env → Option Env) (rt : Env → Out Bool) (re : Env → Out D) (env : Env) : Out (List D) :=
  (ri env).bind fun ds e1 => if (freeE e1 vs && decide (ds.length ≤ sizeLine)) = true then (noEx (compL vs rg rt re ds (wipeE e1 vs))).bind fun ys e5 => .ok ys (backE e1 e5 vs) else .no
theorem Apart.moved {e2 : Env} {σ2 : L2.St} {vs : List Nat} {p : Addr} {o : HO} (a : Apart env σ H0 F H p o) (fr : freeE e2 vs = true) (k : ∀ j, j ∉ vs → σ2[j]? = σ[j]? ∧ e2[j]? = env[j]?) : Apart e2 σ2 H0 F H p o :=
  ⟨a.f, a.h, a.h0, fun i sv e so => by
    by_cases hv : i ∈ vs
    · have := freeE_at fr hv e; rw [so] at this; cases this
    · rw [(k i hv).1]; exact a.no i sv (by rw [← (k i hv).2]; exact e) so⟩
theorem freeE_wipe (e : Env) (vs : List Nat) : freeE (wipeE e vs) vs = true := by
  refine List.all_eq_true.mpr fun v hv => ?_
  by_cases h : v < e.length
  · rw [wipeE_in hv h]; rfl
  · rw [List.getElem?_eq_none (by rw [wipeE_len]; omega)]
/-- the steps of a turn, from wiped slots to wiped slots -/
theorem Step.wiped {vs : List Nat} {e1 e2 e4 : Env} {σ2 : L2.St} {F2 F4 H2 H4 : Hp} (s0 : Step c H0 F (wipeE e1 vs) (wipe σ vs) F2 env H2) (he : env = wipeE env vs)
    (hσ : wipe σ2 vs = wipe σ vs) (hl : e2.length = env.length) (k : ∀ j, j ∉ vs → e2[j]? = env[j]?) (s : Step c H0 F2 e2 σ2 F4 e4 H4) (fr : freeE e4 vs = true) :
    Step c H0 F (wipeE e1 vs) (wipe σ vs) F4 (wipeE e4 vs) H4 := by
  have g := s.good.wiped fr
  rw [hσ] at g
  refine ⟨s0.same.trans s.same, ⟨by rw [wipeE_len, s.le.len, hl, s0.le.len], fun i t e => ?_⟩, g, fun a o n e => s0.old a o n (s.old a o n e)⟩
  obtain ⟨t2, h1, l1⟩ := s0.le.at_ i t e
  by_cases hv : i ∈ vs
  · have hi : i < e1.length := by rw [← wipeE_len e1 vs]; exact (List.getElem?_eq_some_iff.mp e).1
    rw [wipeE_in hv hi] at e; cases e
    refine ⟨.un, wipeE_in hv ?_, rfl⟩
    rw [s.le.len, hl, s0.le.len, wipeE_len]; exact hi
  · obtain ⟨t3, h3, l3⟩ := s.le.at_ i t2 (by rw [k i hv]; exact h1)
    exact ⟨t3, by rw [wipeE_out hv]; exact h3, l1.trans l3⟩
theorem wipeE_wipeE (e : Env) (vs : List Nat) : wipeE e vs = wipeE (wipeE e vs) vs := by
  refine List.ext_getElem? fun i => ?_
  by_cases hv : i ∈ vs
  · by_cases hi : i < e.length
    · rw [wipeE_in hv hi, wipeE_in hv (by rw [wipeE_len]; exact hi)]
    · rw [List.getElem?_eq_none (by rw [wipeE_len]; omega), List.getElem?_eq_none (by rw [wipeE_len, wipeE_len]; omega)]
  · rw [wipeE_out hv, wipeE_out hv, wipeE_out hv]
/-- THE comprehension -/
theorem comp_read {vs sl : List Nat} {ri : Env → Out (List D)} {rg : D → Env → Option Env} {rt : Env → Out Bool} {re : Env → Out D} (hsl : ∀ j, j ∈ sl → j ∈ vs) {σ : L2.St} {H : Hp} {Q : VK}
    (h : tF c W (compF vs ri rg rt re) σ H Q) : tLc (tI c W ri) (tG c sl rg) (tT c W0 rt) (tD c W0 re) vs σ H Q := by
  obtain ⟨H0, F, env, g, q⟩ := h
  refine ⟨H0, F, env, g, q.seq fun ds e1 F1 H1 s1 q1 J G w hG => ?_⟩
  intro Dl hDl
  by_cases hf : (freeE e1 vs && decide (ds.length ≤ sizeLine)) = true
  case neg => rw [if_neg hf] at q1; exact q1.elim
  rw [if_pos hf] at q1
  simp only [Bool.and_eq_true, decide_eq_true_eq] at hf
  obtain ⟨fr, hz⟩ := hf
  -- what is wanted behind the block
  have qb : Res c W0 H0 F1 (wipeE e1 vs) (wipe σ vs) (compL vs rg rt re ds (wipeE e1 vs)) fun ys e5 F' H' => kF c H0 σ Q ys (backE e1 e5 vs) F' H' := by
    cases hc : compL vs rg rt re ds (wipeE e1 vs) with
    | no => rw [hc] at q1; exact q1
    | ex x e5 => rw [hc] at q1; exact q1.elim
    | ok ys e5 =>
      rw [hc] at q1
      exact fun F' H' st => q1 F' H' (s1.good.unwiped fr st)
  have gw := s1.good.wiped fr
  obtain ⟨gl, apl⟩ := gw.lay (o := .lst []) hDl
  refine lc_it w (fun i H => ∃ F2 env2 accd xs, Step c H0 F1 (wipeE e1 vs) (wipe σ vs) F2 env2 H ∧ Apart env2 (wipe σ vs) H0 F2 H Dl (.lst xs) ∧ RpL c.K c.cm F2 accd xs ∧ env2 = wipeE env2 vs ∧ Same F2 H ∧ accd.length ≤ i ∧
      Res c W0 H0 F2 env2 (wipe σ vs) (compL vs rg rt re (ds.drop i) env2) fun ys e5 F' H' => Step c H0 F1 (wipeE e1 vs) (wipe σ vs) F' e5 H' → kF c H0 σ Q (accd ++ ys) (backE e1 e5 vs) F' H')
    ⟨F1, wipeE e1 vs, [], [], ⟨Same.refl _, EnvLe.refl _, gl, fun _ _ _ e => e⟩, apl, RpL.nil, wipeE_wipeE _ _, gl.le, Nat.le_refl _, qb.mono fun ys e5 F' H' _ k _ => k⟩
    (fun i H _ ⟨F2, env2, accd, xs, st, _, _, _, sm, _, _⟩ => hG F2 H st.same sm) ?_ ?_
  · rintro i x H2 H3 hi ⟨F2, env2, accd, xs, st, ap, ra, he2, sm, hl, qi⟩ y
    obtain ⟨F3, d, hd, s3, rd⟩ := YD.step st.good.rebased st.same y
    have ap3 := ap.after st.good s3
    have s3' := st.good.unbase s3
    have hdrop : ds.drop i = d :: ds.drop (i + 1) := by
      have hi' : i < ds.length := hi
      rw [List.drop_eq_getElem_cons hi']
      rw [List.getElem?_eq_getElem hi'] at hd
      rw [Option.some.inj hd]
    rw [hdrop] at qi
    simp only [compL] at qi
    refine ⟨H0, F3, env2, d, s3'.good, rd, ?_⟩
    split at qi
    · exact qi.elim
    · rename_i e2 hg
      try rw [hg]
      intro σ2 hl2 g2 kk
      have kv : ∀ j, j ∉ vs → σ2[j]? = (wipe σ vs)[j]? ∧ e2[j]? = env2[j]? := fun j hj => kk j fun z => hj (hsl j z)
      have hw : wipe σ2 vs = wipe σ vs := by rw [wipe_eq hl2 fun j hj => (kv j hj).1, wipe_wipe]
      have hle : e2.length = env2.length := by rw [← g2.len, hl2, s3'.good.len]
      by_cases fr2 : freeE e2 vs = true
      case neg => rw [if_neg fr2] at qi; exact qi.elim
      rw [if_pos fr2] at qi
      have ap2 := ap3.moved fr2 kv
      have g2' : c.Good H0 F3 e2 σ2 H3 := g2
      refine ⟨hw, rebase e2 σ2 H3, F3, e2, g2.rebased, ?_⟩
      cases hrt : rt e2 with
      | no => rw [hrt] at qi; exact qi.elim
      | ex x e => rw [hrt] at qi; exact qi.elim
      | ok b e3 =>
        rw [hrt] at qi
        intro F4 H4 s4
        have ap4 := ap2.after g2' s4
        have s4' := g2'.unbase s4
        have fin : ∀ {e4 : Env} {F5 H5 : Hp} (s5 : Step c H0 F3 e2 σ2 F5 e4 H5) (fr4 : freeE e4 vs = true), Step c H0 F2 env2 (wipe σ vs) F5 (wipeE e4 vs) H5 := fun {e4 F5 H5} s5 fr4 => by
          have := Step.wiped (c := c) (H0 := H0) (F := F2) (e1 := env2) (σ := σ) (vs := vs) (env := env2) (F2 := F3) (H2 := H3) (by rw [← he2]; exact s3') he2 hw hle (fun j hj => (kv j hj).2) s5 fr4
          rwa [← he2] at this
        have offσ : ∀ j, j ∉ vs → (wipe σ vs)[j]? = σ2[j]? := fun j hj => (kv j hj).1.symm
        have qi : Res c W0 H0 F2 env2 (wipe σ vs) (if b = true then (noEx (re e3)).bind fun y e4 => if freeE e4 vs = true then (compL vs rg rt re (ds.drop (i + 1)) (wipeE e4 vs)).bind fun ys e5 => .ok (y :: ys) e5 else .no
            else if freeE e3 vs = true then compL vs rg rt re (ds.drop (i + 1)) (wipeE e3 vs) else .no) _ := qi
        show if b = true then _ else _
        cases b with
        | false =>
          rw [if_neg Bool.false_ne_true] at qi ⊢
          by_cases fr3 : freeE e3 vs = true
          case neg => rw [if_neg fr3] at qi; exact qi.elim
          rw [if_pos fr3] at qi
          have s5 := fin s4' fr3
          have ap5 : Apart (wipeE e3 vs) (wipe σ vs) H0 F4 H4 Dl (.lst xs) := ap4.moved (freeE_wipe _ _) fun j hj => ⟨offσ j hj, wipeE_out hj⟩
          exact ⟨F4, wipeE e3 vs, accd, xs, st.trans s5, ap5, RpL.mono s5.same _ _ ra, wipeE_wipeE _ _, s5.good.le, by omega, Res.base s5 qi⟩
        | true =>
          rw [if_pos rfl] at qi ⊢
          refine ⟨rebase e3 σ2 H4, F4, e3, s4'.good.rebased, ?_⟩
          cases hre : re e3 with
          | no => rw [hre] at qi; exact qi.elim
          | ex x e => rw [hre] at qi; exact qi.elim
          | ok y e4 =>
            rw [hre] at qi
            intro F5 H5 s5 v hv
            have ap5 := ap4.after s4'.good s5
            have s5' := s4'.good.unbase s5
            have qi : Res c W0 H0 F2 env2 (wipe σ vs) (if freeE e4 vs = true then (compL vs rg rt re (ds.drop (i + 1)) (wipeE e4 vs)).bind fun ys e5 => .ok (y :: ys) e5 else .no) _ := qi
            by_cases fr4 : freeE e4 vs = true
            case neg => rw [if_neg fr4] at qi; exact qi.elim
            rw [if_pos fr4] at qi
            have s6 := fin (s4'.trans s5') fr4
            have ap6 : Apart (wipeE e4 vs) (wipe σ vs) H0 F5 H5 Dl (.lst xs) := ap5.moved (freeE_wipe _ _) fun j hj => ⟨offσ j hj, wipeE_out hj⟩
            obtain ⟨g7, ap7⟩ := s6.good.changeApart (o' := .lst (xs ++ [v])) ap6
            have s7 : Step c H0 F2 env2 (wipe σ vs) F5 (wipeE e4 vs) (upd H5 Dl (.lst (xs ++ [v]))) := ⟨s6.same, s6.le, g7, s6.old⟩
            refine ⟨xs, ap6.h, ?_, F5, wipeE e4 vs, accd ++ [y], xs ++ [v], st.trans s7, ap7, (RpL.mono s6.same _ _ ra).append (RpL.cons hv RpL.nil), wipeE_wipeE _ _, g7.le, by simp; omega, ?_⟩
            · rw [ra.len]
              have : i < ds.length := hi
              omega
            · refine Res.base s7 (qi.bind.mono fun ys e5 F' H' s8 k s9 => ?_)
              have := k F' H' (Step.refl s8.good) s9
              rwa [List.append_assoc, List.singleton_append]
  · rintro H2 ⟨F2, env2, accd, xs, st, ap, ra, he2, sm, hl, qi⟩
    have hdrop : ds.drop ds.length = [] := List.drop_length
    rw [hdrop] at qi
    have := qi.ret st.good st
    rw [List.append_nil] at this
    refine this _ ⟨Dl, xs, rfl, ?_, ra⟩
    refine ⟨ap.f, ap.h, ap.h0, fun i sv e so => ?_⟩
    by_cases hv : i ∈ vs
    · have hi : i < env2.length := by rw [← backE_len e1 env2 vs]; exact (List.getElem?_eq_some_iff.mp e).1
      rw [backE_in hv hi] at e
      have hi1 : i < e1.length := by rw [← wipeE_len e1 vs, ← st.le.len]; exact hi
      have e1' : e1[i]? = some (e1.getD i .un) := by rw [List.getD_eq_getElem?_getD]; simp [hi1]
      rw [Option.some.inj e] at e1'
      have := freeE_at fr hv e1'
      rw [so] at this; cases this
    · rw [backE_out hv] at e
      rw [← wipe_out hv]
      exact ap.no i sv e so
theorem dl_comp {e : Expr} {vs sl : List Nat} {ri : Env → Out (List D)} {rg : D → Env → Option Env} {rt : Env → Out Bool} {re : Env → Out D} (hsl : ∀ j, j ∈ sl → j ∈ vs)
    (h : PE X e (tLc (tI c W ri) (tG c sl rg) (tT c W0 rt) (tD c W0 re) vs)) : PE X e (tF c W (compF vs ri rg rt re)) := h.imp fun σ H Q q => comp_read hsl q
end
end DL
namespace DL
open PySem L2
/-- how a statement ends -/
inductive Fl where
  | nx
  | rt (d : D)
  | bk
  | ct
structure StepS (c : Kc) (H0 F : Hp) (env : Env) (σ : L2.St) (F' : Hp) (env' : Env) (σ' : L2.St) (H' : Hp) : Prop where
  same : Same F F'
  good : c.Good H0 F' env' σ' H'
  old : ∀ a o, H0 a ≠ none → F' a = some o → F a = some o
  len : env'.length = env.length
  bor : ∀ (i : Nat) o, env[i]? = some (.bor o) → (∃ o', env'[i]? = some (.bor o')) ∧ σ'[i]? = σ[i]?
  rob : ∀ (i : Nat) o, env'[i]? = some (.bor o) → ∃ o', env[i]? = some (.bor o')
section
variable {c : Kc} {W : WX} {X : Cx} {H0 F F' H H' : Hp} {env env' : Env} {σ σ' : L2.St} {Q : VK} {α : Type}
theorem StepS.refl (g : c.Good H0 F env σ H) : StepS c H0 F env σ F env σ H := ⟨Same.refl _, g, fun _ _ _ e => e, rfl, fun i o e => ⟨⟨o, e⟩, rfl⟩, fun i o e => ⟨o, e⟩⟩
theorem StepS.trans {F2 H2 : Hp} {env2 : Env} {σ2 : L2.St} (s : StepS c H0 F env σ F' env' σ' H') (t : StepS c H0 F' env' σ' F2 env2 σ2 H2) : StepS c H0 F env σ F2 env2 σ2 H2 :=
  ⟨s.same.trans t.same, t.good, fun a o n e => s.old a o n (t.old a o n e), t.len.trans s.len, fun i o e => by
    obtain ⟨⟨o1, e1⟩, q1⟩ := s.bor i o e
    obtain ⟨x, q2⟩ := t.bor i o1 e1
    exact ⟨x, q2.trans q1⟩, fun i o e => by
    obtain ⟨o1, e1⟩ := t.rob i o e
    exact s.rob i o1 e1⟩
theorem Step.toS (s : Step c H0 F env σ F' env' H') : StepS c H0 F env σ F' env' σ H' :=
  ⟨s.same, s.good, s.old, s.le.len, fun i o e => by
    obtain ⟨t, e1, l⟩ := s.le.at_ i _ e
    obtain ⟨o', rfl⟩ := l
    exact ⟨⟨o', e1⟩, rfl⟩, fun i o e => by
    obtain ⟨t, e1, tb⟩ := s.le.bor e rfl
    cases t with
    | bor o' => exact ⟨o', e1⟩
    | _ => cases tb⟩
noncomputable def RS (c : Kc) (W : WX) (H0 F : Hp) (env : Env) (σ : L2.St) (o : Out Fl) (k : Fl → Env → L2.St → Hp → Hp → Prop) : Prop := match o with
  | .no => False
  | .ok fl e => ∀ σ' F' H', StepS c H0 F env σ F' e σ' H' → k fl e σ' F' H'
  | .ex x e => ∀ σ' F' H' cl dx, StepS c H0 F env σ F' e σ' H' → XRep c F' H' x cl dx → W σ' cl dx H'
theorem RS.base {o : Out Fl} {k : Fl → Env → L2.St → Hp → Hp → Prop} (s : StepS c H0 F env σ F' env' σ' H') (h : RS c W H0 F env σ o k) : RS c W H0 F' env' σ' o k := by
  cases o with
  | no => exact h
  | ok a e => exact fun σ2 F2 H2 st => h σ2 F2 H2 (s.trans st)
  | ex x e => exact fun σ2 F2 H2 cl dx st => h σ2 F2 H2 cl dx (s.trans st)
theorem RS.mono {o : Out Fl} {k k' : Fl → Env → L2.St → Hp → Hp → Prop} (h : RS c W H0 F env σ o k) (f : ∀ a e σ' F' H', StepS c H0 F env σ F' e σ' H' → k a e σ' F' H' → k' a e σ' F' H') : RS c W H0 F env σ o k' := by
  cases o with
  | no => exact h
  | ok a e => exact fun σ2 F2 H2 st => f a e σ2 F2 H2 st (h σ2 F2 H2 st)
  | ex x e => exact h
theorem RS.bind {o : Out Fl} {f : Fl → Env → Out Fl} {k : Fl → Env → L2.St → Hp → Hp → Prop} (h : RS c W H0 F env σ (o.bind f) k) : RS c W H0 F env σ o fun a e σ' F' _ => RS c W H0 F' e σ' (f a e) k := by
  cases o with
  | no => exact h
  | ok a e => exact fun σ2 F2 H2 st => RS.base st h
  | ex x e => exact h
/-- an expression, then a statement -/
theorem RS.ofE {o : Out α} {f : α → Env → Out Fl} {k : Fl → Env → L2.St → Hp → Hp → Prop} (h : RS c W H0 F env σ (o.bind f) k) : Res c W H0 F env σ o fun a e F' _ => RS c W H0 F' e σ (f a e) k := by
  cases o with
  | no => exact h
  | ok a e => exact fun F2 H2 st => RS.base st.toS h
  | ex x e => exact fun F2 H2 cl dx st => h σ F2 H2 cl dx st.toS
theorem RS.seqE {o : Out α} {f : α → Env → Out Fl} {k : Fl → Env → L2.St → Hp → Hp → Prop} {k' : α → Env → Hp → Hp → Prop} (h : RS c W H0 F env σ (o.bind f) k)
    (q : ∀ a e F' H', Step c H0 F env σ F' e H' → RS c W H0 F' e σ (f a e) k → k' a e F' H') : Res c W H0 F env σ o k' := h.ofE.mono q
theorem RS.ret {a : Fl} {k : Fl → Env → L2.St → Hp → Hp → Prop} (g : c.Good H0 F env σ H) (h : RS c W H0 F env σ (.ok a env) k) : k a env σ F H := h σ F H (StepS.refl g)
noncomputable def finD (c : Kc) (D : Ends) : Fl → Env → L2.St → Hp → Hp → Prop := fun fl _ σ' F' H' => match fl with
  | .nx => D.nx σ' H'
  | .rt d => ∀ v, Rp c.K c.cm F' d v → D.rt v H'
  | .bk => D.bk σ' H'
  | .ct => D.ct σ' H'
/-- THE canonical reading of a statement -/
noncomputable def tS (c : Kc) (W : WX) (r : Env → Out Fl) : TS := fun D σ H => ∃ H0 F env, c.Good H0 F env σ H ∧ RS c W H0 F env σ (r env) (finD c D)
noncomputable def nextS (e : Env) : Out Fl := .ok .nx e
noncomputable def seqS (r1 r2 : Env → Out Fl) (e : Env) : Out Fl := (r1 e).bind fun fl e1 => match fl with
  | .nx => r2 e1
  | fl => .ok fl e1
theorem dl_nil (h : PSs X [] tNext) : PSs X [] (tS c W nextS) := h.imp fun D σ H ⟨H0, F, env, g, q⟩ => q.ret g
theorem dl_seq {sts : List Stmt} {r1 r2 : Env → Out Fl} (h : PSs X sts (tSeq (tS c W r1) (tS c W r2))) : PSs X sts (tS c W (seqS r1 r2)) := h.imp fun D σ H ⟨H0, F, env, g, q⟩ =>
  ⟨H0, F, env, g, q.bind.mono fun fl e σ' F' H' st k => by
    cases fl with
    | nx => exact ⟨H0, F', e, st.good, k⟩
    | rt d => exact RS.ret (W := W) (k := finD c D) st.good k
    | bk => exact RS.ret (W := W) (k := finD c D) st.good k
    | ct => exact RS.ret (W := W) (k := finD c D) st.good k⟩
noncomputable def neverS (_ : Env) : Out Fl := .no
theorem dl_never {st : Stmt} (h : PS X st tNever) : PS X st (tS c W neverS) := h.imp fun D σ H ⟨H0, F, env, g, q⟩ => q
noncomputable def dropS (r : Env → Out D) (e : Env) : Out Fl := (r e).bind fun _ e1 => .ok .nx e1
theorem dl_drop {st : Stmt} {r : Env → Out D} (h : PS X st (tDrop (tD c W r))) : PS X st (tS c W (dropS r)) := h.imp fun D σ H ⟨H0, F, env, g, q⟩ =>
  ⟨H0, F, env, g, q.seqE fun d e F' H' st k v hv => k.ret st.good⟩
noncomputable def retS (r : Env → Out D) (e : Env) : Out Fl := (r e).bind fun d e1 => .ok (.rt d) e1
theorem dl_ret {st : Stmt} {r : Env → Out D} (h : PS X st (tRet (tD c W r))) : PS X st (tS c W (retS r)) := h.imp fun D σ H ⟨H0, F, env, g, q⟩ =>
  ⟨H0, F, env, g, q.seqE fun d e F' H' st k v hv => k.ret st.good v hv⟩
noncomputable def retNS (e : Env) : Out Fl := .ok (.rt .non) e
noncomputable def ifS (rc : Env → Out Bool) (ra rb : Env → Out Fl) (e : Env) : Out Fl := (rc e).bind fun b e1 => if b = true then ra e1 else rb e1
theorem dl_if {st : Stmt} {rc : Env → Out Bool} {ra rb : Env → Out Fl} (h : PS X st (tIfS (tT c W rc) (tS c W ra) (tS c W rb))) : PS X st (tS c W (ifS rc ra rb)) := h.imp fun D σ H ⟨H0, F, env, g, q⟩ =>
  ⟨H0, F, env, g, q.seqE fun b e F' H' st k => by
    cases b with
    | true => exact ⟨H0, F', e, st.good, k⟩
    | false => exact ⟨H0, F', e, st.good, k⟩⟩
/-- what a target does, as a step -/
noncomputable def keepsB (e e' : Env) : Bool := decide (e'.length = e.length) && (e.zip e').all fun (a, b) => a.isB == b.isB
theorem keepsB_at {e e' : Env} (h : keepsB e e' = true) {i : Nat} {a b : SV} (h1 : e[i]? = some a) (h2 : e'[i]? = some b) : a.isB = b.isB := by
  simp only [keepsB, Bool.and_eq_true] at h
  have m : (a, b) ∈ e.zip e' := List.mem_of_getElem? (i := i) (by rw [List.getElem?_zip_eq_some]; exact ⟨h1, h2⟩)
  have := List.all_eq_true.mp h.2 _ m
  simpa using this
noncomputable def asgS (r : Env → Out D) (rg : D → Env → Option Env) (sl : List Nat) (e : Env) : Out Fl := (r e).bind fun d e1 => match rg d e1 with
  | some e2 => if (keepsB e1 e2 && freeE e2 sl) = true then .ok .nx e2 else .no
  | none => .no
theorem StepS.ofTarget {sl : List Nat} {e1 e2 : Env} {σ2 : L2.St} (g1 : c.Good H0 F e1 σ H) (g2 : c.Good H0 F e2 σ2 H) (h : (keepsB e1 e2 && freeE e2 sl) = true) (k : ∀ j, j ∉ sl → σ2[j]? = σ[j]? ∧ e2[j]? = e1[j]?) : StepS c H0 F e1 σ F e2 σ2 H := by
  simp only [Bool.and_eq_true] at h
  have hl : e2.length = e1.length := by have := h.1; simp only [keepsB, Bool.and_eq_true, decide_eq_true_eq] at this; exact this.1
  refine ⟨Same.refl _, g2, fun _ _ _ e => e, hl, fun i o e => ?_, fun i o e => ?_⟩
  · have hi : i < e2.length := by rw [hl]; exact (List.getElem?_eq_some_iff.mp e).1
    have e' : e2[i]? = some e2[i] := by simp [hi]
    have kb := keepsB_at h.1 e e'
    have hb : ∃ o', e2[i]? = some (.bor o') := by
      cases hs : e2[i] with
      | bor o' => exact ⟨o', by rw [e', hs]⟩
      | _ => rw [hs] at kb; cases kb
    refine ⟨hb, ?_⟩
    by_cases hv : i ∈ sl
    · obtain ⟨o', e3⟩ := hb
      have := freeE_at h.2 hv e3; cases this
    · exact (k i hv).1
  · have hi : i < e1.length := by rw [← hl]; exact (List.getElem?_eq_some_iff.mp e).1
    have e' : e1[i]? = some e1[i] := by simp [hi]
    have kb := keepsB_at h.1 e' e
    cases hs : e1[i] with
    | bor o' => exact ⟨o', by rw [e', hs]⟩
    | _ => rw [hs] at kb; cases kb
theorem dl_asg {st : Stmt} {r : Env → Out D} {sl : List Nat} {rg : D → Env → Option Env} (h : PS X st (tAsg (tD c W r) (tG c sl rg))) : PS X st (tS c W (asgS r rg sl)) := h.imp fun D σ H ⟨H0, F, env, g, q⟩ =>
  ⟨H0, F, env, g, q.seqE fun d e F' H' st k v hv => by
    refine ⟨H0, F', e, d, st.good, hv, ?_⟩
    cases hr : rg d e with
    | none => rw [hr] at k; exact k
    | some e2 =>
      rw [hr] at k
      intro σ2 hl g2 kk
      by_cases hk : (keepsB e e2 && freeE e2 sl) = true
      · have k : RS c W H0 F' e σ (if (keepsB e e2 && freeE e2 sl) = true then .ok .nx e2 else .no) (finD c D) := k
        rw [if_pos hk] at k
        exact k σ2 F' H' (StepS.ofTarget st.good g2 hk kk)
      · have k : RS c W H0 F' e σ (if (keepsB e e2 && freeE e2 sl) = true then .ok .nx e2 else .no) (finD c D) := k
        rw [if_neg hk] at k
        exact k.elim⟩
/-- a name is given an own list -/
noncomputable def asgOS (i : Nat) (r : Env → Out (List D)) (e : Env) : Out Fl := (r e).bind fun l e1 => match e1[i]? with
  | some sv => if sv.isB = true then .no else .ok .nx (e1.set i (.own (.L l)))
  | none => .no
theorem Good.ownStep {i : Nat} {sv : SV} {ov : OV} {p : Addr} {o : HO} (g : c.Good H0 F env σ H) (e : env[i]? = some sv) (nb : ¬ sv.isB = true) (a : Apart env σ H0 F H p o) (r : RO c.K c.cm F H p ov) : StepS c H0 F env σ F (env.set i (.own ov)) (σ.set i (some (.ref p))) H := by
  refine ⟨Same.refl _, g.setOwn (fun t e1 => by rw [e] at e1; cases e1; simpa using nb) a r, fun _ _ _ e => e, by simp, fun j x ej => ?_, fun j x ej => ?_⟩
  · have hj : j ≠ i := fun z => by subst z; rw [e] at ej; cases ej; exact nb rfl
    exact ⟨⟨x, by rw [List.getElem?_set_ne (Ne.symm hj)]; exact ej⟩, List.getElem?_set_ne (Ne.symm hj)⟩
  · by_cases hj : j = i
    · subst hj
      rw [List.getElem?_set_self (by have := (List.getElem?_eq_some_iff.mp e).1; exact this)] at ej
      cases ej
    · exact ⟨x, by rwa [List.getElem?_set_ne (Ne.symm hj)] at ej⟩
theorem dl_asgO {st : Stmt} {i : Nat} {r : Env → Out (List D)} (h : PS X st (tAsg (tF c W r) (gName i))) : PS X st (tS c W (asgOS i r)) := h.imp fun D σ H ⟨H0, F, env, g, q⟩ =>
  ⟨H0, F, env, g, q.seqE fun l e F' H' st k v ⟨p, xs, hv, ap, rl⟩ => by
    subst hv
    cases he : e[i]? with
    | none => rw [he] at k; exact k.elim
    | some sv =>
      rw [he] at k
      by_cases hb : sv.isB = true
      · have k : RS c W H0 F' e σ (if sv.isB = true then .no else .ok .nx (e.set i (.own (.L l)))) (finD c D) := k
        rw [if_pos hb] at k; exact k.elim
      · have k : RS c W H0 F' e σ (if sv.isB = true then .no else .ok .nx (e.set i (.own (.L l)))) (finD c D) := k
        rw [if_neg hb] at k
        exact k _ _ _ (st.good.ownStep he hb ap ⟨xs, ap.h, rl⟩)⟩
/-- own object's content replaced -/
noncomputable def putOv (i : Nat) (ov : OV) (e : Env) : Option Env := match e[i]? with
  | some (.own _) => some (e.set i (.own ov))
  | some (.bor _) => some (e.set i (.bor ov))
  | _ => none
theorem putOv_step {i : Nat} {ov : OV} {a : Addr} {o : HO} {e2 : Env} (g : c.Good H0 F env σ H) (h : putOv i ov env = some e2) (ha : σ[i]? = some (some (.ref a))) (r : RO c.K c.cm F (upd H a o) a ov) : Step c H0 F env σ F e2 (upd H a o) := by
  unfold putOv at h
  split at h
  · rename_i x e
    cases h
    exact g.change e rfl ha (.inl ⟨x, rfl, rfl⟩) r
  · rename_i x e
    cases h
    exact g.change e rfl ha (.inr ⟨x, rfl, rfl⟩) r
  · cases h
/-- own[i] = v -/
noncomputable def storeS (i : Nat) (rk rv : Env → Out D) (e : Env) : Out Fl := (rv e).bind fun d e1 => match lstOf e1[i]? with
  | none => .no
  | some _ => (rk e1).bind fun k e2 => match lstOf e2[i]?, k with
    | some l, .int n => (match ixN l.length n with
      | some j => (match putOv i (.L (l.set j d)) e2 with
        | some e3 => .ok .nx e3
        | none => .no)
      | none => .no)
    | _, _ => .no
theorem dl_store {st : Stmt} {i : Nat} {rk rv : Env → Out D} (h : PS X st (tAsg (tD c W rv) (gSub (tVar i) (tD c W rk) rSetL))) : PS X st (tS c W (storeS i rk rv)) := h.imp fun D σ H ⟨H0, F, env, g, q⟩ =>
  ⟨H0, F, env, g, q.seqE fun d e F1 H1 st k v hv => by
    split at k
    · exact k.elim
    · rename_i l0 el0
      obtain ⟨a, xs0, ha, _, _⟩ := own_list st.good el0
      refine ⟨_, ha, H0, F1, e, st.good, k.seqE fun kd e2 F2 H2 s2 k2 u hu => ?_⟩
      split at k2
      · rename_i l n el
        split at k2
        · rename_i j hj
          split at k2
          · rename_i e3 hp
            obtain ⟨a', xs, ha', hH, r⟩ := own_list s2.good el
            rw [ha] at ha'; cases ha'
            simp only [Rp] at hu
            subst hu
            refine ⟨a, xs, n, j, rfl, rfl, hH, by rw [r.len]; exact hj, ?_⟩
            have st3 := putOv_step (o := .lst (xs.set j v)) s2.good hp ha ⟨_, upd_same, r.set (Rp.mono s2.same _ _ hv)⟩
            exact k2 σ F2 _ st3.toS
          · exact k2.elim
        · exact k2.elim
      · exact k2.elim⟩
/-- own.append(v) -/
noncomputable def appS (i : Nat) (rv : Env → Out D) (e : Env) : Out Fl := match lstOf e[i]? with
  | none => .no
  | some _ => (rv e).bind fun d e2 => match lstOf e2[i]? with
    | some l => if l.length < sizeLine then (match putOv i (.L (l ++ [d])) e2 with
        | some e3 => .ok .nx e3
        | none => .no) else .no
    | none => .no
theorem dl_app {st : Stmt} {i : Nat} {rv : Env → Out D} (h : PS X st (tDrop (tBM c.K "list" rAppend (tVar i) (tCons (tD c W rv) tNil)))) : PS X st (tS c W (appS i rv)) := h.imp fun D σ H ⟨H0, F, env, g, q⟩ => by
  unfold appS at q
  split at q
  · exact q.elim
  · rename_i l0 el0
    obtain ⟨a, xs0, ha, hH0, _⟩ := own_list g el0
    refine ⟨_, ha, .inl ⟨rfl, _, .inl (.inl hH0)⟩, H0, F, env, g, q.seqE fun d e2 F2 H2 s2 k2 v hv => ?_⟩
    split at k2
    · rename_i l el
      split at k2
      · rename_i hz
        split at k2
        · rename_i e3 hp
          obtain ⟨a', xs, ha', hH, r⟩ := own_list s2.good el
          rw [ha] at ha'; cases ha'
          refine ⟨a, xs, v, rfl, rfl, hH, by rw [r.len]; exact hz, ?_⟩
          have st3 := putOv_step (o := .lst (xs ++ [v])) s2.good hp ha ⟨_, upd_same, r.append (RpL.cons hv RpL.nil)⟩
          exact k2 σ F2 _ st3.toS
        · exact k2.elim
      · exact k2.elim
    · exact k2.elim
/-- own.extend(v) -/
noncomputable def extS (i : Nat) (rv : Env → Out D) (e : Env) : Out Fl := match lstOf e[i]? with
  | none => .no
  | some _ => (rv e).bind fun d e2 => match lstOf e2[i]?, d with
    | some l, .lst m => if l.length + m.length ≤ sizeLine then (match putOv i (.L (l ++ m)) e2 with
        | some e3 => .ok .nx e3
        | none => .no) else .no
    | _, _ => .no
theorem dl_ext {st : Stmt} {i : Nat} {rv : Env → Out D} (h : PS X st (tDrop (tBM c.K "list" rExtend (tVar i) (tCons (tD c W rv) tNil)))) : PS X st (tS c W (extS i rv)) := h.imp fun D σ H ⟨H0, F, env, g, q⟩ => by
  unfold extS at q
  split at q
  · exact q.elim
  · rename_i l0 el0
    obtain ⟨a, xs0, ha, hH0, _⟩ := own_list g el0
    refine ⟨_, ha, .inl ⟨rfl, _, .inl (.inl hH0)⟩, H0, F, env, g, q.seqE fun d e2 F2 H2 s2 k2 v hv => ?_⟩
    split at k2
    · rename_i l m el
      split at k2
      · rename_i hz
        split at k2
        · rename_i e3 hp
          obtain ⟨a', xs, ha', hH, r⟩ := own_list s2.good el
          rw [ha] at ha'; cases ha'
          simp only [Rp] at hv
          obtain ⟨b, ys, rfl, hb, r2⟩ := hv
          refine ⟨a, b, xs, ys, rfl, rfl, hH, s2.good.le _ _ hb, by rw [r.len, r2.len]; exact hz, ?_⟩
          have st3 := putOv_step (o := .lst (xs ++ ys)) s2.good hp ha ⟨_, upd_same, r.append r2⟩
          exact k2 σ F2 _ st3.toS
        · exact k2.elim
      · exact k2.elim
    · exact k2.elim
noncomputable def loopS (rg : D → Env → Option Env) (sl : List Nat) (rb : Env → Out Fl) : List D → Env → Out Fl
  | [], e => .ok .nx e
  | d :: ds, e => match rg d e with
    | none => .no
    | some e2 => if (keepsB e e2 && freeE e2 sl) = true then (rb e2).bind fun fl e3 => match fl with
        | .nx => loopS rg sl rb ds e3
        | .ct => loopS rg sl rb ds e3
        | .bk => .ok .nx e3
        | .rt d => .ok (.rt d) e3
      else .no
noncomputable def forS (ri : Env → Out (List D)) (rg : D → Env → Option Env) (sl : List Nat) (rb : Env → Out Fl) (e : Env) : Out Fl := (ri e).bind fun ds e1 => loopS rg sl rb ds e1
theorem dl_for {st : Stmt} {ri : Env → Out (List D)} {sl : List Nat} {rg : D → Env → Option Env} {rb : Env → Out Fl} (h : PS X st (tFor (tI c W ri) (tG c sl rg) (tS c W rb))) : PS X st (tS c W (forS ri rg sl rb)) := h.imp fun D σ H ⟨H0, F, env, g, q⟩ => by
  refine ⟨H0, F, env, g, q.seqE fun ds e1 F1 H1 s1 q1 J G w hG => ?_⟩
  refine for_it w (fun i σ2 H2 => ∃ F2 env2, StepS c H0 F1 e1 σ F2 env2 σ2 H2 ∧ RS c W H0 F2 env2 σ2 (loopS rg sl rb (ds.drop i) env2) (finD c D)) ⟨F1, e1, StepS.refl s1.good, q1⟩
    (fun i σ2 H2 _ ⟨F2, env2, st, _⟩ => hG F2 H2 st.same st.good.le) ?_ ?_
  · rintro i x σ2 H2 H3 hi ⟨F2, env2, st, qi⟩ y
    obtain ⟨F3, d, hd, s3, rd⟩ := YD.step st.good st.same y
    have hdrop : ds.drop i = d :: ds.drop (i + 1) := by
      have hi' : i < ds.length := hi
      rw [List.drop_eq_getElem_cons hi']
      rw [List.getElem?_eq_getElem hi'] at hd
      rw [Option.some.inj hd]
    rw [hdrop] at qi
    simp only [loopS] at qi
    refine ⟨H0, F3, env2, d, s3.good, rd, ?_⟩
    cases hr : rg d env2 with
    | none => rw [hr] at qi; exact qi
    | some e2 =>
      rw [hr] at qi
      intro σ3 hl g3 kk
      by_cases hk : (keepsB env2 e2 && freeE e2 sl) = true
      case neg => simp only [if_neg hk] at qi; exact qi.elim
      simp only [if_pos hk] at qi
      have st4 : StepS c H0 F2 env2 σ2 F3 e2 σ3 H3 := s3.toS.trans (StepS.ofTarget s3.good g3 hk kk)
      refine ⟨H0, F3, e2, st4.good, ((RS.base st4 qi).bind).mono fun fl e5 σ5 F5 H5 st5 k5 => ?_⟩
      cases fl with
      | nx => exact ⟨F5, e5, (st.trans st4).trans st5, k5⟩
      | ct => exact ⟨F5, e5, (st.trans st4).trans st5, k5⟩
      | bk => exact RS.ret (W := W) (k := finD c D) st5.good k5
      | rt d => exact RS.ret (W := W) (k := finD c D) st5.good k5
  · rintro σ2 H2 ⟨F2, env2, st, qi⟩
    have hdrop : ds.drop ds.length = [] := List.drop_length
    rw [hdrop] at qi
    exact qi.ret st.good
/-- a while, at most so many turns -/
noncomputable def whileS (rc : Env → Out Bool) (rb : Env → Out Fl) : Nat → Env → Out Fl
  | 0, _ => .no
  | n + 1, e => (rc e).bind fun b e1 => if b = true then (rb e1).bind fun fl e2 => match fl with
      | .nx => whileS rc rb n e2
      | .ct => whileS rc rb n e2
      | .bk => .ok .nx e2
      | .rt d => .ok (.rt d) e2
    else .ok .nx e1
end
end DL
namespace DL
open PySem L2
section
variable {c : Kc} {W : WX} {X : Cx} {H0 F F' H H' : Hp} {env env' : Env} {σ σ' : L2.St} {Q : VK}
noncomputable def blOf (d : D) (e : Env) : Out Bool := match d with
  | .bl b => .ok b e
  | _ => .no
noncomputable def valT (r : Env → Out D) (e : Env) : Out Bool := (r e).bind blOf
theorem dl_valT {e : Expr} {r : Env → Out D} (h : PT X e (tB (tD c W r))) : PT X e (tT c W (valT r)) := h.imp fun σ H Q ⟨H0, F, env, g, q⟩ =>
  ⟨H0, F, env, g, q.seq fun d e F' H' st k v hv => by
    unfold blOf at k
    split at k
    · simp only [Rp] at hv
      exact ⟨_, hv, k.ret st.good⟩
    · exact k.elim⟩
noncomputable def andT (ra rb : Env → Out Bool) (e : Env) : Out Bool := (ra e).bind fun b e1 => if b = true then rb e1 else .ok false e1
noncomputable def orT (ra rb : Env → Out Bool) (e : Env) : Out Bool := (ra e).bind fun b e1 => if b = true then .ok true e1 else rb e1
noncomputable def notT (ra : Env → Out Bool) (e : Env) : Out Bool := (ra e).bind fun b e1 => .ok (!b) e1
theorem t_and {ra rb : Env → Out Bool} {Q : Bool → Hp → Prop} (h : tT c W (andT ra rb) σ H Q) : tAnd (tT c W ra) (tT c W rb) σ H Q := by
  obtain ⟨H0, F, env, g, q⟩ := h
  exact ⟨H0, F, env, g, q.seq fun b e F' H' st k => by
    cases b with
    | true => exact ⟨H0, F', e, st.good, k⟩
    | false => exact Res.ret (W := W) (k := kT Q) st.good k⟩
theorem t_or {ra rb : Env → Out Bool} {Q : Bool → Hp → Prop} (h : tT c W (orT ra rb) σ H Q) : tOr (tT c W ra) (tT c W rb) σ H Q := by
  obtain ⟨H0, F, env, g, q⟩ := h
  exact ⟨H0, F, env, g, q.seq fun b e F' H' st k => by
    cases b with
    | true => exact Res.ret (W := W) (k := kT Q) st.good k
    | false => exact ⟨H0, F', e, st.good, k⟩⟩
theorem _root_.L2.PW.imp {X : Cx} {e : Expr} {t t' : TT} (h : PW X e t) (i : ∀ σ H Q, t' σ H Q → t σ H Q) : PW X e t' := ⟨fun w pins s σ H Q I q => h.run w pins s σ H Q I (i σ H Q q)⟩
theorem dl_andT {e : Expr} {ra rb : Env → Out Bool} (h : PW X e (tAnd (tT c W ra) (tT c W rb))) : PW X e (tT c W (andT ra rb)) := h.imp fun _ _ _ => t_and
theorem dl_orT {e : Expr} {ra rb : Env → Out Bool} (h : PW X e (tOr (tT c W ra) (tT c W rb))) : PW X e (tT c W (orT ra rb)) := h.imp fun _ _ _ => t_or
theorem dl_notT {e : Expr} {ra : Env → Out Bool} (h : PT X e (tNot (tT c W ra))) : PT X e (tT c W (notT ra)) := h.imp fun σ H Q ⟨H0, F, env, g, q⟩ =>
  ⟨H0, F, env, g, q.seq fun b e F' H' st k => Res.ret (W := W) (k := kT Q) st.good k⟩
/-- a comprehension's tests -/
theorem _root_.L2.PTs.imp {X : Cx} {e : List Expr} {t t' : TT} (h : PTs X e t) (i : ∀ σ H Q, t' σ H Q → t σ H Q) : PTs X e t' := ⟨fun pins s σ H Q I q => h.run pins s σ H Q I (i σ H Q q)⟩
noncomputable def yesT (e : Env) : Out Bool := .ok true e
theorem dl_yesT (h : PTs X [] tYes) : PTs X [] (tT c W yesT) := h.imp fun σ H Q ⟨H0, F, env, g, q⟩ => q.ret g
/-- and, or, not of truths, as values -/
noncomputable def andD (ra rb : Env → Out D) (e : Env) : Out D := (ra e).bind fun d e1 => match d with
  | .bl b => if b = true then rb e1 else .ok (.bl false) e1
  | _ => .no
noncomputable def orD (ra rb : Env → Out D) (e : Env) : Out D := (ra e).bind fun d e1 => match d with
  | .bl b => if b = true then .ok (.bl true) e1 else rb e1
  | _ => .no
noncomputable def notD (ra : Env → Out D) (e : Env) : Out D := (ra e).bind fun d e1 => match d with
  | .bl b => .ok (.bl (!b)) e1
  | _ => .no
theorem dl_andD {e : Expr} {ra rb : Env → Out D} (h : PE X e (tAndV (tD c W ra) (tD c W rb))) : PE X e (tD c W (andD ra rb)) := h.imp fun σ H Q ⟨H0, F, env, g, q⟩ =>
  ⟨H0, F, env, g, q.seq fun d e F' H' st k v hv => by
    split at k
    · rename_i b
      simp only [Rp] at hv
      refine ⟨b, hv, ?_⟩
      cases b with
      | true => exact ⟨H0, F', e, st.good, k⟩
      | false => exact k.ret st.good _ (by simp only [Rp])
    · exact k.elim⟩
theorem dl_orD {e : Expr} {ra rb : Env → Out D} (h : PE X e (tOrV (tD c W ra) (tD c W rb))) : PE X e (tD c W (orD ra rb)) := h.imp fun σ H Q ⟨H0, F, env, g, q⟩ =>
  ⟨H0, F, env, g, q.seq fun d e F' H' st k v hv => by
    split at k
    · rename_i b
      simp only [Rp] at hv
      refine ⟨b, hv, ?_⟩
      cases b with
      | true => exact k.ret st.good _ (by simp only [Rp])
      | false => exact ⟨H0, F', e, st.good, k⟩
    · exact k.elim⟩
noncomputable def ifD (rc : Env → Out Bool) (ra rb : Env → Out D) (e : Env) : Out D := (rc e).bind fun b e1 => if b = true then ra e1 else rb e1
theorem dl_ifD {e : Expr} {rc : Env → Out Bool} {ra rb : Env → Out D} (h : PE X e (tIf (tT c W rc) (tD c W ra) (tD c W rb))) : PE X e (tD c W (ifD rc ra rb)) := h.imp fun σ H Q ⟨H0, F, env, g, q⟩ =>
  ⟨H0, F, env, g, q.seq fun b e F' H' st k => by
    cases b with
    | true => exact ⟨H0, F', e, st.good, k⟩
    | false => exact ⟨H0, F', e, st.good, k⟩⟩
/-- a op b op c -/
noncomputable def chainD (f f' : D → D → Env → Out D) (ra rb rc : Env → Out D) (e : Env) : Out D := (ra e).bind fun x e1 => (rb e1).bind fun y e2 => (f x y e2).bind fun z e3 => match z with
  | .bl k => if k = true then (rc e3).bind fun w e4 => f' y w e4 else .ok (.bl false) e3
  | _ => .no
theorem dl_chainT {e : Expr} {r r' : R2} {f f' : D → D → Env → Out D} {ra rb rc : Env → Out D} (h : PT X e (tTest (tChain r r' (tD c W ra) (tD c W rb) (tD c W rc)))) (p : Prim2 c r f) (p' : Prim2 c r' f') : PT X e (tT c W (valT (chainD f f' ra rb rc))) := h.imp fun σ H Q ⟨H0, F, env, g, q⟩ =>
  ⟨H0, F, env, g, q.bind.seq fun x e1 F1 H1 s1 q1 v hv => ⟨H0, F1, e1, s1.good, q1.seq fun y e2 F2 H2 s2 q2 u hu => by
    refine p W H0 F2 H2 e2 σ x y v u _ s2.good (Rp.mono s2.same _ _ hv) hu (q2.seq fun z e3 F3 H3 s3 q3 w hw => ?_)
    split at q3
    · rename_i k
      simp only [Rp] at hw
      refine ⟨k, hw, ?_⟩
      cases k with
      | true =>
        refine ⟨H0, F3, e3, s3.good, q3.seq fun w' e4 F4 H4 s4 q4 t ht => p' W H0 F4 H4 e4 σ y w' u t _ s4.good (Rp.mono (s3.same.trans s4.same) _ _ hu) ht (q4.mono fun d e5 F5 H5 s5 k5 z5 hz5 => ?_)⟩
        unfold blOf at k5
        split at k5
        · simp only [Rp] at hz5
          exact ⟨_, hz5, k5.ret s5.good⟩
        · exact k5.elim
      | false =>
        have := q3.ret s3.good
        exact ⟨false, rfl, this.ret s3.good⟩
    · exact q3.elim⟩⟩
noncomputable def fldF (cn f : Str) : D → Option D
  | .obj c ns l => if c = cn then (ns.zip l).lookup f else none
  | _ => none
theorem lookup_rp {f : Str} {d : D} : ∀ {ns : List Str} {l : List D} {fs : List (Str × V)}, fs.map (·.1) = ns → RpL c.K c.cm F l (fs.map (·.2)) → (ns.zip l).lookup f = some d → ∃ v, fs.lookup f = some v ∧ Rp c.K c.cm F d v
  | [], l, fs, h, r, e => by simp at e
  | n :: ns, [], fs, h, r, e => by simp at e
  | n :: ns, d0 :: l, fs, h, r, e => by
    cases fs with
    | nil => cases h
    | cons p fs =>
      simp only [List.map_cons, List.cons.injEq] at h
      obtain ⟨h1, h2⟩ := h
      simp only [List.map_cons, RpL] at r
      obtain ⟨v, w, e1, r1, r2⟩ := r
      cases e1
      simp only [List.zip_cons_cons, List.lookup_cons] at e ⊢
      obtain ⟨pn, pv⟩ := p
      cases h1
      simp only [List.lookup_cons]
      cases hb : f == pn with
      | true => rw [hb] at e; cases e; exact ⟨_, rfl, r1⟩
      | false =>
        rw [hb] at e
        exact lookup_rp h2 r2 e
noncomputable def fldD (cn f : Str) (ra : Env → Out D) (e : Env) : Out D := (ra e).bind (pur1 (fldF cn f))
theorem dl_fld {e : Expr} {cn f : Str} {ra : Env → Out D} (h : PE X e (tFld c.K (tD c W ra) f)) (ok : ∀ C, c.cm cn = some C → Cls c.K C ∧ NoAttr c.K C f) : PE X e (tD c W (fldD cn f ra)) := h.imp fun σ H Q ⟨H0, F, env, g, q⟩ =>
  ⟨H0, F, env, g, q.seq fun d e F' H' st k v hv => by
    unfold pur1 at k
    split at k
    · rename_i y hy
      unfold fldF at hy
      split at hy
      · split at hy
        · rename_i hc
          subst hc
          simp only [Rp] at hv
          obtain ⟨a, dx, C, fs, rfl, hC, h1, h2, h3, r⟩ := hv
          obtain ⟨u, hu, ru⟩ := lookup_rp h3 r hy
          obtain ⟨o1, o2⟩ := ok C hC
          exact ⟨a, C, dx, fs, u, rfl, st.good.le _ _ h1, o1, o2, hu, k.ret st.good u ru⟩
        · cases hy
      · cases hy
    · exact k.elim⟩
end
end DL
namespace DL
open PySem PySem.Spec PyProof.Rows L2
set_option maxHeartbeats 1000000 in
theorem made_enum_tup (t : Addr) (ws : Array Value) : Meets (Builtin.«enumerate.__new__» ⟨[.type "enumerate", .ref t], []⟩) (fun _ R z => z.heap.IsTuple t ws ∧
    R (.ok (.ret (.ref (z.heap.push { cls := .type "tuple_iterator", data := .fields #[.ref t, .int 0 0] }).objs.size)))
      { z with heap := (z.heap.push ⟨.type "tuple_iterator", none, .fields #[.ref t, .int 0 0], #[]⟩).push ⟨.type "enumerate", none, .fields #[.none, .bool false, .ref z.heap.objs.size, rawInt 0, .none, .none], #[]⟩ }) :=
  .of_wp fun prog w A R z hz => by
    obtain ⟨hp, g, d, tk, os⟩ := z
    obtain ⟨ht, fin⟩ := hz
    have hs := sub_enumerate
    have it1 : ∀ {A' : Around} {E : Value → Shared → Prop} {Q : Value → Shared → Prop}, Q (.ref hp.objs.size) ⟨hp.push { cls := .type "tuple_iterator", data := .fields #[.ref t, .int 0 0] }, g, d, tk, os⟩ →
        wpAny (model prog w) A' (pyIter (.ref t)) Q E ⟨hp, g, d, tk, os⟩ := fun k => wpAny_pyIter_tuple ht k
    wp_walk using it1
    refine wpAny_stack_any fun st => wpAny_pure ?_
    split
    · rename_i cc _ _ _ _ _
      cases (cc == Value.type "enumerate")
      all_goals (wp_walk using it1; exact ⟨_, rfl, fin⟩)
    · wp_walk using it1
      exact ⟨_, rfl, fin⟩
section
variable {prog : Program} {w : World} {A : Around} {E : Value → Shared → Prop} {z : Shared}
theorem begin_enum_tup {t : Addr} {ws : Array Value} {Q : Value → Shared → Prop} (ht : z.heap.IsTuple t ws)
    (fin : ∀ g, IsEnum g (z.heap.objs.size + 1) z.heap.objs.size 0 .none → g.IsTupleIter z.heap.objs.size t 0 → (∀ b o, z.heap.get? b = some o → g.get? b = some o) → Q (.ref (z.heap.objs.size + 1)) { z with heap := g }) :
    wpAny (model prog w) A (call (.type "enumerate") [.ref t]) Q E z := by
  refine callType_new F.called_enumerate (by decide) (F.typeCall_enumerate_1 _) (F.newCall_enumerate_1 _) (fun obj => F.args_object_init_2 obj _) F.entry_enumerate_new (made_enum_tup t ws) ⟨ht, ?_⟩
  generalize ho : ({ cls := .type "tuple_iterator", data := .fields #[.ref t, .int 0 0] } : Obj) = oi
  have nf : oi.isFreed = false := by rw [← ho]; rfl
  have sz : (z.heap.push oi).objs.size = z.heap.objs.size + 1 := Heap.size_push ..
  show _ ∧ _
  rw [sz]
  generalize hoe : ({ cls := .type "enumerate", data := .fields #[.none, .bool false, .ref z.heap.objs.size, rawInt 0, .none, .none] } : Obj) = oe
  have nfe : oe.isFreed = false := by rw [← hoe]; rfl
  have ge : ((z.heap.push oi).push oe).get? (z.heap.objs.size + 1) = some oe := by
    have k := Heap.get?_push_size (z.heap.push oi) (o := oe) nfe
    rwa [sz] at k
  have gi : ((z.heap.push oi).push oe).get? z.heap.objs.size = some oi := Heap.get?_push_of_some _ (Heap.get?_push_size _ nf)
  have en : IsEnum ((z.heap.push oi).push oe) (z.heap.objs.size + 1) z.heap.objs.size 0 .none := by
    rw [← hoe] at ge ⊢
    exact ge
  refine ⟨⟨oe, ge, by rw [← hoe]⟩, fin _ en ⟨oi, gi, by rw [← ho], by rw [← ho]; rfl⟩ fun b o k => Heap.get?_push_of_some _ (Heap.get?_push_of_some _ k)⟩
end
/-- the tuple at a, each item in a new pair behind its number -/
noncomputable def ItE (K : PySem.W.Frag) (a : Addr) : It where
  go := fun i H => ∃ (xs : List V) (x : V), SqT K H a xs ∧ xs[i]? = some x
  yld := fun i H v H' => ∃ p x, v = .ref p ∧ H p = none ∧ H' = upd H p (.tup [.int (i : Nat), x]) ∧ ∀ xs, SqT K H a xs → xs[i]? = some x
  stop := fun i H => ∃ xs : List V, SqT K H a xs ∧ xs.length = i
theorem turn_enum_tup {P : Program} {w : World} {K : PySem.W.Frag} {elts : List Expr} {kk : Nat} {tpos : Pos} (a e it : Addr) :
    Turn P w K (.Tuple elts kk tpos) (ItE K a) [e, it] e (fun i h => (∃ old, IsEnum h e it ((i : Nat) : Int) old) ∧ h.IsTupleIter it a i ∧ e ≠ it) where
  mem := List.mem_cons_self
  obj := fun i h ⟨⟨old, he⟩, ⟨o, ho, hc, hd⟩, _⟩ b hb => by
    rcases List.mem_cons.mp hb with rfl | hb
    · exact ⟨_, he, fun v q => nomatch q⟩
    · rw [List.mem_singleton.mp hb]
      exact ⟨o, ho, fun v q => by rw [hd] at q; cases q⟩
  keep := fun i h h' ⟨⟨old, he⟩, hi, ne⟩ k => ⟨⟨old, k e (by simp) _ he⟩, hi.at fun o q => k it (by simp) o q, ne⟩
  item := by
    intro X hP hw hK hc i pins s σ H E I hf st ⟨xs, x, hq, hx⟩
    subst hP hw hK
    obtain ⟨⟨old, he⟩, hit, ne⟩ := st
    obtain ⟨its, rv, p, hz⟩ := I.tuple hq
    have hi : i < its.toArray.size := by
      have := (List.getElem?_eq_some_iff.mp hx).1
      rw [List.size_toArray, ← rv.length]; exact this
    have hait : a ≠ it := fun q => by
      subst q
      obtain ⟨o1, h1, c1, _⟩ := p
      obtain ⟨o2, h2, c2, _⟩ := hit
      rw [h1] at h2; cases h2; rw [c1] at c2; exact absurd c2 (by decide)
    have hea : e ∉ [it, a] := fun q => by
      rcases List.mem_cons.mp q with q | q
      · exact ne q
      · rw [List.mem_singleton] at q; subst q
        obtain ⟨o1, h1, c1, _⟩ := p
        rw [show s.heap.get? e = _ from he] at h1; cases h1; exact absurd (show Value.type "enumerate" = Value.type "tuple" from c1) (by decide)
    have el : e < s.heap.objs.size := Heap.lt_size he
    have il : it < s.heap.objs.size := by obtain ⟨_, q, _⟩ := hit; exact Heap.lt_size q
    have D := Draws.tuple (prog := X.prog) (w := X.w) (A := X.A.in1) (I.ok.hd hc) it a hait its.toArray
    refine wpAny_pyNext_enum_itemC D he ⟨hit, p⟩ hi ne hea fun u g tk hu eo st' hT hsz hk => ?_
    refine ⟨_, rfl, wpAny_letOwnedTupleGo_enum (s := { s with heap := g, toks := tk + 1 }) eo fun g2 he2 sb => ?_⟩
    have hT2 := (sb.2 _ (Nat.ne_of_gt el)).trans hT
    have ru : RelV x u := by
      obtain ⟨u', h1, h2⟩ := rv.get hx
      rw [List.getElem?_toArray, h1] at hu
      cases hu
      exact h2
    have new : ObjOk X.prog X.w (upd H s.heap.objs.size (.tup [.int (i : Nat), x])) g2 s.heap.objs.size (.tup [.int (i : Nat), x]) :=
      ⟨by show 2 ≤ sizeLine; decide, [.int i tk, u], .cons ⟨_, rfl⟩ (.cons ru .nil), ⟨_, hT2, rfl, _, rfl⟩⟩
    have I1 := I.turnedNew (t' := tk + 1) (ch := [e, it]) (fun b ob hb q => (sb.2 b (fun z => hb (by simp [z]))).trans (hk b ob (fun z => hb (by simp [z])) (fun z => hb (by simp [z])) q)) hf (Nat.le_refl _) new
    refine ⟨.ref s.heap.objs.size, _, I1, rfl, ⟨_, x, rfl, I.hok.fresh (Nat.le_refl _), rfl, fun ys hy => by rw [I.tuple_inj hy hq]; exact hx⟩, ⟨⟨u, ?_⟩, st'.1.at fun o q => (sb.2 it (Ne.symm ne)).trans q, ne⟩, fun b hb => ?_⟩
    · rw [show ((i + 1 : Nat) : Int) = (i : Int) + 1 by omega]; exact he2
    · have lt : b < s.heap.objs.size := by
        rcases List.mem_cons.mp hb with rfl | hb
        · exact el
        · rw [List.mem_singleton.mp hb]; exact il
      rw [upd_ne (Nat.ne_of_lt lt)]
      exact (hf b hb).1
  done := by
    intro X hP hw hK hc i pins s σ H E I hf st ⟨xs, hq, hx⟩
    subst hP hw hK
    obtain ⟨⟨old, he⟩, hit, ne⟩ := st
    obtain ⟨its, rv, p, hz⟩ := I.tuple hq
    have hait : a ≠ it := fun q => by
      subst q
      obtain ⟨o1, h1, c1, _⟩ := p
      obtain ⟨o2, h2, c2, _⟩ := hit
      rw [h1] at h2; cases h2; rw [c1] at c2; exact absurd c2 (by decide)
    obtain ⟨f0, f1, f2, f3, f4, f5⟩ := hf it (by simp)
    have D := Draws.tuple (prog := X.prog) (w := X.w) (A := X.A.in1) (I.ok.hd hc) it a hait its.toArray
    have hn : its.toArray.size = i := by rw [List.size_toArray, ← rv.length]; exact hx
    exact wpAny_pyNext_enum_endD D he (by rw [hn]; exact ⟨hit, p⟩) fun g eb => ⟨rfl, I.turned (t' := s.toks) (fun b o hb q => eb b o hb q) f0 f1 f3 f4 f5⟩
  self := fun A i s Q E ⟨⟨_, he⟩, _⟩ h => wpAny_pyIter_enum he h
noncomputable def iEnT (K : PySem.W.Frag) (ta : TA) : TI := fun σ H R => ta σ H fun vs H1 => ∃ a xs, vs = [.ref a] ∧ SqT K H1 a xs ∧ R (ItE K a) H1
theorem pi_enT {X : Cx} {e : Expr} {ta : TA} {p pos tpos : Pos} {elts : List Expr} {kk : Nat} (hg : Gl X "enumerate") (hm : X.mg "enumerate" = none) (ha : PA X [e] ta) (hs : starEach [e] X.env = [(false, eval e X.env)] := by rfl) :
    PI X (.Tuple elts kk tpos) (.Call (.Name "enumerate" p) [e] [] pos) (iEnT X.K ta) := ⟨fun pins s σ H R I h => by
  refine Call_ (ld_blt I hg hm boot_enumerate (callWith_type1 (thn (ha.run pos pins s σ H _ I h) fun us s1 ⟨vs, H1, I1, r1, a, xs, ex, hq, q⟩ => ?_) hs rfl))
  subst ex
  obtain ⟨u, rfl, ru⟩ := vals1 r1
  obtain rfl : u = Value.ref a := ru
  obtain ⟨its, rv, tp, hz⟩ := I1.tuple hq
  refine begin_enum_tup tp fun g he hit hk => wpAny_pyIter_enum he ?_
  refine ⟨s1.heap.objs.size + 1, [s1.heap.objs.size + 1, s1.heap.objs.size], _, _, H1, rfl, I1.kept (t' := s1.toks) hk, turn_enum_tup a (s1.heap.objs.size + 1) s1.heap.objs.size, ⟨⟨.none, he⟩, hit, Nat.succ_ne_self _⟩, fun b hb => ?_, q⟩
  have le : s1.heap.objs.size ≤ b := by
    rcases List.mem_cons.mp hb with rfl | hb
    · exact Nat.le_succ _
    · rw [List.mem_singleton.mp hb]; exact Nat.le_refl _
  exact I1.fpOk le (I1.hok.fresh le)⟩
section
variable {c : Kc} {W : WX} {X : Cx} {H0 F F' H H' : Hp} {env env' : Env} {σ σ' : L2.St} {Q : VK}
theorem walk_enTD {a : Addr} {xs : List V} {l : List D} (r : RpL c.K c.cm F l xs) : Walk (ItE c.K a) (enL l).length (fun H => SqT c.K H a xs) (YD c F (enL l)) := by
  rw [enL_len, ← r.len]
  refine ⟨fun i H hi q => ⟨xs, xs[i], q, by simp [hi]⟩, fun H q => ⟨xs, q, rfl⟩, fun i H v H' _ q ⟨p, x, e1, e2, e3, e4⟩ => ?_⟩
  obtain ⟨d, e, r2⟩ := r.get' (e4 xs q)
  subst e1
  exact ⟨_, enL_get e, .inr ⟨p, _, _, rfl, rfl, e2, e3, RpL.cons (by simp [Rp]) (RpL.cons r2 RpL.nil)⟩⟩
noncomputable def itET (ra : Env → Out (List D)) (e : Env) : Out (List D) := (ra e).bind fun ds e1 => match ds with
  | [.tup l] => .ok (enL l) e1
  | _ => .no
theorem dl_itET {tg e : Expr} {ra : Env → Out (List D)} (h : PI X tg e (iEnT c.K (tA c W ra))) : PI X tg e (tI c W (itET ra)) := h.imp fun σ H R ⟨H0, F, env, g, q⟩ => by
  refine ⟨H0, F, env, g, q.seq fun ds e1 F1 H1 s1 q1 vs hv => ?_⟩
  split at q1
  · simp only [RpL, Rp] at hv
    obtain ⟨v, w, rfl, ⟨a, xs, rfl, h1, r⟩, rfl⟩ := hv
    refine ⟨a, xs, rfl, same_T s1.good.le h1.sq, q1.ret s1.good _ _ (walk_enTD r) fun F2 H2 s2 s3 => same_T s3 (same_T s2 h1.sq)⟩
  · exact q1.elim
end
end DL
namespace DL
open PySem PySem.Spec PyProof.Rows L2
noncomputable def sortOk (ds : List D) : Bool := pureL ds && ds.all (fun a => ds.all fun b => PySem.W.alike a.toP b.toP) &&
  (ds.all (fun a => match a with | .tup (_ :: _) => true | _ => false) || ds.all fun a => match a with | .non => false | .tup _ => false | .tu _ => false | _ => true) && ds.all fun a => decide (a.toP.depth ≤ 60)
noncomputable def leD (a b : D) : Bool := PySem.W.dataLe false D.toP a b
noncomputable def rSortD (K : PySem.W.Frag) : List V → Hp → VK → Prop := fun vs H Q => ∃ (a : Addr) (bs : List (V × PyData)), vs = [.ref a] ∧ SqL K H a (bs.map (·.1)) ∧ (∀ b ∈ bs, Dp K H b.1 b.2) ∧ PySem.W.AllAlike (bs.map (·.2)) ∧ PySem.W.Sortable (bs.map (·.2)) ∧ (∀ b ∈ bs, b.2.depth ≤ 60) ∧
  ∀ p, H p = none → Q (.ref p) (upd H p (.lst ((bs.mergeSort (PySem.W.dataLe false (·.2))).map (·.1))))
theorem each_vals : ∀ {bs : List (V × PyData)} {its : List Value}, Vals (bs.map (·.1)) its → PySem.W.EachIs (fun v b => RelV b.1 v) its bs
  | [], _, r => by cases r; exact .nil
  | b :: bs, _, r => by cases r with | cons r1 r2 => exact .cons r1 (each_vals r2)
theorem vals_each : ∀ {bs : List (V × PyData)} {its : List Value}, PySem.W.EachIs (fun v (b : V × PyData) => RelV b.1 v) its bs → Vals (bs.map (·.1)) its
  | [], _, r => by cases r; exact .nil
  | b :: bs, _, r => by cases r with | cons r1 r2 => exact .cons r1 (vals_each r2)
theorem each_and {R S : Value → V × PyData → Prop} : ∀ {bs : List (V × PyData)} {its : List Value}, PySem.W.EachIs R its bs → (∀ b ∈ bs, ∀ v, R v b → S v b) → PySem.W.EachIs S its bs
  | [], _, r, _ => by cases r; exact .nil
  | b :: bs, _, r, h => by cases r with | cons r1 r2 => exact .cons (h b List.mem_cons_self _ r1) (each_and r2 fun b' m => h b' (List.mem_cons_of_mem _ m))
theorem cr_sortD {X : Cx} (hu : X.A.units + 62 < cLine) : CallR X (.builtin "sorted") (rSortD X.K) := by
  intro pins s σ H vs us Q I r ⟨a, bs, e1, hs, hd, hal, hso, hdep, q⟩
  subst e1
  obtain ⟨u, rfl, ru⟩ := vals1 r
  obtain rfl : u = Value.ref a := ru
  obtain ⟨its, rv, hl, hz⟩ := I.list hs
  have ev := each_vals rv
  have er : PySem.W.EachIs (fun v b => ∃ as, Reads s.heap v b.2 as) its bs := each_and ev fun b m v rb => Dp.reads I b.2 b.1 v (hd b m) rb
  have hbl : bs.length ≤ sizeLine := by simpa using hz
  refine PySem.W.sorted_data (enc := fun b : V × PyData => b.2) hl.isList ev er hal hso hbl (fun b m => ?_) fun out hlen eo => ?_
  · have := hdep b m
    show X.A.units + 2 + b.2.depth < cLine
    omega
  · obtain ⟨ep, he⟩ := PyProof.Rows.sortedAll_at s.heap its out.toArray
    have fr : H (s.heap.objs.size + 1) = none := I.hok.fresh (Nat.le_succ _)
    have vo := vals_each eo
    refine ⟨.ref _, upd H (s.heap.objs.size + 1) (.lst ((bs.mergeSort (PySem.W.dataLe false (·.2))).map (·.1))), I.laid (t' := s.toks) (fun _ _ => PyProof.Rows.sortedAll_old) (Nat.le_succ _) ⟨?_, out, ep, vo, he⟩, rfl, q _ fr⟩
    rw [List.length_map, List.length_mergeSort]
    exact hbl
section
variable {c : Kc} {W : WX} {X : Cx} {H0 F F' H H' : Hp} {env env' : Env} {σ σ' : L2.St} {Q : VK}
theorem toPL_map : ∀ l : List D, toPL l = l.map D.toP
  | [] => rfl
  | d :: l => by simp [toPL, toPL_map l]
theorem pureL_iff {l : List D} : pureL l = true ↔ ∀ d ∈ l, d.pure = true := by
  induction l with
  | nil => simp [pureL]
  | cons d l ih => simp [pureL, ih]
theorem rpl_zip : ∀ {ds : List D} {vs : List V}, RpL c.K c.cm F ds vs → ∀ p ∈ vs.zip ds, Rp c.K c.cm F p.2 p.1
  | [], _, r, p, m => by simp at m
  | d :: ds, _, r, p, m => by
    simp only [RpL] at r
    obtain ⟨v, w, rfl, r1, r2⟩ := r
    rcases List.mem_cons.mp m with rfl | m
    · exact r1
    · exact rpl_zip r2 p m
theorem rpl_of_pairs : ∀ {zs : List (V × D)}, (∀ p ∈ zs, Rp c.K c.cm F p.2 p.1) → RpL c.K c.cm F (zs.map (·.2)) (zs.map (·.1))
  | [], _ => RpL.nil
  | z :: zs, h => RpL.cons (h z List.mem_cons_self) (rpl_of_pairs fun p m => h p (List.mem_cons_of_mem _ m))
/-- sorted(xs): a new list -/
noncomputable def sortF (ra : Env → Out (List D)) (e : Env) : Out (List D) := (ra e).bind fun ds e1 => match ds with
  | [x] => (match lrOf x with
    | some l => if sortOk l = true then .ok (l.mergeSort leD) e1 else .no
    | none => .no)
  | _ => .no
theorem dl_sort {e : Expr} {ra : Env → Out (List D)} (h : PE X e (tCB (rSortD c.K) (tA c W ra))) : PE X e (tF c W (sortF ra)) := h.imp fun σ H Q ⟨H0, F, env, g, q⟩ =>
  ⟨H0, F, env, g, q.seq fun ds e1 F1 H1 s1 q1 vs hv => by
    split at q1
    · rename_i x
      simp only [RpL] at hv
      obtain ⟨v, w, rfl, r1, rfl⟩ := hv
      split at q1
      · rename_i l el
        split at q1
        · rename_i ok
          obtain ⟨a, xs, l', rfl, hq, rl, e2⟩ := lr_rp (f := some) (z := l) (by rw [el]; rfl) r1
          cases e2
          simp only [sortOk, Bool.and_eq_true] at ok
          obtain ⟨⟨⟨o1, o2⟩, o3⟩, o4⟩ := ok
          have hlen := rl.len
          have m1 : (xs.zip (l.map D.toP)).map (·.1) = xs := List.map_fst_zip (by simp; omega)
          have m2 : (xs.zip (l.map D.toP)).map (·.2) = l.map D.toP := List.map_snd_zip (by simp; omega)
          have zm : xs.zip (l.map D.toP) = (xs.zip l).map fun p => (p.1, p.2.toP) := by
            rw [List.zip_map_right]; rfl
          have al : ∀ d ∈ l, ∀ d' ∈ l, PySem.W.alike d.toP d'.toP = true := fun d m d' m' => List.all_eq_true.mp (List.all_eq_true.mp o2 d m) d' m'
          refine ⟨a, xs.zip (l.map D.toP), rfl, by rw [m1]; exact s1.good.le.seq hq, fun b m => ?_, ?_, ?_, fun b m => ?_, fun p hp => ?_⟩
          · rw [zm] at m
            obtain ⟨p, mp, rfl⟩ := List.mem_map.mp m
            exact Rp.dp _ _ (pureL_iff.mp o1 _ (List.of_mem_zip mp).2) (Rp.mono s1.good.le _ _ (rpl_zip rl p mp))
          · rw [m2]
            intro d m d' m'
            obtain ⟨x, mx, rfl⟩ := List.mem_map.mp m
            obtain ⟨y, my, rfl⟩ := List.mem_map.mp m'
            exact al x mx y my
          · rw [m2]
            rw [Bool.or_eq_true] at o3
            rcases o3 with o3 | o3
            · left
              intro d m
              obtain ⟨x, mx, rfl⟩ := List.mem_map.mp m
              have := List.all_eq_true.mp o3 x mx
              split at this
              · exact ⟨_, _, by simp only [D.toP, toPL]; rfl⟩
              · cases this
            · right
              intro d m
              obtain ⟨x, mx, rfl⟩ := List.mem_map.mp m
              have := List.all_eq_true.mp o3 x mx
              have px := pureL_iff.mp o1 x mx
              cases x <;> simp [D.toP, D.pure] at this px ⊢
          · rw [zm] at m
            obtain ⟨p, mp, rfl⟩ := List.mem_map.mp m
            exact of_decide_eq_true (List.all_eq_true.mp o4 _ (List.of_mem_zip mp).2)
          · obtain ⟨g2, ap⟩ := s1.good.lay (o := .lst (((xs.zip (l.map D.toP)).mergeSort (PySem.W.dataLe false (·.2))).map (·.1))) hp
            refine q1 F1 _ ⟨Same.refl _, EnvLe.refl _, g2, fun _ _ _ e => e⟩ _ ⟨p, _, rfl, ap, ?_⟩
            have t1 : ((xs.zip l).mergeSort (fun p q => leD p.2 q.2)).map (fun p => (p.1, p.2.toP)) = (xs.zip (l.map D.toP)).mergeSort (PySem.W.dataLe false (·.2)) := by
              rw [zm]
              exact List.map_mergeSort fun a _ b _ => rfl
            have t2 : ((xs.zip l).mergeSort (fun p q => leD p.2 q.2)).map (·.2) = l.mergeSort leD := by
              have := List.map_mergeSort (f := fun p : V × D => p.2) (r := fun p q => leD p.2 q.2) (s := leD) (l := xs.zip l) (fun a _ b _ => rfl)
              rw [this, List.map_snd_zip (by omega)]
            rw [← t1, List.map_map, ← t2]
            refine rpl_of_pairs fun p m => ?_
            exact rpl_zip rl p ((List.mergeSort_perm _ _).mem_iff.mp m)
        · exact q1.elim
      · exact q1.elim
    · exact q1.elim⟩
noncomputable def joinF (a : Str) (x : D) : Option D := ((seqOf x).bind asS).bind fun (ys : List Str) => if (ys.map (·.length)).sum + ys.length * a.length ≤ 16777216 then some (.str (Txt.join a ys)) else none
noncomputable def joinD (ra rb : Env → Out D) (e : Env) : Out D := (ra e).bind fun x e1 => match x with
  | .str a => (rb e1).bind (pur1 (joinF a))
  | _ => .no
noncomputable def rJoin (K : PySem.W.Frag) : V → List V → Hp → VK → Prop := fun x xs H Q => ∃ a p, ∃ ys : List Str, x = .str a ∧ xs = [.ref p] ∧ (SqL K H p (ys.map V.str) ∨ SqT K H p (ys.map V.str)) ∧ (ys.map (·.length)).sum + ys.length * a.length ≤ 16777216 ∧ Q (.str (Txt.join a ys)) H
theorem dl_join {e : Expr} {ra rb : Env → Out D} (h : PE X e (tM1 (rJoin c.K) (tD c W ra) (tD c W rb))) : PE X e (tD c W (joinD ra rb)) := h.imp fun σ H Q ⟨H0, F, env, g, q⟩ =>
  ⟨H0, F, env, g, q.seq fun x e1 F1 H1 s1 q1 v hv => by
    split at q1
    · rename_i a
      simp only [Rp] at hv
      refine ⟨⟨a, hv⟩, H0, F1, e1, s1.good, q1.seq fun y e2 F2 H2 s2 q2 u hu => ?_⟩
      unfold pur1 at q2
      split at q2
      · rename_i d ed
        obtain ⟨ys, e3, e4⟩ := Option.bind_eq_some_iff.mp ed
        obtain ⟨l, e5, e6⟩ := Option.bind_eq_some_iff.mp e3
        obtain ⟨p, xs, rfl, hq, rl⟩ := seqOf_rp e5 hu
        obtain rfl := asS_eq e6 rl
        split at e4
        · cases e4
          exact ⟨a, p, ys, hv, rfl, sq_mono s2.good.le hq, by assumption, q2.ret s2.good _ (by simp only [Rp])⟩
        · cases e4
      · exact q2.elim
    · exact q1.elim⟩
noncomputable def lexS (xs ys : List Str) : Bool := Ob.lexAt (fun j => decide (xs.getD j ⟨#[]⟩ = ys.getD j ⟨#[]⟩)) (fun j => !ltS (ys.getD j ⟨#[]⟩) (xs.getD j ⟨#[]⟩)) (decide (xs.length ≤ ys.length)) 0 (min xs.length ys.length)
noncomputable def rLeTS (K : PySem.W.Frag) : R2 := fun x y H Q => ∃ (a b : Addr) (xs ys : List Str), x = .ref a ∧ y = .ref b ∧ SqT K H a (xs.map V.str) ∧ SqT K H b (ys.map V.str) ∧ Q (.bl (lexS xs ys)) H
theorem op_leTS {X : Cx} (hu : X.A.units < cLine) : OpR X (compareOp .LtE) (rLeTS X.K) := by
  intro pins s σ H x y v u Q I rx ry ⟨a, b, xs, ys, e1, e2, ha, hb, q⟩
  subst e1 e2
  obtain rfl : v = Value.ref a := rx
  obtain rfl : u = Value.ref b := ry
  obtain ⟨its, r1, p1, _⟩ := I.tuple ha
  obtain ⟨its2, r2, p2, _⟩ := I.tuple hb
  have z1 : its.toArray.size = xs.length := by rw [List.size_toArray, ← r1.length, List.length_map]
  have z2 : its2.toArray.size = ys.length := by rw [List.size_toArray, ← r2.length, List.length_map]
  have look : ∀ {zs : List Str} {ws : List Value}, Vals (zs.map V.str) ws → ∀ j (h : j < ws.toArray.size), ∃ t, ws.toArray[j] = .str (zs.getD j ⟨#[]⟩) t := fun {zs ws} r j h => by
    have hj : j < zs.length := by rw [List.size_toArray, ← r.length, List.length_map] at h; exact h
    obtain ⟨w, h1, h2⟩ := r.get (i := j) (x := .str zs[j]) (by simp [hj])
    obtain ⟨t, rfl⟩ := h2
    refine ⟨t, ?_⟩
    have hw : j < ws.length := by simpa using h
    rw [List.getElem?_eq_getElem hw] at h1
    simp [Option.some.inj h1, hj]
  have R := Ob.RcOp.tuples_le (A := X.A) (s := s) (e := fun j => decide (xs.getD j ⟨#[]⟩ = ys.getD j ⟨#[]⟩)) (r := fun j => !ltS (ys.getD j ⟨#[]⟩) (xs.getD j ⟨#[]⟩)) p1 p2 hu (fun j h1 h2 => by
    obtain ⟨t, et⟩ := look r1 j h1
    obtain ⟨t', et'⟩ := look r2 j h2
    rw [et, et']
    have k := eqAt_V (A := X.A.in1) (s := s) (y := .str (xs.getD j ⟨#[]⟩)) (x := .str (ys.getD j ⟨#[]⟩)) ⟨t, rfl⟩ ⟨t', rfl⟩ rfl rfl
    have z : eqV (.str (xs.getD j ⟨#[]⟩)) (.str (ys.getD j ⟨#[]⟩)) = decide (xs.getD j ⟨#[]⟩ = ys.getD j ⟨#[]⟩) := by
      show ((xs.getD j ⟨#[]⟩) == (ys.getD j ⟨#[]⟩)) = _
      by_cases q : xs.getD j ⟨#[]⟩ = ys.getD j ⟨#[]⟩
      · rw [decide_eq_true q]; exact beq_iff_eq.mpr q
      · rw [decide_eq_false q]; exact beq_eq_false_iff_ne.mpr q
    rw [z] at k
    exact k) (fun j h1 h2 _ => by
    obtain ⟨t, et⟩ := look r1 j h1
    obtain ⟨t', et'⟩ := look r2 j h2
    rw [et, et']
    exact fun _ _ _ _ h => PySem.P.le_str h)
  rw [z1, z2] at R
  exact R _ _ _ _ ⟨.bl _, H, I, rfl, q⟩
noncomputable def leA (x y : D) : Option D := match x, y with
  | .tup a, .tup b => (match asS a, asS b with
    | some xs, some ys => some (.bl (lexS xs ys))
    | _, _ => none)
  | x, y => leF x y
theorem op_leAll {X : Cx} (hu : X.A.units < cLine) : OpR X (compareOp .LtE) (fun x y H Q => rCmpA (fun i j => decide (i ≤ j)) (fun a b => !ltS b a) x y H Q ∨ rLeTS X.K x y H Q) := OpR.or op_leA (op_leTS hu)
theorem prim_leAll : Prim2 c (fun x y H Q => rCmpA (fun i j => decide (i ≤ j)) (fun a b => !ltS b a) x y H Q ∨ rLeTS c.K x y H Q) (pur2 leA) := fun W H0 F H env σ x y v u Q g hx hy q => by
  by_cases ht : ∃ a b, x = .tup a ∧ y = .tup b
  · obtain ⟨a, b, rfl, rfl⟩ := ht
    right
    unfold pur2 leA at q
    dsimp only at q
    cases ea : asS a with
    | none => rw [ea] at q; exact q.elim
    | some xs =>
      cases eb : asS b with
      | none => rw [ea, eb] at q; exact q.elim
      | some ys =>
        rw [ea, eb] at q
        simp only [Rp] at hx hy
        obtain ⟨p, us, rfl, h1, r1⟩ := hx
        obtain ⟨p2, us2, rfl, h2, r2⟩ := hy
        obtain rfl := asS_eq ea r1
        obtain rfl := asS_eq eb r2
        exact ⟨p, p2, xs, ys, rfl, rfl, same_T g.le h1.sq, same_T g.le h2.sq, q.ret g _ (by simp only [Rp])⟩
  · left
    refine prim_cmp W H0 F H env σ x y v u Q g hx hy ?_
    have e : leA x y = leF x y := by
      unfold leA
      split
      · rename_i a b; exact absurd ⟨a, b, rfl, rfl⟩ ht
      · rfl
    unfold pur2 at q ⊢
    rw [e] at q
    exact q
noncomputable def mulA (x y : D) : Option D := match x, y with
  | .lst l, .int k => if decide (-9223372036854775808 ≤ k ∧ k < 9223372036854775808 ∧ l.length * k.toNat ≤ sizeLine) = true then some (.lst (List.replicate k.toNat l).flatten) else none
  | x, y => mulF x y
theorem op_mulA {X : Cx} : OpR X (binaryOp .Mult) (fun x y H Q => rI CMulW (fun i j => .int (i * j)) x y H Q ∨ rRep x y H Q) := OpR.or op_mulW op_rep
theorem rpl_rep {l : List D} {xs : List V} (r : RpL c.K c.cm F l xs) : ∀ k : Nat, RpL c.K c.cm F (List.replicate k l).flatten (List.replicate k xs).flatten
  | 0 => RpL.nil
  | k + 1 => by simp only [List.replicate_succ, List.flatten_cons]; exact r.append (rpl_rep r k)
theorem prim_mulA : Prim2 c (fun x y H Q => rI CMulW (fun i j => .int (i * j)) x y H Q ∨ rRep x y H Q) (pur2 mulA) := fun W H0 F H env σ x y v u Q g hx hy q => by
  by_cases ht : ∃ l k, x = .lst l ∧ y = .int k
  · obtain ⟨l, k, rfl, rfl⟩ := ht
    right
    unfold pur2 mulA at q
    dsimp only at q
    by_cases hk : decide (-9223372036854775808 ≤ k ∧ k < 9223372036854775808 ∧ l.length * k.toNat ≤ sizeLine) = true
    · rw [if_pos hk] at q
      have hk := of_decide_eq_true hk
      simp only [Rp] at hx hy
      obtain ⟨a, xs, rfl, h1, r⟩ := hx
      subst hy
      refine ⟨a, k, xs, rfl, rfl, g.le _ _ h1, by simpa using hk.1, by simpa using hk.2.1, by rw [r.len]; exact hk.2.2, fun p hp => ?_⟩
      have st := g.alloc (o := .lst (List.replicate k.toNat xs).flatten) hp
      refine q _ _ st _ ?_
      simp only [Rp]
      exact ⟨p, _, rfl, upd_same, RpL.mono st.same _ _ (rpl_rep r _)⟩
    · rw [if_neg hk] at q
      exact q.elim
  · left
    refine prim_mul W H0 F H env σ x y v u Q g hx hy ?_
    have e : mulA x y = mulF x y := by
      unfold mulA
      split
      · rename_i l k; exact absurd ⟨l, k, rfl, rfl⟩ ht
      · rfl
    unfold pur2 at q ⊢
    rw [e] at q
    exact q
/-- what the text's classes are -/
structure ClsOk (K : PySem.W.Frag) (C : Addr) : Prop where
  cl : Cls K C
  ha : PySem.W.findIn K (.ref C) "__class__" = some (some (.builtin "object.__class__"))
  hn : PySem.W.specialIn K (.builtin "object.__class__") "__get__" = some (some (.builtin "getset_descriptor.__get__"))
  htk : PySem.W.takesIn K (.builtin "object.__class__") = some true
  hm : PySem.W.mroIn K C (.type "object") = some true
noncomputable def tyName : D → Option String
  | .non => some "NoneType"
  | .bl _ => some "bool"
  | .int _ => some "int"
  | .str _ => some "str"
  | .tup _ => some "tuple"
  | .tu _ => some "tuple"
  | .lst _ => some "list"
  | .ro _ => some "list"
  | .dK _ _ => some "dict"
  | .dT _ _ => none
  | .obj _ _ _ => none
theorem ty_rp {d : D} {v : V} {n : String} (g : c.Good H0 F env σ H) (h : tyName d = some n) (r : Rp c.K c.cm F d v) : TyX c.K H v (.type n) := by
  cases d with
  | non => simp only [Rp] at r; subst r; cases h; exact .base .non
  | bl b => simp only [Rp] at r; subst r; cases h; exact .base (.bl b)
  | int b => simp only [Rp] at r; subst r; cases h; exact .base (.int b)
  | str b => simp only [Rp] at r; subst r; cases h; exact .base (.str b)
  | tup l =>
    simp only [Rp] at r
    obtain ⟨a, xs, rfl, q, _⟩ := r
    cases h
    rcases same_T g.le q.sq with (q | ⟨o, q⟩) | ⟨o, its, n, k1, k2, _⟩
    · exact .base (.tup q)
    · exact .fTuple q
    · exact .kTuple k1 k2
  | tu l =>
    simp only [Rp] at r
    obtain ⟨a, xs, rfl, q, _⟩ := r
    cases h
    rcases same_T g.le q with (q | ⟨o, q⟩) | ⟨o, its, n, k1, k2, _⟩
    · exact .base (.tup q)
    · exact .fTuple q
    · exact .kTuple k1 k2
  | lst l => simp only [Rp] at r; obtain ⟨a, xs, rfl, q, _⟩ := r; cases h; exact .base (.lst (g.le _ _ q))
  | ro l =>
    simp only [Rp] at r
    obtain ⟨a, xs, rfl, q, _⟩ := r
    cases h
    rcases g.le.seq q with (q | ⟨o, q⟩) | ⟨o, its, n, k1, k2, _⟩
    · exact .base (.lst q)
    · exact .base (.frz q)
    · exact .kList k1 k2
  | dK _ _ => simp only [Rp] at r; obtain ⟨a, xs, od, rfl, q, _⟩ := r; cases h; exact .fDict (g.le _ _ q)
  | dT _ _ => cases h
  | obj _ _ _ => cases h
/-- isinstance(x, T), T a built-in class or one of the text's; k: what the library says of each kind -/
noncomputable def isiD (kb : String → Option Bool) (ko : Str → Option Bool) (ra : Env → Out D) (e : Env) : Out D := (ra e).bind fun x e1 => match x with
  | .obj cn _ _ => (match ko cn with | some b => .ok (.bl b) e1 | none => .no)
  | x => (match (tyName x).bind kb with | some b => .ok (.bl b) e1 | none => .no)
theorem dl_isi {e : Expr} {kb : String → Option Bool} {ko : Str → Option Bool} {ra : Env → Out D} {cv : V} {cu : Value} (hc : ClsV cv cu) (h : PE X e (tCB (rIsi c.K) (tCons (tD c W ra) (tCons (tC cv) tNil))))
    (hb : ∀ n b, kb n = some b → PySem.W.kitOne c.K (.type n) cu = some b) (ho : ∀ cn b C, ko cn = some b → c.cm cn = some C → ClsOk c.K C ∧ PySem.W.kitOne c.K (.ref C) cu = some b) : PE X e (tD c W (isiD kb ko ra)) := h.imp fun σ H Q ⟨H0, F, env, g, q⟩ =>
  ⟨H0, F, env, g, q.seq fun x e1 F1 H1 s1 q1 v hv => by
    show rIsi c.K [v, cv] H1 Q
    split at q1
    · split at q1
      · rename_i b eb
        simp only [Rp] at hv
        obtain ⟨a, dx, C, fs, rfl, hC, h1, h2, h3, r⟩ := hv
        obtain ⟨ok, kk⟩ := ho _ _ C eb hC
        exact ⟨_, cv, _, cu, b, rfl, hc, .base (.ins (s1.good.le _ _ h1) ok.cl ok.ha ok.hn ok.htk ok.hm), kk, q1.ret s1.good _ (by simp only [Rp])⟩
      · exact q1.elim
    · split at q1
      · rename_i b eb
        obtain ⟨n, en, ek⟩ := Option.bind_eq_some_iff.mp eb
        exact ⟨_, cv, _, cu, b, rfl, hc, ty_rp s1.good en hv, hb _ _ ek, q1.ret s1.good _ (by simp only [Rp])⟩
      · exact q1.elim⟩
end
end DL
namespace DL
open PySem PySem.Spec PyProof.Rows L2
/-- what a call of the value cl does in this context: n positional values, keywords named ks -/
structure Runs (X : Cx) (cl : Value) (n : Nat) (ks : List Str) (sp : L2.St → List V → List V → Hp → VK → Prop) : Prop where
  run : ∀ (pins : List (Addr × Obj)) (s : Shared) (σ : L2.St) (H : Hp) (Q : VK) (vs : List V) (us : List Value) (zs : List V) (ws : List Value), Inv X pins σ H s → Vals vs us → Vals zs ws → vs.length = n → zs.length = ks.length → sp σ vs zs H Q →
    wpAny (model X.prog X.w) X.A (call cl us (ks.zip ws)) (EP X pins σ Q) X.xe s
section
variable {X : Cx} {x m : Str} {p pos apos : Pos} {e o : Expr} {es : List Expr} {kws : List Keyword} {t tk : TA} {ta : TE} {n : Nat} {ks : List Str} {sp : L2.St → List V → List V → Hp → VK → Prop} {f C : Addr}
noncomputable def tRuns (n m : Nat) (sp : L2.St → List V → List V → Hp → VK → Prop) (t tk : TA) : TE := fun σ H Q => t σ H fun vs H1 => tk σ H1 fun zs H2 => vs.length = n ∧ zs.length = m ∧ sp σ vs zs H2 Q
/-- f(e, ..), a global -/
theorem pr_call (R : Runs X (.ref f) n [] sp) (hg : Gl X x) (hm : X.mg x = some (.ref f)) (hk : PySem.W.keepIn X.K (.ref f) = true) (ha : PA X (e :: es) t)
    (hdb : (x == ("__debug__" : Str)) = false) (he : starEach (e :: es) X.env = (false, eval e X.env) :: starEach es X.env) (hpl : (backTo pos (starEach es X.env)).any (·.1) = false) :
    PE X (.Call (.Name x p) (e :: es) [] pos) (tRuns n 0 sp t tNil) := ⟨fun pins s σ H Q I h =>
  wpAny_Call_Name_kw (ld_glob I hg hm (PySem.W.callWith_K (h₀ := X.base) I.ok.mod.kin hk (thn (ha.run pos pins s σ H _ I h) fun us s1 ⟨vs, H1, I1, r, l1, l2, q⟩ => ⟨I1.kIn, R.run pins s1 σ H1 Q vs us [] [] I1 r .nil l1 l2 q⟩) he hpl) hdb)⟩
/-- f(e, .., k = v, ..) -/
theorem pr_callK (R : Runs X (.ref f) n ks sp) (hg : Gl X x) (hm : X.mg x = some (.ref f)) (hk : PySem.W.keepIn X.K (.ref f) = true) (ha : PA X (e :: es) t) (hkw : PK X kws tk)
    (hall : (backToKw pos (keywordEach kws X.env)).all (·.1.isSome) = true) (hks : (backToKw pos (keywordEach kws X.env)).filterMap (·.1) = ks)
    (hdb : (x == ("__debug__" : Str)) = false) (he : starEach (e :: es) X.env = (false, eval e X.env) :: starEach es X.env)
    (hpl : ((backTo pos (starEach (e :: es) X.env)).any (·.1) || (backToKw pos (keywordEach kws X.env)).any (·.1.isNone)) = false) :
    PE X (.Call (.Name x p) (e :: es) kws pos) (tRuns n ks.length sp t tk) := ⟨fun pins s σ H Q I h =>
  wpAny_Call_Name_kw (ld_glob I hg hm (PySem.W.callWith_KW (h₀ := X.base) I.ok.mod.kin hk hall (thn (ha.run pos pins s σ H _ I h) fun us s1 ⟨vs, H1, I1, r, q⟩ =>
    thn (hkw.run pos pins s1 σ H1 _ I1 q) fun ws s2 ⟨zs, H2, I2, rz, l1, l2, q2⟩ => ⟨I2.kIn, by rw [hks]; exact R.run pins s2 σ H2 Q vs us zs ws I2 r rz l1 l2 q2⟩) hpl he) hdb)⟩
theorem pr_callK0 (R : Runs X (.ref f) 0 ks sp) (hg : Gl X x) (hm : X.mg x = some (.ref f)) (hk : PySem.W.keepIn X.K (.ref f) = true) (hkw : PK X kws tk)
    (hall : (backToKw pos (keywordEach kws X.env)).all (·.1.isSome) = true) (hks : (backToKw pos (keywordEach kws X.env)).filterMap (·.1) = ks) (hdb : (x == ("__debug__" : Str)) = false)
    (hpl : ((backTo pos (starEach [] X.env)).any (·.1) || (backToKw pos (keywordEach kws X.env)).any (·.1.isNone)) = false) :
    PE X (.Call (.Name x p) [] kws pos) (tRuns 0 ks.length sp tNil tk) := ⟨fun pins s σ H Q I h =>
  wpAny_Call_Name_kw (ld_glob I hg hm (PySem.W.callWith_KW0 (h₀ := X.base) I.ok.mod.kin hk hall
    (thn (hkw.run pos pins s σ H _ I h) fun ws s2 ⟨zs, H2, I2, rz, l1, l2, q2⟩ => ⟨I2.kIn, by rw [hks]; exact R.run pins s2 σ H2 Q [] [] zs ws I2 .nil rz l1 l2 q2⟩) hpl) hdb)⟩
/-- o.m(e, ..), m a def of o's class -/
noncomputable def tRunM (C : Addr) (m : Str) (n : Nat) (sp : L2.St → List V → List V → Hp → VK → Prop) (ta : TE) (t : TA) : TE := fun σ H Q => ta σ H fun x H1 => ∃ a dx fs, x = .ref a ∧ H1 a = some (.ins C dx fs) ∧ fs.lookup m = none ∧
  t σ H1 fun vs H2 => vs.length = n ∧ sp σ (x :: vs) [] H2 Q
theorem pr_meth {pl : Sem Bool} (he : PE X o ta) (cl : Cls X.K C) (hm : Meth X.K C m f) (R : Runs X (.ref f) (n + 1) [] sp) (ha : PA X (e :: es) t)
    (hst : starEach (e :: es) X.env = (false, eval e X.env) :: starEach es X.env) (hpl : (backTo pos (starEach es X.env)).any (·.1) = false)
    (ht : eval (.Call (.Attribute o m apos) (e :: es) [] pos) X.env = (do
      let ov ← eval o X.env
      standAt apos.atName
      let (f, first) ← holding [ov] (getMethod ov m pl)
      callWith pos f first (backTo pos (starEach (e :: es) X.env)) (backToKw pos (keywordEach [] X.env)))) :
    PE X (.Call (.Attribute o m apos) (e :: es) [] pos) (tRunM C m n sp ta t) := ⟨fun pins s σ H Q I h => by
  refine PySem.W.methodCall_KW (pl := pl) (thn (he.run pins s σ H _ I h) fun u s1 ⟨xv, H1, I1, rx, a, dx, fs, ex, ea, l, q⟩ => ?_) ht
  subst ex
  obtain rfl : u = Value.ref a := rx
  exact getmeth_ok I1 ea cl hm l (PySem.W.callWith_K (first := [.ref a]) (h₀ := X.base) I.ok.mod.kin hm.kp (thn (ha.run pos pins s1 σ H1 _ I1 q) fun us s2 ⟨vs, H2, I2, r, l1, q2⟩ =>
    ⟨I2.kIn, R.run pins s2 σ H2 Q (.ref a :: vs) (.ref a :: us) [] [] I2 (.cons rfl r) .nil (by simp [l1]) rfl q2⟩) hst hpl)⟩
end
section
variable (c : Kc)
/-- args: what is handed in, data or objects of the caller's own -/
noncomputable def noOwn (svs : List SV) : Bool := svs.all fun s => match s with
  | .own _ => false
  | _ => true
noncomputable def spF (fn : List SV → Out D) : Sp := fun vs H Q E => ∃ F svs, c.Good H F svs (vs.map some) H ∧ noOwn svs = true ∧ match fn svs with
  | .no => False
  | .ok d svs' => ∀ F' H', StepS c H F svs (vs.map some) F' svs' (vs.map some) H' → ∀ v, Rp c.K c.cm F' d v → Q v H'
  | .ex x svs' => ∀ F' H' cl dx, StepS c H F svs (vs.map some) F' svs' (vs.map some) H' → XRep c F' H' x cl dx → E cl dx H'
/-- the arguments behind the call: the caller's own objects as they are left -/
noncomputable def backA : List SV → Env → List SV
  | [], _ => []
  | .bor o :: r, x :: e => x :: backA r e
  | s :: r, _ :: e => s :: backA r e
  | s :: r, [] => s :: r
/-- a def's value by its body -/
noncomputable def fnOf (n tot : Nat) (rb : Env → Out Fl) (svs : List SV) : Out D := if svs.length = n then (match rb (svs ++ List.replicate (tot - n) .un) with
    | .ok .nx e => .ok .non (backA svs e)
    | .ok (.rt d) e => .ok d (backA svs e)
    | .ex x e => .ex x (backA svs e)
    | _ => .no) else .no
end
section
variable {c : Kc} {W : WX} {X : Cx} {H0 F F' H H' : Hp} {env env' : Env} {σ σ' : L2.St} {Q : VK}
theorem Good.args {svs : List SV} {vs : List V} (g : c.Good H0 F svs (vs.map some) H) (N : List Str) (m : Nat) (hm : N.length - vs.length = m) : c.Good H0 F (svs ++ List.replicate m .un) (L2.start N vs) H := by
  have hl : svs.length = vs.length := by simpa using g.len.symm
  have look : ∀ {i : Nat} {sv : SV}, (svs ++ List.replicate m SV.un)[i]? = some sv → (i < vs.length ∧ svs[i]? = some sv ∧ (L2.start N vs)[i]? = (vs.map some)[i]?) ∨ sv = .un := fun {i sv} e => by
    by_cases hi : i < svs.length
    · rw [List.getElem?_append_left hi] at e
      exact .inl ⟨by omega, e, by unfold L2.start; rw [List.getElem?_append_left (by simp; omega)]⟩
    · rw [List.getElem?_append_right (by omega)] at e
      have := List.mem_of_getElem? e
      exact .inr (List.eq_of_mem_replicate this)
  refine ⟨g.le, by unfold L2.start; simp [hl, hm], fun i sv e => ?_, fun i j sv tv a n e1 e2 o1 o2 r => ?_, fun a u e z => g.frame a u e fun i sv e1 sb => ?_, fun i o a e z => ?_⟩
  · rcases look e with ⟨_, e, q⟩ | rfl
    · rw [q]; exact g.slot i sv e
    · trivial
  · rcases look e1 with ⟨_, e1, q1⟩ | rfl
    · rcases look e2 with ⟨_, e2, q2⟩ | rfl
      · rw [q1] at r; rw [q2]; exact g.sep i j sv tv a n e1 e2 o1 o2 r
      · cases o2
    · cases o1
  · have hi : i < svs.length := (List.getElem?_eq_some_iff.mp e1).1
    have := z i sv (by rw [List.getElem?_append_left hi]; exact e1) sb
    unfold L2.start at this
    rwa [List.getElem?_append_left (by simp; omega)] at this
  · rcases look e with ⟨_, e, q⟩ | q
    · rw [q] at z; exact g.fresh i o a e z
    · cases q
theorem backA_len : ∀ (svs : List SV) (e : Env), (backA svs e).length = svs.length
  | [], _ => rfl
  | s :: r, [] => by cases s <;> rfl
  | s :: r, x :: e => by cases s <;> simp [backA, backA_len r e]
theorem backA_at : ∀ {svs : List SV} {e : Env} {i : Nat} {s : SV}, svs[i]? = some s → i < e.length → (backA svs e)[i]? = some (if s.isB = true then e.getD i .un else s)
  | [], _, i, _, h, _ => by simp at h
  | t :: r, [], i, _, _, h => by simp at h
  | t :: r, x :: e, 0, s, h, _ => by simp at h; subst h; cases t <;> simp [backA, SV.isB]
  | t :: r, x :: e, i + 1, s, h, hl => by
    have h1 : r[i]? = some s := by simpa using h
    have := backA_at (e := e) h1 (by simpa using hl)
    cases t <;> simpa [backA] using this
/-- from the slots at the body's end back to the parameters -/
theorem StepS.toArgs {svs : List SV} {vs : List V} {N : List Str} {m : Nat} {e : Env} (g : c.Good H F svs (vs.map some) H) (no : noOwn svs = true)
    (s : StepS c H F (svs ++ List.replicate m .un) (L2.start N vs) F' e σ' H') : StepS c H F svs (vs.map some) F' (backA svs e) (vs.map some) H' := by
  have hl : svs.length = vs.length := by simpa using g.len.symm
  have hle : svs.length ≤ e.length := by rw [s.len]; simp
  have look : ∀ {i : Nat} {tv : SV}, (backA svs e)[i]? = some tv → (∃ o, svs[i]? = some (.bor o) ∧ e[i]? = some tv ∧ tv.isB = true ∧ σ'[i]? = (vs.map some)[i]?) ∨ (svs[i]? = some tv ∧ tv.isO = false) := fun {i tv} q => by
    have hi : i < svs.length := by rw [← backA_len svs e]; exact (List.getElem?_eq_some_iff.mp q).1
    have e0 : svs[i]? = some svs[i] := by simp [hi]
    have e1 := backA_at (e := e) e0 (by omega)
    rw [q] at e1
    have e1 := Option.some.inj e1
    cases hs : svs[i] with
    | bor o =>
      rw [hs] at e0 e1
      obtain ⟨⟨o', eb⟩, qs⟩ := s.bor i o (by rw [List.getElem?_append_left hi]; exact e0)
      have e2 : tv = .bor o' := by
        rw [e1]
        simp [SV.isB, eb]
      left
      refine ⟨o, e0, by rw [e2]; exact eb, by rw [e2]; rfl, ?_⟩
      rw [qs]
      unfold L2.start
      rw [List.getElem?_append_left (by simp; omega)]
    | own o =>
      have := List.all_eq_true.mp no _ (List.mem_of_getElem? e0)
      rw [hs] at this
      cases this
    | un => rw [hs] at e0 e1; right; rw [e1]; exact ⟨e0, rfl⟩
    | dat d => rw [hs] at e0 e1; right; rw [e1]; exact ⟨e0, rfl⟩
    | exc d => rw [hs] at e0 e1; right; rw [e1]; exact ⟨e0, rfl⟩
  refine ⟨s.same, ⟨s.good.le, by rw [backA_len]; exact g.len, fun i tv q => ?_, fun i j tv uv a n q1 q2 o1 o2 r => ?_, fun a u h0 z => s.good.frame a u h0 fun i sv e1 sb => ?_, fun i o a q z => ?_⟩, s.old, backA_len _ _, fun i o q => ?_, fun i o q => ?_⟩
  · rcases look q with ⟨o, _, q1, _, q2⟩ | ⟨q1, no⟩
    · rw [← q2]; exact s.good.slot i tv q1
    · have := g.slot i tv q1
      cases tv with
      | un => trivial
      | dat d => obtain ⟨v, h1, h2⟩ := this; exact ⟨v, h1, Rp.mono s.same _ _ h2⟩
      | exc x => obtain ⟨b, cl, dx, h1, h2, h3⟩ := this; exact ⟨b, cl, dx, h1, h2, h3.mono s.same⟩
      | own o => cases no
      | bor o => cases no
  · rcases look q1 with ⟨_, _, w1, _, z1⟩ | ⟨_, no⟩
    · rcases look q2 with ⟨_, _, w2, _, z2⟩ | ⟨_, no⟩
      · rw [← z1] at r; rw [← z2]; exact s.good.sep i j tv uv a n w1 w2 o1 o2 r
      · rw [o2] at no; cases no
    · rw [o1] at no; cases no
  · have e1' : e[i]? = some sv := e1
    obtain ⟨ox, hx⟩ : ∃ o, sv = .bor o := by cases sv <;> first | exact ⟨_, rfl⟩ | cases sb
    subst hx
    obtain ⟨o', q1⟩ := s.rob i _ e1'
    have hi : i < svs.length := by
      by_cases hi : i < svs.length
      · exact hi
      · rw [List.getElem?_append_right (by omega)] at q1
        have := List.eq_of_mem_replicate (List.mem_of_getElem? q1)
        cases this
    rw [List.getElem?_append_left hi] at q1
    have q2 := backA_at (e := e) q1 (by omega)
    have q3 : (backA svs e)[i]? = some (.bor ox) := by rw [q2]; simp [SV.isB, e1']
    have q4 := z i _ q3 rfl
    rcases look q3 with ⟨_, _, _, _, z2⟩ | ⟨_, no⟩
    · rw [z2]; exact q4
    · cases no
  · rcases look q with ⟨_, _, _, b, _⟩ | ⟨_, no⟩
    · cases b
    · cases no
  · have hi : i < svs.length := (List.getElem?_eq_some_iff.mp q).1
    obtain ⟨⟨o', eb⟩, _⟩ := s.bor i o (by rw [List.getElem?_append_left hi]; exact q)
    have q2 := backA_at (e := e) q (by omega)
    exact ⟨⟨o', by rw [q2]; simp [SV.isB, eb]⟩, rfl⟩
  · rcases look q with ⟨o', q1, _, _, _⟩ | ⟨_, no⟩
    · exact ⟨o', q1⟩
    · cases no
/-- THE rule for a def: its body's canonical reading gives what it is worth -/
theorem body_of {svs : List SV} {vs : List V} {N : List Str} {n : Nat} {rb : Env → Out Fl} {fn : List SV → Out D} {Q : VK} {E : XK} (hW : W = fun _ => E) (hn : vs.length = n)
    (hf : ∀ svs, fn svs ≠ .no → fnOf n N.length rb svs = fn svs)
    (g : c.Good H F svs (vs.map some) H) (no : noOwn svs = true) (h : match fn svs with
      | .no => False
      | .ok d svs' => ∀ F' H', StepS c H F svs (vs.map some) F' svs' (vs.map some) H' → ∀ v, Rp c.K c.cm F' d v → Q v H'
      | .ex x svs' => ∀ F' H' cl dx, StepS c H F svs (vs.map some) F' svs' (vs.map some) H' → XRep c F' H' x cl dx → E cl dx H') :
    tS c W rb { nx := fun _ H' => Q .non H', rt := Q } (L2.start N vs) H := by
  subst hW
  have nn : fn svs ≠ .no := fun e => by rw [e] at h; exact h
  have hl : svs.length = n := by rw [← hn]; simpa using g.len.symm
  rw [← hf svs nn] at h
  unfold fnOf at h
  rw [if_pos hl] at h
  refine ⟨H, F, _, g.args N (N.length - n) (by rw [hn]), ?_⟩
  cases hr : rb (svs ++ List.replicate (N.length - n) .un) with
  | no => rw [hr] at h; exact h
  | ex x e =>
    rw [hr] at h
    exact fun σ' F' H' cl dx st => h F' H' cl dx (st.toArgs g no)
  | ok fl e =>
    rw [hr] at h
    cases fl with
    | nx => exact fun σ' F' H' st => h F' H' (st.toArgs g no) _ (by simp only [Rp])
    | rt d => exact fun σ' F' H' st => h F' H' (st.toArgs g no)
    | bk => exact h.elim
    | ct => exact h.elim
end
end DL
namespace DL
open PySem PySem.Spec PyProof.Rows L2
/-- an argument: data, or an own object by its slot -/
inductive It where
  | d (x : D)
  | r (i : Nat)
section
variable (c : Kc)
noncomputable def ovOf : Option SV → Option OV
  | some (.own o) => some o
  | some (.bor o) => some o
  | _ => none
noncomputable def ItsOk (F : Hp) (env : Env) (σ : L2.St) : List It → List V → Prop
  | [], vs => vs = []
  | .d x :: its, vs => ∃ v r, vs = v :: r ∧ Rp c.K c.cm F x v ∧ ItsOk F env σ its r
  | .r i :: its, vs => ∃ v r, vs = v :: r ∧ σ[i]? = some (some v) ∧ (∃ o, ovOf env[i]? = some o) ∧ ItsOk F env σ its r
noncomputable def tR (W : WX) (r : Env → Out (List It)) : TA := fun σ H Q => ∃ H0 F env, c.Good H0 F env σ H ∧ Res c W H0 F env σ (r env) fun its e F' H' => ∀ vs, ItsOk c F' e σ its vs → Q vs H'
end
section
variable {c : Kc} {W : WX} {X : Cx} {H0 F F' H H' : Hp} {env env' : Env} {σ σ' : L2.St} {Q : VK}
noncomputable def nilR (e : Env) : Out (List It) := .ok [] e
noncomputable def consRd (ra : Env → Out D) (rr : Env → Out (List It)) (e : Env) : Out (List It) := (ra e).bind fun x e1 => (rr e1).bind fun xs e2 => .ok (.d x :: xs) e2
/-- an own object by its name: it must be one yet when the call is made -/
noncomputable def consRr (i : Nat) (rr : Env → Out (List It)) (e : Env) : Out (List It) := match ovOf e[i]? with
  | none => .no
  | some _ => (rr e).bind fun xs e2 => match ovOf e2[i]? with
    | none => .no
    | some _ => .ok (.r i :: xs) e2
theorem tR_nil : PA X [] (tR c W nilR) := pa_nil.imp fun σ H Q ⟨H0, F, env, g, q⟩ => q.ret g [] rfl
theorem tR_d {e : Expr} {es : List Expr} {ra : Env → Out D} {rr : Env → Out (List It)} (h : PA X (e :: es) (tCons (tD c W ra) (tR c W rr))) : PA X (e :: es) (tR c W (consRd ra rr)) := h.imp fun σ H Q ⟨H0, F, env, g, q⟩ =>
  ⟨H0, F, env, g, q.seq fun x e1 F1 H1 s1 q1 v hv => ⟨H0, F1, e1, s1.good, q1.seq fun xs e2 F2 H2 s2 q2 vs hvs => q2.ret s2.good (v :: vs) ⟨v, vs, rfl, Rp.mono s2.same _ _ hv, hvs⟩⟩⟩
theorem tR_r {e : Expr} {es : List Expr} {i : Nat} {rr : Env → Out (List It)} (h : PA X (e :: es) (tCons (tVar i) (tR c W rr))) : PA X (e :: es) (tR c W (consRr i rr)) := h.imp fun σ H Q ⟨H0, F, env, g, q⟩ => by
  unfold consRr at q
  split at q
  · exact q.elim
  · rename_i o eo
    have ha : ∃ v, σ[i]? = some (some v) := by
      cases e : env[i]? with
      | none => rw [e] at eo; cases eo
      | some sv =>
        rw [e] at eo
        have so : sv.isO = true := by cases sv <;> first | rfl | cases eo
        obtain ⟨a, _, _, h1, _⟩ := g.at_own e so
        exact ⟨_, h1⟩
    obtain ⟨v, ha⟩ := ha
    refine ⟨v, ha, H0, F, env, g, q.seq fun xs e2 F2 H2 s2 q2 vs hvs => ?_⟩
    split at q2
    · exact q2.elim
    · rename_i o2 eo2
      exact q2.ret s2.good (v :: vs) ⟨v, vs, rfl, ha, ⟨o2, eo2⟩, hvs⟩
/-- keywords' values, data alone -/
theorem _root_.L2.PK.imp {X : Cx} {e : List Keyword} {t t' : TA} (h : PK X e t) (i : ∀ σ H Q, t' σ H Q → t σ H Q) : PK X e t' := ⟨fun pos pins s σ H Q I q => h.run pos pins s σ H Q I (i σ H Q q)⟩
theorem tK_nil : PK X [] (tR c W nilR) := pk_nil.imp fun σ H Q ⟨H0, F, env, g, q⟩ => q.ret g [] rfl
theorem tK_d {k : Keyword} {ks : List Keyword} {ra : Env → Out D} {rr : Env → Out (List It)} (h : PK X (k :: ks) (tCons (tD c W ra) (tR c W rr))) : PK X (k :: ks) (tR c W (consRd ra rr)) := h.imp fun σ H Q ⟨H0, F, env, g, q⟩ =>
  ⟨H0, F, env, g, q.seq fun x e1 F1 H1 s1 q1 v hv => ⟨H0, F1, e1, s1.good, q1.seq fun xs e2 F2 H2 s2 q2 vs hvs => q2.ret s2.good (v :: vs) ⟨v, vs, rfl, Rp.mono s2.same _ _ hv, hvs⟩⟩⟩
/-- what the def is handed -/
noncomputable def svsOf (e : Env) : List It → List SV
  | [] => []
  | .d x :: r => .dat x :: svsOf e r
  | .r i :: r => (match ovOf e[i]? with | some o => SV.bor o | none => .un) :: svsOf e r
noncomputable def refsOf : List It → List Nat
  | [] => []
  | .d _ :: r => refsOf r
  | .r i :: r => i :: refsOf r
/-- what it leaves in the own objects -/
noncomputable def putBack : List It → List SV → Env → Env
  | .d _ :: r, _ :: s, e => putBack r s e
  | .r i :: r, .bor o :: s, e => putBack r s (match putOv i o e with | some e' => e' | none => e)
  | .r _ :: r, _ :: s, e => putBack r s e
  | _, _, e => e
noncomputable def nodupB (l : List Nat) : Bool := match l with
  | [] => true
  | x :: r => !r.contains x && nodupB r
noncomputable def fnCall (fn : List SV → Out D) (its : List It) (e : Env) : Out D := if nodupB (refsOf its) = true then (match fn (svsOf e its) with
    | .no => .no
    | .ok d svs' => .ok d (putBack its svs' e)
    | .ex x svs' => .ex x (putBack its svs' e)) else .no
theorem nodupB_iff : ∀ {l : List Nat}, nodupB l = true → l.Nodup
  | [], _ => List.nodup_nil
  | x :: r, h => by
    simp only [nodupB, Bool.and_eq_true, Bool.not_eq_true'] at h
    refine List.nodup_cons.mpr ⟨fun m => ?_, nodupB_iff h.2⟩
    have := List.contains_iff_mem.mpr m
    rw [h.1] at this; cases this
theorem its_len : ∀ {its : List It} {vs : List V}, ItsOk c F env σ its vs → vs.length = its.length
  | [], _, h => by rw [show _ = [] from h]; rfl
  | .d _ :: its, _, ⟨v, r, e, _, t⟩ => by rw [e]; simp [its_len t]
  | .r _ :: its, _, ⟨v, r, e, _, _, t⟩ => by rw [e]; simp [its_len t]
theorem svs_len (e : Env) : ∀ its : List It, (svsOf e its).length = its.length
  | [] => rfl
  | .d _ :: r => by simp [svsOf, svs_len e r]
  | .r _ :: r => by simp [svsOf, svs_len e r]
theorem svs_noOwn (e : Env) : ∀ its : List It, noOwn (svsOf e its) = true
  | [] => rfl
  | .d _ :: r => svs_noOwn e r
  | .r i :: r => by
    have := svs_noOwn e r
    simp only [svsOf, noOwn, List.all_cons, Bool.and_eq_true] at this ⊢
    refine ⟨?_, this⟩
    cases ovOf e[i]? <;> rfl
/-- the k-th argument -/
theorem its_at : ∀ {its : List It} {vs : List V} {k : Nat} {it : It}, ItsOk c F env σ its vs → its[k]? = some it → ∃ v, vs[k]? = some v ∧ match it with
    | .d x => Rp c.K c.cm F x v ∧ (svsOf env its)[k]? = some (.dat x)
    | .r i => σ[i]? = some (some v) ∧ ∃ o, ovOf env[i]? = some o ∧ (svsOf env its)[k]? = some (.bor o)
  | [], _, k, _, _, e => by simp at e
  | .d x :: its, _, 0, it, ⟨v, r, e, h, t⟩, e1 => by simp at e1; subst e1; subst e; exact ⟨v, rfl, h, rfl⟩
  | .r i :: its, _, 0, it, ⟨v, r, e, h, ⟨o, ho⟩, t⟩, e1 => by simp at e1; subst e1; subst e; exact ⟨v, rfl, h, o, ho, by simp [svsOf, ho]⟩
  | .d x :: its, _, k + 1, it, ⟨v, r, e, h, t⟩, e1 => by
    subst e
    obtain ⟨w, h1, h2⟩ := its_at t (k := k) (it := it) (by simpa using e1)
    exact ⟨w, by simpa using h1, by cases it <;> simpa [svsOf] using h2⟩
  | .r i :: its, _, k + 1, it, ⟨v, r, e, h, _, t⟩, e1 => by
    subst e
    obtain ⟨w, h1, h2⟩ := its_at t (k := k) (it := it) (by simpa using e1)
    exact ⟨w, by simpa using h1, by cases it <;> simpa [svsOf] using h2⟩
theorem refs_at : ∀ {its : List It} {i j k l : Nat}, (refsOf its).Nodup → its[k]? = some (.r i) → its[l]? = some (.r j) → k ≠ l → i ≠ j
  | [], _, _, k, _, _, e, _, _ => by simp at e
  | it :: its, i, j, k, l, nd, e1, e2, hn => by
    have mem : ∀ {its : List It} {i k : Nat}, its[k]? = some (.r i) → i ∈ refsOf its := fun {its} => by
      induction its with
      | nil => intro i k e; simp at e
      | cons t its ih =>
        intro i k e
        cases k with
        | zero => simp at e; subst e; exact List.mem_cons_self
        | succ k =>
          have := ih (i := i) (k := k) (by simpa using e)
          cases t with
          | d x => exact this
          | r x => exact List.mem_cons_of_mem _ this
    have tl : (refsOf its).Nodup := by cases it with
      | d x => exact nd
      | r x => exact (List.nodup_cons.mp nd).2
    cases k with
    | zero =>
      cases l with
      | zero => exact absurd rfl hn
      | succ l =>
        simp at e1; subst e1
        have := mem (its := its) (i := j) (k := l) (by simpa using e2)
        exact fun z => (List.nodup_cons.mp nd).1 (z ▸ this)
    | succ k =>
      cases l with
      | zero =>
        simp at e2; subst e2
        have := mem (its := its) (i := i) (k := k) (by simpa using e1)
        exact fun z => (List.nodup_cons.mp nd).1 (z ▸ this)
      | succ l => exact refs_at tl (by simpa using e1) (by simpa using e2) fun z => hn (by rw [z])
/-- the callee's slots are good -/
theorem Good.handed {its : List It} {vs : List V} (g : c.Good H0 F env σ H) (h : ItsOk c F env σ its vs) (nd : (refsOf its).Nodup) : c.Good H F (svsOf env its) (vs.map some) H := by
  have hl := its_len h
  have look : ∀ {k : Nat} {sv : SV}, (svsOf env its)[k]? = some sv → ∃ it v, its[k]? = some it ∧ vs[k]? = some v ∧ (vs.map some)[k]? = some (some v) ∧ match it with
      | .d x => Rp c.K c.cm F x v ∧ sv = .dat x
      | .r i => σ[i]? = some (some v) ∧ ∃ o, ovOf env[i]? = some o ∧ sv = .bor o := fun {k sv} e => by
    have hk : k < its.length := by rw [← svs_len env its]; exact (List.getElem?_eq_some_iff.mp e).1
    obtain ⟨v, h1, h2⟩ := its_at h (k := k) (it := its[k]) (by simp [hk])
    refine ⟨its[k], v, by simp [hk], h1, by simp [h1], ?_⟩
    cases hit : its[k] with
    | d x => rw [hit] at h2; refine ⟨h2.1, ?_⟩; rw [e] at h2; exact Option.some.inj h2.2
    | r i =>
      rw [hit] at h2
      obtain ⟨q1, o, q2, q3⟩ := h2
      rw [e] at q3
      exact ⟨q1, o, q2, Option.some.inj q3⟩
  have own : ∀ {i : Nat} {o : OV} {v : V}, ovOf env[i]? = some o → σ[i]? = some (some v) → ∃ a sv, v = .ref a ∧ env[i]? = some sv ∧ sv.isO = true ∧ F a = none ∧ RO c.K c.cm F H a o := fun {i o v} e hs => by
    cases e1 : env[i]? with
    | none => rw [e1] at e; cases e
    | some sv =>
      rw [e1] at e
      have so : sv.isO = true := by cases sv <;> first | rfl | cases e
      obtain ⟨a, ov, k, h1, h2, h3⟩ := g.at_own e1 so
      rw [hs] at h1; cases h1
      refine ⟨a, sv, rfl, rfl, so, h2, ?_⟩
      rcases k with rfl | rfl <;> (cases e; exact h3)
  refine ⟨g.le, by simp [svs_len, hl], fun k sv e => ?_, fun k l sv tv a n e1 e2 o1 o2 r1 => ?_, fun a o e _ => e, fun k o a e _ => ?_⟩
  · obtain ⟨it, v, q1, q2, q3, q4⟩ := look e
    rw [q3]
    cases it with
    | d x => obtain ⟨q4, rfl⟩ := q4; exact ⟨v, rfl, q4⟩
    | r i =>
      obtain ⟨q4, o, q5, rfl⟩ := q4
      obtain ⟨a, sv, rfl, _, _, w1, w2⟩ := own q5 q4
      exact ⟨a, rfl, w1, w2⟩
  · obtain ⟨it1, v1, p1, p2, p3, p4⟩ := look e1
    obtain ⟨it2, v2, q1, q2, q3, q4⟩ := look e2
    cases it1 with
    | d x => obtain ⟨_, rfl⟩ := p4; cases o1
    | r i =>
      cases it2 with
      | d x => obtain ⟨_, rfl⟩ := q4; cases o2
      | r j =>
        obtain ⟨p4, o, p5, rfl⟩ := p4
        obtain ⟨q4, o', q5, rfl⟩ := q4
        obtain ⟨a1, s1, hv1, w1, w2, _, _⟩ := own p5 p4
        obtain ⟨a2, s2, hv2, z1, z2, _, _⟩ := own q5 q4
        have hij := refs_at nd p1 q1 n
        rw [p3] at r1; rw [q3]
        intro hz
        have r1' := Option.some.inj (Option.some.inj r1)
        have r2' := Option.some.inj (Option.some.inj hz)
        rw [r1'] at p4; rw [r2'] at q4
        exact g.sep i j s1 s2 a hij w1 z1 w2 z2 p4 q4
  · obtain ⟨it, v, _, _, _, q4⟩ := look e
    cases it with
    | d x => obtain ⟨_, q⟩ := q4; cases q
    | r i => obtain ⟨_, _, _, q⟩ := q4; cases q
theorem putBack_at : ∀ {its : List It} {svs : List SV} {e : Env} {j : Nat} {tv : SV}, (refsOf its).Nodup → svs.length = its.length →
    (∀ (k i : Nat), its[k]? = some (.r i) → (∃ o, svs[k]? = some (.bor o)) ∧ ∃ o, ovOf e[i]? = some o) → (putBack its svs e)[j]? = some tv →
    (e[j]? = some tv ∧ ∀ k : Nat, its[k]? ≠ some (.r j)) ∨ ∃ (k : Nat) (o : OV) (s : SV), its[k]? = some (.r j) ∧ svs[k]? = some (.bor o) ∧ e[j]? = some s ∧ ((∃ x, s = .own x ∧ tv = .own o) ∨ ∃ x, s = .bor x ∧ tv = .bor o)
  | [], svs, e, j, tv, _, _, _, h => .inl ⟨by simpa [putBack] using h, fun k => by simp⟩
  | .d x :: its, [], e, j, tv, _, hl, _, _ => by simp at hl
  | .r x :: its, [], e, j, tv, _, hl, _, _ => by simp at hl
  | .d x :: its, s :: svs, e, j, tv, nd, hl, hk, h => by
    have h' : (putBack its svs e)[j]? = some tv := by cases s <;> simpa [putBack] using h
    rcases putBack_at (its := its) (svs := svs) nd (by simpa using hl) (fun k i q => by simpa using hk (k + 1) i (by simpa using q)) h' with ⟨h1, h2⟩ | ⟨k, o, s', h1, h2, h3, h4⟩
    · refine .inl ⟨h1, fun k => ?_⟩
      cases k with
      | zero => simp
      | succ k => simpa using h2 k
    · exact .inr ⟨k + 1, o, s', by simpa using h1, by simpa using h2, h3, h4⟩
  | .r i :: its, s :: svs, e, j, tv, nd, hl, hk, h => by
    obtain ⟨⟨o, eo⟩, ⟨o1, eo1⟩⟩ := hk 0 i rfl
    obtain rfl : s = .bor o := by simpa using eo
    have nd' : (refsOf its).Nodup := (List.nodup_cons.mp nd).2
    have nm : i ∉ refsOf its := (List.nodup_cons.mp nd).1
    have mem : ∀ {its : List It} {i k : Nat}, its[k]? = some (.r i) → i ∈ refsOf its := fun {its} => by
      induction its with
      | nil => intro i k e; simp at e
      | cons t its ih =>
        intro i k e
        cases k with
        | zero => simp at e; subst e; exact List.mem_cons_self
        | succ k =>
          have := ih (i := i) (k := k) (by simpa using e)
          cases t with
          | d x => exact this
          | r x => exact List.mem_cons_of_mem _ this
    obtain ⟨s0, e0, k0⟩ : ∃ s0, e[i]? = some s0 ∧ ((∃ x, s0 = .own x) ∨ ∃ x, s0 = .bor x) := by
      cases e1 : e[i]? with
      | none => rw [e1] at eo1; cases eo1
      | some sv =>
        rw [e1] at eo1
        cases sv with
        | un => cases eo1
        | dat d => cases eo1
        | exc d => cases eo1
        | own x => exact ⟨_, rfl, .inl ⟨x, rfl⟩⟩
        | bor x => exact ⟨_, rfl, .inr ⟨x, rfl⟩⟩
    obtain ⟨sn, hp, kn⟩ : ∃ sn, putOv i o e = some (e.set i sn) ∧ ((∃ x, s0 = .own x ∧ sn = .own o) ∨ ∃ x, s0 = .bor x ∧ sn = .bor o) := by
      unfold putOv
      rcases k0 with ⟨x, rfl⟩ | ⟨x, rfl⟩
      · rw [e0]; exact ⟨_, rfl, .inl ⟨x, rfl, rfl⟩⟩
      · rw [e0]; exact ⟨_, rfl, .inr ⟨x, rfl, rfl⟩⟩
    have hi : i < e.length := (List.getElem?_eq_some_iff.mp e0).1
    have h' : (putBack its svs (e.set i sn))[j]? = some tv := by simpa only [putBack, hp] using h
    rcases putBack_at (its := its) (svs := svs) nd' (by simpa using hl) (fun k i' q => by
        refine ⟨by simpa using (hk (k + 1) i' (by simpa using q)).1, ?_⟩
        have : i' ≠ i := fun z => nm (z ▸ mem q)
        rw [List.getElem?_set_ne (Ne.symm this)]
        exact (hk (k + 1) i' (by simpa using q)).2) h' with ⟨h1, h2⟩ | ⟨k, o', s', h1, h2, h3, h4⟩
    · by_cases hj : j = i
      · subst hj
        rw [List.getElem?_set_self hi] at h1; cases h1
        exact .inr ⟨0, o, s0, rfl, rfl, e0, kn⟩
      · rw [List.getElem?_set_ne (Ne.symm hj)] at h1
        refine .inl ⟨h1, fun k => ?_⟩
        cases k with
        | zero => simpa using fun z => hj z.symm
        | succ k => simpa using h2 k
    · have : j ≠ i := fun z => nm (z ▸ mem h1)
      rw [List.getElem?_set_ne (Ne.symm this)] at h3
      exact .inr ⟨k + 1, o', s', by simpa using h1, by simpa using h2, h3, h4⟩
theorem putOv_len {i : Nat} {o : OV} {e e' : Env} (h : putOv i o e = some e') : e'.length = e.length := by
  unfold putOv at h
  split at h <;> first | (cases h; simp) | cases h
theorem putBack_len : ∀ (its : List It) (svs : List SV) (e : Env), (putBack its svs e).length = e.length
  | [], _, _ => rfl
  | .d _ :: _, [], _ => rfl
  | .r _ :: _, [], _ => rfl
  | .d _ :: its, s :: svs, e => by cases s <;> simpa [putBack] using putBack_len its svs e
  | .r i :: its, s :: svs, e => by
    cases s with
    | bor o =>
      simp only [putBack]
      rw [putBack_len its svs]
      cases h : putOv i o e with
      | none => rfl
      | some e' => exact putOv_len h
    | _ => simpa [putBack] using putBack_len its svs e
/-- the caller behind a call -/
theorem Good.called {its : List It} {vs : List V} {svs' : List SV} (g : c.Good H0 F env σ H) (h : ItsOk c F env σ its vs) (nd : (refsOf its).Nodup)
    (st : StepS c H F (svsOf env its) (vs.map some) F' svs' (vs.map some) H') : Step c H0 F env σ F' (putBack its svs' env) H' := by
  have hl := its_len h
  have hk : ∀ (k i : Nat), its[k]? = some (.r i) → (∃ o, svs'[k]? = some (.bor o)) ∧ ∃ o, ovOf env[i]? = some o := fun k i e => by
    obtain ⟨v, h1, h2⟩ := its_at h e
    obtain ⟨q1, o, q2, q3⟩ := h2
    exact ⟨(st.bor k o q3).1, o, q2⟩
  have look : ∀ {j : Nat} {tv : SV}, (putBack its svs' env)[j]? = some tv → (env[j]? = some tv ∧ ∀ k : Nat, its[k]? ≠ some (.r j)) ∨ ∃ (k : Nat) (o : OV) (s : SV), its[k]? = some (.r j) ∧ svs'[k]? = some (.bor o) ∧ env[j]? = some s ∧ ((∃ x, s = .own x ∧ tv = .own o) ∨ ∃ x, s = .bor x ∧ tv = .bor o) :=
    fun {j tv} e => putBack_at nd (by rw [st.len, svs_len]) hk e
  have orig : ∀ {j : Nat} {tv : SV}, (putBack its svs' env)[j]? = some tv → ∃ s, env[j]? = some s ∧ s.isO = tv.isO ∧ s.isB = tv.isB ∧ SvLe s tv := fun {j tv} e => by
    rcases look e with ⟨h1, _⟩ | ⟨k, o, s, _, _, h1, ⟨x, rfl, rfl⟩ | ⟨x, rfl, rfl⟩⟩
    · exact ⟨tv, h1, rfl, rfl, SvLe.refl _⟩
    · exact ⟨_, h1, rfl, rfl, .inl ⟨_, rfl⟩⟩
    · exact ⟨_, h1, rfl, rfl, ⟨_, rfl⟩⟩
  -- a slot of the callee's that is borrowed
  have handed : ∀ {k : Nat} {sv : SV} {a : Addr}, svs'[k]? = some sv → sv.isB = true → (vs.map some)[k]? = some (some (.ref a)) → ∃ i o, its[k]? = some (.r i) ∧ σ[i]? = some (some (.ref a)) ∧ ovOf env[i]? = some o := fun {k sv a} e b hv => by
    obtain ⟨ox, rfl⟩ : ∃ o, sv = .bor o := by cases sv <;> first | exact ⟨_, rfl⟩ | cases b
    obtain ⟨o', q1⟩ := st.rob k _ e
    have hk : k < its.length := by rw [← svs_len env its]; exact (List.getElem?_eq_some_iff.mp q1).1
    obtain ⟨v, w1, w2⟩ := its_at h (k := k) (it := its[k]) (by simp [hk])
    cases hit : its[k] with
    | d x => rw [hit] at w2; rw [q1] at w2; cases w2.2
    | r i =>
      rw [hit] at w2
      obtain ⟨z1, o, z2, z3⟩ := w2
      refine ⟨i, o, by rw [List.getElem?_eq_getElem hk, hit], ?_, z2⟩
      rw [z1]
      rw [List.getElem?_map, w1] at hv
      exact congrArg some (by simpa using hv)
  have isO_of : ∀ {i : Nat} {o : OV}, ovOf env[i]? = some o → ∃ s, env[i]? = some s ∧ (s = .own o ∨ s = .bor o) := fun {i o} e => by
    cases e1 : env[i]? with
    | none => rw [e1] at e; cases e
    | some sv =>
      rw [e1] at e
      cases sv with
      | un => cases e
      | dat d => cases e

      | exc d => cases e
      | own x => cases e; exact ⟨_, rfl, .inl rfl⟩
      | bor x => cases e; exact ⟨_, rfl, .inr rfl⟩
  have someH : ∀ {a : Addr}, H0 a ≠ none → H a ≠ none := fun {a} n z => by
    cases e0 : H0 a with
    | none => exact n e0
    | some u =>
      by_cases hb : ∃ (i : Nat) (sv : SV), env[i]? = some sv ∧ sv.isB = true ∧ σ[i]? = some (some (.ref a))
      · obtain ⟨i, sv, e, sb, ha⟩ := hb
        obtain ⟨u, hu⟩ := g.bor_some e (SV.isO_of_isB sb) ha
        rw [z] at hu; cases hu
      · rw [g.frame a u e0 fun i sv e sb q => hb ⟨i, sv, e, sb, q⟩] at z; cases z
  refine ⟨st.same, ⟨putBack_len _ _ _, fun i s e => ?_⟩, ⟨st.good.le, by rw [putBack_len]; exact g.len, fun j tv e => ?_, fun i j sv tv a n e1 e2 o1 o2 r => ?_, fun a o e q => ?_, fun i o a e ha => ?_⟩, fun a o n e => st.old a o (someH n) e⟩
  · have hi : i < (putBack its svs' env).length := by rw [putBack_len]; exact (List.getElem?_eq_some_iff.mp e).1
    obtain ⟨s', w1, _, _, w2⟩ := orig (j := i) (tv := (putBack its svs' env)[i]) (by simp [hi])
    rw [e] at w1; cases w1
    exact ⟨_, by simp [hi], w2⟩
  · rcases look e with ⟨h1, h2⟩ | ⟨k, o, s, h1, h2, h3, h4⟩
    · have key : ∀ {a : Addr} {o : OV}, tv.isO = true → σ[j]? = some (some (.ref a)) → F a = none → RO c.K c.cm F H a o → F' a = none ∧ RO c.K c.cm F' H' a o := fun {a o} so ha hf r => by
        obtain ⟨u, hu⟩ := r.some
        refine ⟨?_, r.mono st.same ?_⟩
        · cases z : F' a with
          | none => rfl
          | some w =>
            have := st.old a w (by rw [hu]; simp) z
            rw [hf] at this; cases this
        · rw [hu]
          refine st.good.frame a u hu fun k sv q1 q2 q3 => ?_
          obtain ⟨i, o', w1, w2, w3⟩ := handed q1 q2 q3
          obtain ⟨s', w4, w5⟩ := isO_of w3
          refine g.sep i j s' tv a (fun z => h2 k (z ▸ w1)) w4 h1 (by rcases w5 with rfl | rfl <;> rfl) so w2 ha
      have hs := g.slot j tv h1
      cases tv with
      | un => trivial
      | dat d => obtain ⟨v, q1, q2⟩ := hs; exact ⟨v, q1, Rp.mono st.same _ _ q2⟩
      | exc x => obtain ⟨b, cl, dx, q1, q2, q3⟩ := hs; exact ⟨b, cl, dx, q1, q2, q3.mono st.same⟩
      | own o => obtain ⟨a, q1, q2, q3⟩ := hs; exact ⟨a, q1, key rfl q1 q2 q3⟩
      | bor o => obtain ⟨a, q1, q2, q3⟩ := hs; exact ⟨a, q1, key rfl q1 q2 q3⟩
    · obtain ⟨a, q1, q2, q3⟩ := st.good.slot k _ h2
      obtain ⟨v, w1, w2⟩ := its_at h h1
      obtain ⟨w2, _⟩ := w2
      rw [List.getElem?_map, w1] at q1
      have : v = .ref a := by simpa using q1
      subst this
      rcases h4 with ⟨x, rfl, rfl⟩ | ⟨x, rfl, rfl⟩ <;> exact ⟨a, w2, q2, q3⟩
  · obtain ⟨s1, w1, k1, _, _⟩ := orig e1
    obtain ⟨s2, w2, k2, _, _⟩ := orig e2
    exact g.sep i j s1 s2 a n w1 w2 (k1.trans o1) (k2.trans o2) r
  · have back : ∀ (i : Nat) sv, env[i]? = some sv → sv.isB = true → σ[i]? ≠ some (some (.ref a)) := fun i sv e1 b => by
      have hi : i < (putBack its svs' env).length := by rw [putBack_len]; exact (List.getElem?_eq_some_iff.mp e1).1
      obtain ⟨s', w1, _, w3, _⟩ := orig (j := i) (tv := (putBack its svs' env)[i]) (by simp [hi])
      rw [e1] at w1; cases w1
      exact q i _ (by simp [hi]) (w3 ▸ b)
    have h1 := g.frame a o e back
    refine st.good.frame a o h1 fun k sv q1 q2 q3 => ?_
    obtain ⟨i, o', w1, w2, w3⟩ := handed q1 q2 q3
    obtain ⟨s', w4, w5⟩ := isO_of w3
    rcases w5 with rfl | rfl
    · have := g.fresh i _ a w4 w2
      rw [e] at this; cases this
    · exact back i _ w4 rfl w2
  · obtain ⟨s', w1, w2, w3, w4⟩ := orig e
    cases s' with
    | own x => exact g.fresh i x a w1 ha
    | un => cases w2
    | dat d => cases w2
    | exc d => cases w2
    | bor x => cases w3
/-- the call of a def by its worth -/
theorem Good.call {its : List It} {vs : List V} {fn : List SV → Out D} {k : D → Env → Hp → Hp → Prop} {W : WX} (g : c.Good H0 F env σ H) (h : ItsOk c F env σ its vs)
    (q : Res c W H0 F env σ (fnCall fn its env) k) (hk : ∀ d e F' H', k d e F' H' → ∀ v, Rp c.K c.cm F' d v → Q v H') : spF c fn vs H Q (W σ) := by
  unfold fnCall at q
  split at q
  · rename_i nd
    have nd := nodupB_iff nd
    refine ⟨F, svsOf env its, g.handed h nd, svs_noOwn _ _, ?_⟩
    cases e : fn (svsOf env its) with
    | no => rw [e] at q; exact q
    | ok d svs' =>
      rw [e] at q
      exact fun F' H' st v hv => hk _ _ _ _ (q F' H' (g.called h nd st)) v hv
    | ex x svs' =>
      rw [e] at q
      exact fun F' H' cl dx st hx => q F' H' cl dx (g.called h nd st) hx
  · exact q.elim
end
end DL
namespace DL
open PySem PySem.Spec PyProof.Rows L2
/-- FnOk, asked only where no repr is under way -/
structure FnG (P : Program) (w : World) (K : PySem.W.Frag) (mg : Str → Option Value) (base : Heap) (CX : CXT) (k : Nat) (f : Addr) (fd : FuncData) (ps : List Str) (sp : L2.Sp) : Prop where
  len : ∀ xs H Q E, sp xs H Q E → xs.length = ps.length
  run : ∀ (A : Around) (outer : List PySem.Env) (s : Shared) (H : Hp) (ar : Args) (us : List Value) (xs : List V) (Q : VK) (E : XK), Room k A → A.guards = some [] → Env0 P w K mg base A outer s H → BindsTo s fd ar (ps.zip us) → Vals xs us → sp xs H Q E →
    codeAny (model P w) A (.call (.ref f) ar) (CR CX outer P w H s Q E) s
section
variable {P : Program} {w : World} {K : PySem.W.Frag} {mg : Str → Option Value} {base : Heap} {CX : CXT} {j k : Nat} {f : Addr} {fd : FuncData} {ps : List Str} {sp sp' : L2.Sp}
theorem FnG.of (F : FnOk P w K mg base CX k f fd ps sp) : FnG P w K mg base CX k f fd ps sp := ⟨F.len, fun A outer s H ar us xs Q E hr _ => F.run A outer s H ar us xs Q E hr⟩
theorem FnG.imp (F : FnG P w K mg base CX k f fd ps sp) (h : ∀ xs H Q E, sp' xs H Q E → sp xs H Q E) : FnG P w K mg base CX k f fd ps sp' :=
  ⟨fun xs H Q E q => F.len xs H Q E (h _ _ _ _ q), fun A outer s H ar us xs Q E hr hg he hb hv q => F.run A outer s H ar us xs Q E hr hg he hb hv (h _ _ _ _ q)⟩
/-- a def's body gives it -/
theorem fnG_of {x qual : Str} {pa : Arguments} {body : List Stmt} {sc : Scope} {dV kV doc pm cdv ct oc : Value} {an od : Option Addr} {sl : Array (Option Value)} {N : List Str}
    (lk : K.lookup f = some ⟨oc, od, .func (PySem.W.fnOf x qual pa body sc dV kV doc pm an cdv ct), sl⟩) (hcd : PySem.W.codeIn K cdv qual = true) (S : FnScope N ps sc) (len : ∀ xs H Q E, sp xs H Q E → xs.length = ps.length)
    (hb : ∀ (A : Around) (outer : List PySem.Env) (s : Shared) (H : Hp) (xs : List V) (Q : VK) (E : XK), Room k (A.deeper (envOfC qual sc s.heap.objs.size f cdv)) → A.guards = some [] → sp xs H Q E →
      ∃ t, PSs (cxOf CX P w K mg base N qual sc f cdv A outer s H E) body t ∧ t { nx := fun _ H' => Q .non H', rt := Q } (L2.start N xs) H) :
    FnG P w K mg base CX (k + 1) f (PySem.W.fnOf x qual pa body sc dV kV doc pm an cdv ct) ps sp := by
  refine ⟨len, fun A outer s H ar us xs Q E hr hg e0 hbd rv q => ?_⟩
  have KI : K.In s.heap := e0.mod.kin.keeps fun b o e => (e0.bs b o e).1
  have nl : s.heap.NoLimit := e0.mod.nolimit.keeps fun b o e => (e0.bs b o e).1
  have hk : ∀ y ∈ ps.zip us, sc.names.lookup y.1 = some .local ∨ (sc.names.lookup y.1 = some .cell ∧ ((cellsFrom (s.heap.objs.size + 1) sc.names []).lookup y.1).isSome = true) := fun ⟨m, v⟩ hy => (S.par m (List.of_mem_zip hy).1).imp id fun z => ⟨z, PySem.W.cellsFrom_some _ _ _ (.inl z)⟩
  refine codeAny_call_function hr.depth (KI _ _ lk) rfl S.co S.gen rfl (PySem.W.codeRec_of KI hcd) (hbd _ _ _ _ ?_)
  refine wpAny_newFunctionEnv_cells S.kind hk fun env he s1 x1 => ?_
  subst he
  refine ⟨nl.keeps x1.toInCall.keep, codeAny_func ?_⟩
  obtain ⟨t, ht, hq⟩ := hb A outer s H xs Q E (hr.deeper _) hg q
  have J : Inv (cxOf CX P w K mg base N qual sc f cdv A outer s H E) [] (L2.start N xs) H s1 := inv_start S hr.hd e0 (len _ _ _ _ q) rv x1
  refine wpAny_mono (ht.run [] s1 (L2.start N xs) H _ J hq) (fun fl s2 hs => ?_) fun e s2 z => z
  match fl, hs with
  | .ret u, ⟨v, σ1, H1, J1, r1, q1⟩ => exact ⟨v, H1, J1.os, J1.bare, J1.base, J1.hok, r1, q1⟩
  | .next, ⟨σ1, H1, J1, q1⟩ => exact ⟨V.non, H1, J1.os, J1.bare, J1.base, J1.hok, rfl, q1⟩
  | .brk, hs => exact absurd hs (by rintro ⟨σ1, H1, _, q1⟩; exact q1)
  | .cont, hs => exact absurd hs (by rintro ⟨σ1, H1, _, q1⟩; exact q1)
/-- .. a def with defaults -/
theorem funD_okG {x qual : Str} {pa : Arguments} {body : List Stmt} {sc : Scope} {dvs : List V} {kws : List (Str × V)} {N : List Str} (F : FunD K x qual pa body sc dvs kws f fd) (S : FnScope N ps sc) (len : ∀ xs H Q E, sp xs H Q E → xs.length = ps.length)
    (hb : ∀ (cdv : Value) (A : Around) (outer : List PySem.Env) (s : Shared) (H : Hp) (xs : List V) (Q : VK) (E : XK), Room k (A.deeper (envOfC qual sc s.heap.objs.size f cdv)) → A.guards = some [] → sp xs H Q E →
      ∃ t, PSs (cxOf CX0 P w K mg base N qual sc f cdv A outer s H E).nox body t ∧ t { nx := fun _ H' => Q .non H', rt := Q } (L2.start N xs) H) : FnG P w K mg base CX0 (k + 1) f fd ps sp := by
  obtain ⟨oc, od, dV, kV, doc, pm, an, cdv, ct, sl, rfl, lk, hcd, _, _⟩ := F.ex
  refine fnG_of lk hcd S len fun A outer s H xs Q E hr hg q => ?_
  obtain ⟨t, h1, h2⟩ := hb cdv A outer s H xs Q E hr hg q
  exact ⟨t, h1.nox, h2⟩
end
section
variable {X : Cx} {CX : CXT} {k n : Nat} {f C : Addr} {fd : FuncData} {ps ks : List Str} {sp : L2.Sp} {E : XK} {ds : List Value} {dvs : List V} {g : List Value → List Value → List Value} {gV : List V → List V → List V}
  {pins : List (Addr × Obj)} {σ : L2.St} {H : Hp} {s : Shared} {Q : VK} {us ws : List Value} {xs zs : List V}
theorem runG_fn (F : FnG X.prog X.w X.K X.mg X.base CX k f fd ps sp) (hr : Room k X.A) (hg : X.A.guards = some []) (hb : Binds X.K fd ps ds) (hd : Vals dvs ds) (hx : PassesAt CX X σ E)
    (I : Inv X pins σ H s) (r : Vals xs us) (h : sp (xs ++ dvs) H Q E) : wpAny (model X.prog X.w) X.A (call (.ref f) us) (EP X pins σ Q) X.xe s := by
  have r2 : Vals (xs ++ dvs) (us ++ ds) := r.append hd
  refine wpAny_call (codeAny_mono (F.run X.A X.stack s H ⟨us, []⟩ (us ++ ds) (xs ++ dvs) Q E hr hg I.env0 (hb s us I.kIn (by rw [← r2.length]; exact F.len _ _ _ _ h)) r2 h) fun r s' hq => ?_)
  match r, hq with
  | .error e, hq => exact hx pins H s e s' I hq
  | .ok (.ret u), hq => exact I.after hq
  | .ok .next, hq => exact hq.elim
  | .ok .brk, hq => exact hq.elim
  | .ok .cont, hq => exact hq.elim
theorem runG_fnN (F : FnG X.prog X.w X.K X.mg X.base CX k f fd ps sp) (hr : Room k X.A) (hg : X.A.guards = some []) (hb : KBn X.K fd ps n ks g gV) (hx : PassesAt CX X σ E)
    (I : Inv X pins σ H s) (r : Vals xs us) (rz : Vals zs ws) (l1 : xs.length = n) (l2 : zs.length = ks.length) (h : sp (gV xs zs) H Q E) : wpAny (model X.prog X.w) X.A (call (.ref f) us (ks.zip ws)) (EP X pins σ Q) X.xe s := by
  refine wpAny_call (codeAny_mono (F.run X.A X.stack s H ⟨us, ks.zip ws⟩ (g us ws) (gV xs zs) Q E hr hg I.env0 (hb.to s us ws I.kIn (r.length.symm.trans l1) (rz.length.symm.trans l2)) (hb.rel r rz) h) fun r s' hq => ?_)
  match r, hq with
  | .error e, hq => exact hx pins H s e s' I hq
  | .ok (.ret u), hq => exact I.after hq
  | .ok .next, hq => exact hq.elim
  | .ok .brk, hq => exact hq.elim
  | .ok .cont, hq => exact hq.elim
theorem guards_make {A : Around} {us : List Value} {kw : List (Str × Value)} (h : A.guards = some []) : (A.under (.builtin "type.__call__" ⟨.ref C :: us, kw⟩)).guards = some [] := by
  have e : (Code.builtin "type.__call__" ⟨.ref C :: us, kw⟩).guards = [] := by
    unfold Code.guards
    rw [if_neg]
    simp [Code.isGuard, guardIds]
  unfold Around.under
  rw [e]
  exact h
theorem runG_makeK (M : Mk X.K C f) (F : FnG X.prog X.w X.K X.mg X.base CX k f fd ps sp) (hr : Room (k + 1) X.A) (hg : X.A.guards = some []) (hb : KBn X.K fd ps (n + 1) ks g gV) (hx : PassesAt CX X σ E)
    (I : Inv X pins σ H s) (r : Vals xs us) (rz : Vals zs ws) (l1 : xs.length = n) (l2 : zs.length = ks.length)
    (h : ∀ x dx, H x = none → H dx = none → dx ≠ x → sp (gV (.ref x :: xs) zs) (upd (upd H dx (.own x)) x (.ins C dx [])) (fun v H2 => v = .non ∧ Q (.ref x) H2) E) :
    wpAny (model X.prog X.w) X.A (call (.ref C) us (ks.zip ws)) (EP X pins σ Q) X.xe s := by
  generalize hz : s.heap.objs.size = z0
  have hq := h (z0 + 1) z0 (by subst hz; exact I.hok.fresh (Nat.le_succ _)) (by subst hz; exact I.hok.fresh (Nat.le_refl _)) (Nat.ne_of_lt (Nat.lt_succ_self _))
  have I2 := Inv.made (C := C) I
  rw [hz] at I2
  have r1 : Vals (V.ref (z0 + 1) :: xs) (Value.ref (z0 + 1) :: us) := .cons rfl r
  have n1 : (Value.ref (z0 + 1) :: us).length = n + 1 := by simp [← r.length, l1]
  have key := F.run _ X.stack _ _ ⟨Value.ref (z0 + 1) :: us, ks.zip ws⟩ (g (Value.ref (z0 + 1) :: us) ws) _ _ E (hr.make C us (ks.zip ws)) (guards_make hg)
    (I2.env0.make C us (ks.zip ws)) (hb.to _ (Value.ref (z0 + 1) :: us) ws I2.kIn n1 (rz.length.symm.trans l2)) (hb.rel r1 rz) hq
  subst hz
  refine wpAny_call (make_map (f := f) I.kIn M.makes M.init (beq_iff_eq.mp M.fn) (codeAny_mono key fun r s' hq' => ?_))
  match r, hq' with
  | .error e, hq' => exact hx pins _ _ e s' I2 hq'
  | .ok (.ret u), hq' =>
    obtain ⟨v, H', I3, rv, ev, q3⟩ := I2.after hq'
    subst ev
    exact ⟨rv, ⟨V.ref (s.heap.objs.size + 1), H', I3, rfl, q3⟩⟩
  | .ok .next, hq' => exact hq'.elim
  | .ok .brk, hq' => exact hq'.elim
  | .ok .cont, hq' => exact hq'.elim
end
theorem lawG_call {P : Program} {w : World} {K : PySem.W.Frag} {mg mb : Str → Option Value} {CX : CXT} {k : Nat} {fa a : Addr} {fd : FuncData} {x : Str} {sp : L2.Sp} {s₁ : Shared} {vs : List Value} {ns : List Int}
    (KX : K.In s₁.heap) (hns : s₁.heap.Ns mainGlobals mg) (hb : s₁.heap.Ns builtinsNs mb) (hbb : ∀ x : Str, x ≠ "__name__" → mb x = bootBuiltins x) (hlim : s₁.heap.NoLimit) (hg : s₁.gens = #[])
    (ha : s₁.heap.get? a = some { cls := .type "list", data := .seq vs.toArray }) (hi : IntsAre vs ns) (hl : ns.length ≤ sizeLine) (hr : Room k callerA)
    (F : ∀ base : Heap, K.In base → base.Ns mainGlobals mg → FnG P w K mg base CX k fa fd [x] sp) (hbind : ∀ (s : Shared) (u : Value), BindsTo s fd ⟨[u], []⟩ [(x, u)])
    (hsp : ∀ H : Hp, Only H → SqL K H a (ns.map V.int) → sp [.ref a] H (fun v _ => v = .bl true) fun _ _ _ => False)
    (hCX : ∀ H e s', CX [] H s₁ (fun _ _ _ => False) e s' → False) :
    codeAny (model P w) callerA (.call (.ref fa) ⟨[.ref a], []⟩) (fun r s' => r = .ok (.ret (.bool true)) ∧ OldK s₁.heap s'.heap ∧ s'.os = s₁.os ∧ AllBare s'.gens) s₁ := by
  have rv := vals_ints hi
  have lv := hi.length
  have main : ∀ H : Hp, Only H → SqL K H a (ns.map V.int) → HOk P w H s₁.heap → (∀ b, H b ≠ none → b = a) → (H a ≠ none → K.lookup a = none) →
      codeAny (model P w) callerA (.call (.ref fa) ⟨[.ref a], []⟩) (fun r s' => r = .ok (.ret (.bool true)) ∧ OldK s₁.heap s'.heap ∧ s'.os = s₁.os ∧ AllBare s'.gens) s₁ := by
    intro H hO hS hok hA hK
    have free : ∀ {b : Addr}, b ≠ a → H b = none := fun {b} nb => by
      cases q : H b with
      | none => rfl
      | some u => exact absurd (hA b (by rw [q]; simp)) nb
    have nsK : ∀ {b : Addr} {m : Str → Option Value}, s₁.heap.Ns b m → (hidT s₁.heap H).Ns b m := fun {b m} ⟨o, es, ep, e, d, rr⟩ => ⟨o, es, ep, hidT_get e (free fun z => by
      subst z
      rw [ha] at e
      cases e
      cases d), d, rr⟩
    have hKb : K.In (hidT s₁.heap H) := fun b o e => hidT_get (KX b o e) (by
      cases q : H b with
      | none => rfl
      | some u =>
        obtain rfl := hA b (by rw [q]; simp)
        have := hK (by rw [q]; simp)
        rw [this] at e
        cases e)
    obtain ⟨mc, n1, n2⟩ := hlim
    have e0 : Env0 P w K mg (hidT s₁.heap H) callerA [] s₁ H := ⟨rfl, ⟨hKb, nsK hns, ⟨mb, nsK hb, hbb⟩, ⟨mc, nsK n1, n2⟩⟩, fun b o e => of_hidT e, Nat.le_of_eq (hidT_size _ _), trivial, fun b z => (by cases z), hok, .of_eq hg⟩
    refine codeAny_mono ((F _ hKb (nsK hns)).run callerA [] s₁ H ⟨[.ref a], []⟩ [.ref a] [.ref a] _ _ hr rfl e0 (hbind s₁ (.ref a)) (.cons rfl .nil) (hsp H hO hS)) fun r s' h => ?_
    match r, h with
    | .error e, h => exact (hCX H e s' h).elim
    | .ok .next, h => exact h.elim
    | .ok .brk, h => exact h.elim
    | .ok .cont, h => exact h.elim
    | .ok (.ret u), ⟨v, H', os, bare, un, hok', r', q⟩ =>
      obtain rfl : v = .bl true := q
      obtain rfl : u = Value.bool true := r'
      refine ⟨rfl, OldK.of_keep fun b o e => ?_, os, bare⟩
      by_cases nb : b = a
      · cases q : H b with
        | none => exact un.keep b o e q (fun z => by cases z) (by simp)
        | some u =>
          rcases hO b with z | ⟨ob, xs, z⟩
          · rw [q] at z; cases z
          · have e1 := (hok b _ z).1
            have e2 := (hok' b _ (un.frzs b ob _ z)).1
            rw [e] at e1
            cases e1
            exact e2
      · exact un.keep b o e (free nb) (fun z => by cases z) (by simp)
  cases hk : K.lookup a with
  | some o =>
    have e := KX a o hk
    rw [ha] at e
    cases e
    exact main (fun _ => none) (fun _ => .inl rfl) (.inr ⟨_, vs.toArray, _, hk, rfl, rfl, rfl, by rw [List.size_toArray, lv]; exact hl, by simpa using rv⟩) (fun b u z => by cases z) (fun b z => absurd rfl z) fun z => absurd rfl z
  | none =>
    have at_ : ∀ b, b ≠ a → (fun b => if b = a then some (HO.frz { cls := .type "list", data := .seq vs.toArray } (.lst (ns.map V.int))) else none : Hp) b = none := fun b nb => if_neg nb
    refine main (fun b => if b = a then some (.frz { cls := .type "list", data := .seq vs.toArray } (.lst (ns.map V.int))) else none) (fun b => ?_) (.inl (.inr ⟨{ cls := .type "list", data := .seq vs.toArray }, if_pos rfl⟩)) (fun b u z => ?_) (fun b z => Classical.byContradiction fun nb => z (at_ b nb)) fun _ => hk
    · by_cases nb : b = a
      · exact .inr ⟨_, _, if_pos nb⟩
      · exact .inl (if_neg nb)
    · by_cases nb : b = a
      · cases (if_pos nb).symm.trans z
        subst nb
        exact ⟨ha, by rw [List.length_map]; exact hl, vs, _, rv, ha⟩
      · cases (if_neg nb).symm.trans z
theorem walkG_of {l : PySem.W.OpenLaw} {n k : Nat} {q : Program} {loose : List Str} {XP : (Str → Option Value) → Heap → Prop} {YP : World → Heap → Prop} {d : DefRec} {K : Params → PySem.W.Frag} {CX : World → CXT} {sp : World → L2.Sp} {x : Str}
    (hn : l.most = some n) (hn2 : n ≤ sizeLine) (hdf : d.params.defaults = []) (hr : Room k callerA) (hY : ∀ (w : World) (h : Heap), YP w h → (K w.params).In h)
    (F : ∀ (w : World) (mg : Str → Option Value) (fa : Addr) (h : Heap), (K w.params).In h → h.Ns mainGlobals mg → mg d.name = some (.ref fa) → ∃ fd : FuncData, (∀ (s : Shared) (u : Value), BindsTo s fd ⟨[u], []⟩ [(x, u)]) ∧
        ∀ base : Heap, (K w.params).In base → base.Ns mainGlobals mg → FnG l.prog w (K w.params) mg base (CX w) k fa fd [x] (sp w))
    (hsp : ∀ (w : World) (H : Hp) (a : Addr) (ns : List Int), ns.length ≤ n → Only H → SqL (K w.params) H a (ns.map V.int) → sp w [.ref a] H (fun v _ => v = .bl true) fun _ _ _ => False)
    (hCX : ∀ (w : World) (H : Hp) (s : Shared) (e : Value) (s' : Shared), CX w [] H s (fun _ _ _ => False) e s' → False) : PySem.W.WalkO q loose XP YP l.row.toRowW d [] (fun f vs => PySem.call f vs) := by
  refine Att.attach_call hn hdf fun w s₀ s₁ mg mb fa o pm cd doc a vs ns G Y ho hd hcd hmg hobj hints hlen hg => ?_
  have KX := hY w _ Y
  obtain ⟨fd, hb, hF⟩ := F w mg fa _ KX G.T.g hmg
  exact lawG_call KX G.T.g G.T.b G.T.builtins G.T.nolimit hg hobj hints (Nat.le_trans hlen hn2) hr hF hb (fun H hO hS => hsp w H a ns hlen hO hS) fun H e s' => hCX w H s₁ e s'
end DL
namespace DL
open PySem PySem.Spec PyProof.Rows L2
section
variable {X : Cx} {CX : CXT} {k n : Nat} {f C : Addr} {fd : FuncData} {ps ks : List Str} {sp : L2.Sp} {E : L2.St → XK} {ds : List Value} {dvs : List V} {g : List Value → List Value → List Value} {gV : List V → List V → List V}
theorem runs_fn (F : FnG X.prog X.w X.K X.mg X.base CX k f fd ps sp) (hr : Room k X.A) (gd : X.A.guards = some []) (hb : Binds X.K fd ps ds) (hd : Vals dvs ds) (hx : ∀ σ, PassesAt CX X σ (E σ)) : Runs X (.ref f) n [] fun σ vs _ H Q => sp (vs ++ dvs) H Q (E σ) :=
  ⟨fun pins s σ H Q vs us zs ws I r _ _ _ h => runG_fn F hr gd hb hd (hx σ) I r h⟩
theorem runs_fnK (F : FnG X.prog X.w X.K X.mg X.base CX k f fd ps sp) (hr : Room k X.A) (gd : X.A.guards = some []) (hb : KBn X.K fd ps n ks g gV) (hx : ∀ σ, PassesAt CX X σ (E σ)) : Runs X (.ref f) n ks fun σ vs zs H Q => sp (gV vs zs) H Q (E σ) :=
  ⟨fun pins s σ H Q vs us zs ws I r rz l1 l2 h => runG_fnN F hr gd hb (hx σ) I r rz l1 l2 h⟩
/-- a new instance and its dict, then __init__ -/
noncomputable def spMake (C : Addr) (sp : L2.Sp) (gV : List V → List V → List V) (E : XK) : List V → List V → Hp → VK → Prop := fun vs zs H Q => ∀ x dx, H x = none → H dx = none → dx ≠ x → sp (.ref x :: gV vs zs) (upd (upd H dx (.own x)) x (.ins C dx [])) (fun v H2 => v = .non ∧ Q (.ref x) H2) E
theorem runs_makeK {gI : List Value → List Value → List Value} {gW : List V → List V → List V} (M : Mk X.K C f) (F : FnG X.prog X.w X.K X.mg X.base CX k f fd ps sp) (hr : Room (k + 1) X.A) (gd : X.A.guards = some []) (hb : KBn X.K fd ps (n + 1) ks gI gW) (hw : ∀ x vs zs, gW (x :: vs) zs = x :: gV vs zs) (hx : ∀ σ, PassesAt CX X σ (E σ)) : Runs X (.ref C) n ks fun σ => spMake C sp gV (E σ) :=
  ⟨fun pins s σ H Q vs us zs ws I r rz l1 l2 h => runG_makeK M F hr gd hb (hx σ) I r rz l1 l2 fun x dx h1 h2 h3 => by rw [hw]; exact h x dx h1 h2 h3⟩
end
section
variable {c : Kc} {W : WX} {X : Cx} {H0 F F' H H' : Hp} {env env' : Env} {σ σ' : L2.St} {Q : VK}
theorem its_mono (s : Same F F') : ∀ {its : List It} {vs : List V} {env env' : Env}, EnvLe env env' → (∀ i ∈ refsOf its, ∃ o, ovOf env'[i]? = some o) → ItsOk c F env σ its vs → ItsOk c F' env' σ its vs
  | [], _, _, _, _, _, h => h
  | .d _ :: its, _, _, _, le, hr, ⟨v, r, e, h, t⟩ => ⟨v, r, e, Rp.mono s _ _ h, its_mono s le hr t⟩
  | .r i :: its, _, _, _, le, hr, ⟨v, r, e, h, _, t⟩ => ⟨v, r, e, h, hr i List.mem_cons_self, its_mono s le (fun j m => hr j (List.mem_cons_of_mem _ m)) t⟩
theorem its_app : ∀ {its jts : List It} {vs zs : List V}, ItsOk c F env σ its vs → ItsOk c F env σ jts zs → ItsOk c F env σ (its ++ jts) (vs ++ zs)
  | [], jts, vs, zs, h, t => by rw [show vs = [] from h]; exact t
  | .d _ :: its, jts, _, zs, ⟨v, r, e, h, t⟩, k => ⟨v, r ++ zs, by rw [e]; rfl, h, its_app t k⟩
  | .r _ :: its, jts, _, zs, ⟨v, r, e, h, o, t⟩, k => ⟨v, r ++ zs, by rw [e]; rfl, h, o, its_app t k⟩
theorem its_ds : ∀ {ds : List D} {vs : List V}, RpL c.K c.cm F ds vs → ItsOk c F env σ (ds.map .d) vs
  | [], vs, h => by simp only [RpL] at h; exact h
  | d :: ds, vs, h => by
    simp only [RpL] at h
    obtain ⟨v, r, e, h, t⟩ := h
    exact ⟨v, r, e, h, its_ds t⟩
/-- the own objects that are named are such yet -/
noncomputable def refsB (its : List It) (e : Env) : Bool := (refsOf its).all fun i => (ovOf e[i]?).isSome
theorem refsB_of {its : List It} {e : Env} (h : refsB its e = true) : ∀ i ∈ refsOf its, ∃ o, ovOf e[i]? = some o := fun i m => by
  have := List.all_eq_true.mp h i m
  exact Option.isSome_iff_exists.mp this
/-- a call: positional items, keywords' items, as the parameters want them -/
noncomputable def callS (cf : List It → Env → Out D) (gD : List It → List It → List It) (ra rk : Env → Out (List It)) (e : Env) : Out D := (ra e).bind fun its e1 => (rk e1).bind fun jts e2 => if refsB its e2 = true then cf (gD its jts) e2 else .no
/-- how the arguments are laid -/
structure Arr (c : Kc) (gD : List It → List It → List It) (gV : List V → List V → List V) : Prop where
  to : ∀ (F : Hp) (env : Env) (σ : L2.St) (its jts : List It) (vs zs : List V), ItsOk c F env σ its vs → ItsOk c F env σ jts zs → ItsOk c F env σ (gD its jts) (gV vs zs)
noncomputable def posA (ds : List D) (its _ : List It) : List It := its ++ ds.map .d
noncomputable def kwA (its jts : List It) : List It := its ++ jts
theorem arr_pos {ds : List D} {dvs : List V} (hd : ∀ F, RpL c.K c.cm F ds dvs) : Arr c (posA ds) fun vs _ => vs ++ dvs := ⟨fun F env σ its jts vs zs h _ => its_app h (its_ds (hd F))⟩
theorem arr_kw : Arr c kwA fun vs zs => vs ++ zs := ⟨fun F env σ its jts vs zs h k => its_app h k⟩
/-- what is called, by data -/
structure CallOk (c : Kc) (W : WX) (cf : List It → Env → Out D) (gV : List V → List V → List V) (sp : L2.St → List V → List V → Hp → VK → Prop) : Prop where
  to : ∀ (H0 F H : Hp) (env : Env) (σ : L2.St) (Q : VK) (its : List It) (vs zs : List V), c.Good H0 F env σ H → ItsOk c F env σ its (gV vs zs) → Res c W H0 F env σ (cf its env) (fun d _ F' H' => ∀ v, Rp c.K c.cm F' d v → Q v H') → sp σ vs zs H Q
theorem callOk_fn {fn : List SV → Out D} {gV : List V → List V → List V} : CallOk c W (fnCall fn) gV fun σ vs zs H Q => spF c fn (gV vs zs) H Q (W σ) :=
  ⟨fun H0 F H env σ Q its vs zs g h q => g.call h q fun d e F' H' h => h⟩
theorem call_read {n m : Nat} {cf : List It → Env → Out D} {gD : List It → List It → List It} {gV : List V → List V → List V} {sp : L2.St → List V → List V → Hp → VK → Prop} {ra rk : Env → Out (List It)} (A : Arr c gD gV) (K : CallOk c W cf gV sp) (hn : ∀ e its e', ra e = .ok its e' → its.length = n) (hm : ∀ e its e', rk e = .ok its e' → its.length = m)
    (g : c.Good H0 F env σ H) (q : Res c W H0 F env σ (callS cf gD ra rk env) fun d _ F' H' => ∀ v, Rp c.K c.cm F' d v → Q v H') : tRuns n m sp (tR c W ra) (tR c W rk) σ H Q := by
  refine ⟨H0, F, env, g, ?_⟩
  cases e1 : ra env with
  | no => unfold callS at q; rw [e1] at q; exact q
  | ex x e => unfold callS at q; rw [e1] at q; exact q
  | ok its ev1 =>
    unfold callS at q
    rw [e1] at q
    intro F1 H1 s1 vs hvs
    have q1 := Res.base s1 q
    refine ⟨H0, F1, ev1, s1.good, ?_⟩
    simp only [bind_ok] at q1
    cases e2 : rk ev1 with
    | no => rw [e2] at q1; exact q1
    | ex x e => rw [e2] at q1; exact q1
    | ok jts ev2 =>
      rw [e2] at q1
      intro F2 H2 s2 zs hzs
      have q2 := Res.base s2 q1
      have l1 := (its_len hvs).trans (hn _ _ _ e1)
      have l2 := (its_len hzs).trans (hm _ _ _ e2)
      refine ⟨l1, l2, ?_⟩
      simp only [bind_ok] at q2
      split at q2
      · rename_i hb
        exact K.to _ _ _ _ _ _ _ _ _ s2.good (A.to _ _ _ _ _ _ _ (its_mono s2.same s2.le (refsB_of hb) hvs) hzs) q2
      · exact q2.elim
end
section
variable {c : Kc} {W : WX} {X : Cx} {n : Nat} {ra : Env → Out D} {rr : Env → Out (List It)}
/-- how many items a reading gives -/
noncomputable def LenR (r : Env → Out (List It)) (n : Nat) : Prop := ∀ e its e', r e = .ok its e' → its.length = n
theorem len_nil : LenR nilR 0 := fun e its e' h => by cases h; rfl
theorem len_d (h : LenR rr n) : LenR (consRd ra rr) (n + 1) := fun e its e' q => by
  unfold consRd at q
  cases e1 : ra e with
  | no => rw [e1] at q; cases q
  | ex x e => rw [e1] at q; cases q
  | ok x e2 =>
    rw [e1, bind_ok] at q
    cases e3 : rr e2 with
    | no => rw [e3] at q; cases q
    | ex x e => rw [e3] at q; cases q
    | ok xs e4 => rw [e3] at q; cases q; simp [h _ _ _ e3]
theorem len_r {i : Nat} (h : LenR rr n) : LenR (consRr i rr) (n + 1) := fun e its e' q => by
  unfold consRr at q
  split at q
  · cases q
  · cases e3 : rr e with
    | no => rw [e3] at q; cases q
    | ex x e => rw [e3] at q; cases q
    | ok xs e4 =>
      rw [e3, bind_ok] at q
      split at q
      · cases q
      · cases q; simp [h _ _ _ e3]
end
section
variable {c : Kc} {W : WX} {X : Cx} {x m : Str} {p pos apos : Pos} {e o : Expr} {es : List Expr} {kws : List Keyword} {n : Nat} {ks : List Str} {f C : Addr} {cf : List It → Env → Out D} {gD : List It → List It → List It} {gV : List V → List V → List V} {sp : L2.St → List V → List V → Hp → VK → Prop} {ra rk : Env → Out (List It)} {ro : Env → Out D}
theorem call_imp {t : TE} {r : Env → Out D} {ex : Expr} (h : PE X ex t) (i : ∀ σ H Q H0 F env, c.Good H0 F env σ H → Res c W H0 F env σ (r env) (fun d _ F' H' => ∀ v, Rp c.K c.cm F' d v → Q v H') → t σ H Q) : PE X ex (tD c W r) :=
  h.imp fun σ H Q ⟨H0, F, env, g, q⟩ => i σ H Q H0 F env g q
/-- f(e, ..) by its name -/
theorem dl_call1 (A : Arr c gD gV) (K : CallOk c W cf gV sp) (R : Runs X (.ref f) n [] sp) (hl : LenR ra n) (hg : Gl X x) (hm : X.mg x = some (.ref f)) (hk : PySem.W.keepIn X.K (.ref f) = true) (ha : PA X (e :: es) (tR c W ra))
    (hdb : (x == ("__debug__" : Str)) = false := by decide) (he : starEach (e :: es) X.env = (false, eval e X.env) :: starEach es X.env := by rfl) (hpl : (backTo pos (starEach es X.env)).any (·.1) = false := by rfl) :
    PE X (.Call (.Name x p) (e :: es) [] pos) (tD c W (callS cf gD ra nilR)) := call_imp (pr_call R hg hm hk ha hdb he hpl) fun σ H Q H0 F env g q => by
  obtain ⟨H0', F', env', g', k⟩ := call_read (n := n) (m := 0) A K hl len_nil g q
  refine ⟨H0', F', env', g', k.mono fun its e F1 H1 s1 q1 vs hvs => ?_⟩
  obtain ⟨H0b, Fb, envb, gb, kb⟩ := q1 vs hvs
  exact kb.ret gb [] rfl
/-- f(e, .., k = v, ..) -/
theorem dl_callK (A : Arr c gD gV) (K : CallOk c W cf gV sp) (R : Runs X (.ref f) n ks sp) (hl : LenR ra n) (hlk : LenR rk ks.length) (hg : Gl X x) (hm : X.mg x = some (.ref f)) (hk : PySem.W.keepIn X.K (.ref f) = true)
    (ha : PA X (e :: es) (tR c W ra)) (hkw : PK X kws (tR c W rk)) (hall : (backToKw pos (keywordEach kws X.env)).all (·.1.isSome) = true := by rfl) (hks : (backToKw pos (keywordEach kws X.env)).filterMap (·.1) = ks := by rfl)
    (hdb : (x == ("__debug__" : Str)) = false := by decide) (he : starEach (e :: es) X.env = (false, eval e X.env) :: starEach es X.env := by rfl)
    (hpl : ((backTo pos (starEach (e :: es) X.env)).any (·.1) || (backToKw pos (keywordEach kws X.env)).any (·.1.isNone)) = false := by rfl) :
    PE X (.Call (.Name x p) (e :: es) kws pos) (tD c W (callS cf gD ra rk)) := call_imp (pr_callK R hg hm hk ha hkw hall hks hdb he hpl) fun σ H Q H0 F env g q => call_read A K hl hlk g q
theorem dl_callK0 (A : Arr c gD gV) (K : CallOk c W cf gV sp) (R : Runs X (.ref f) 0 ks sp) (hlk : LenR rk ks.length) (hg : Gl X x) (hm : X.mg x = some (.ref f)) (hk : PySem.W.keepIn X.K (.ref f) = true)
    (hkw : PK X kws (tR c W rk)) (hall : (backToKw pos (keywordEach kws X.env)).all (·.1.isSome) = true := by rfl) (hks : (backToKw pos (keywordEach kws X.env)).filterMap (·.1) = ks := by rfl)
    (hdb : (x == ("__debug__" : Str)) = false := by decide) (hpl : ((backTo pos (starEach [] X.env)).any (·.1) || (backToKw pos (keywordEach kws X.env)).any (·.1.isNone)) = false := by rfl) :
    PE X (.Call (.Name x p) [] kws pos) (tD c W (callS cf gD nilR rk)) := call_imp (pr_callK0 R hg hm hk hkw hall hks hdb hpl) fun σ H Q H0 F env g q => by
  obtain ⟨H0', F', env', g', k⟩ := call_read (n := 0) A K len_nil hlk g q
  exact k.ret g' [] rfl
end
end DL
namespace DL
open PySem PySem.Spec PyProof.Rows L2
section
variable {c : Kc} {W : WX} {X : Cx} {x m : Str} {p pos apos : Pos} {e o : Expr} {es : List Expr} {kws : List Keyword} {n : Nat} {ks : List Str} {f C : Addr} {fn : List SV → Out D} {ds : List D} {dvs : List V} {ra rk : Env → Out (List It)} {ro : Env → Out D}
/-- o.m(..), o an instance of the class cn -/
noncomputable def methS (cn m : Str) (fn : List SV → Out D) (ds : List D) (ro : Env → Out D) (ra : Env → Out (List It)) (e : Env) : Out D := (ro e).bind fun d e1 => match d with
  | .obj cn' ns l => if cn' = cn ∧ (ns.contains m) = false then (ra e1).bind fun its e2 => if refsB its e2 = true then fnCall fn (.d (.obj cn' ns l) :: (its ++ ds.map .d)) e2 else .no else .no
  | _ => .no
theorem lookup_none_of {m : Str} : ∀ {fs : List (Str × V)}, (fs.map (·.1)).contains m = false → fs.lookup m = none
  | [], _ => rfl
  | (g, v) :: r, h => by
    simp only [List.map_cons, List.contains_cons, Bool.or_eq_false_iff] at h
    show List.lookup m ((g, v) :: r) = none
    unfold List.lookup
    rw [h.1]
    exact lookup_none_of h.2
theorem meth_read {cn : Str} {H0 F H : Hp} {env : Env} {σ : L2.St} {Q : VK} (hc : c.cm cn = some C) (hl : LenR ra n) (hd : ∀ F, RpL c.K c.cm F ds dvs)
    (g : c.Good H0 F env σ H) (q : Res c W H0 F env σ (methS cn m fn ds ro ra env) fun d _ F' H' => ∀ v, Rp c.K c.cm F' d v → Q v H') :
    tRunM C m n (fun σ vs _ H Q => spF c fn (vs ++ dvs) H Q (W σ)) (tD c W ro) (tR c W ra) σ H Q := by
  refine ⟨H0, F, env, g, ?_⟩
  cases e1 : ro env with
  | no => unfold methS at q; rw [e1] at q; exact q
  | ex x e => unfold methS at q; rw [e1] at q; exact q
  | ok d ev1 =>
    unfold methS at q
    rw [e1] at q
    intro F1 H1 s1 v hv
    have q1 := Res.base s1 q
    simp only [bind_ok] at q1
    cases d with
    | obj cn' ns l =>
      simp only at q1
      split at q1
      · rename_i hh
        obtain ⟨h1, h2⟩ := hh
        subst h1
        have hv0 := hv
        simp only [Rp] at hv
        obtain ⟨a, dx, C', fs, rfl, hC, k1, k2, k3, r⟩ := hv
        rw [hc] at hC; cases hC
        refine ⟨a, dx, fs, rfl, s1.good.le _ _ k1, lookup_none_of (by rw [k3]; exact h2), H0, F1, ev1, s1.good, ?_⟩
        cases e2 : ra ev1 with
        | no => rw [e2] at q1; exact q1
        | ex x e => rw [e2] at q1; exact q1
        | ok its ev2 =>
          rw [e2] at q1
          intro F2 H2 s2 vs hvs
          have q2 := Res.base s2 q1
          simp only [bind_ok] at q2
          refine ⟨(its_len hvs).trans (hl _ _ _ e2), ?_⟩
          split at q2
          · have hi : ItsOk c F2 ev2 σ (.d (.obj cn' ns l) :: (its ++ ds.map .d)) (.ref a :: (vs ++ dvs)) := ⟨_, _, rfl, Rp.mono s2.same _ _ hv0, its_app hvs (its_ds (hd F2))⟩
            exact s2.good.call hi q2 fun d e F' H' h => h
          · exact q2.elim
      · exact q1.elim
    | _ => exact q1.elim
theorem dl_meth {cn : Str} {pl : Sem Bool} (hc : c.cm cn = some C) (R : Runs X (.ref f) (n + 1) [] fun σ vs _ H Q => spF c fn (vs ++ dvs) H Q (W σ)) (hd : ∀ F, RpL c.K c.cm F ds dvs) (hl : LenR ra n) (cl : Cls X.K C) (hm : Meth X.K C m f) (ho : PE X o (tD c W ro)) (ha : PA X (e :: es) (tR c W ra))
    (hst : starEach (e :: es) X.env = (false, eval e X.env) :: starEach es X.env := by rfl) (hpl : (backTo pos (starEach es X.env)).any (·.1) = false := by rfl)
    (ht : eval (.Call (.Attribute o m apos) (e :: es) [] pos) X.env = (do
      let ov ← eval o X.env
      standAt apos.atName
      let (f, first) ← holding [ov] (getMethod ov m pl)
      callWith pos f first (backTo pos (starEach (e :: es) X.env)) (backToKw pos (keywordEach [] X.env))) := by rfl) :
    PE X (.Call (.Attribute o m apos) (e :: es) [] pos) (tD c W (methS cn m fn ds ro ra)) := call_imp (pr_meth ho cl hm R ha hst hpl ht) fun σ H Q H0 F env g q => by
  exact meth_read hc hl hd g q
end
/-- a change where nobody looks -/
theorem Good.poke {c : Kc} {H0 F H : Hp} {env : Env} {σ : L2.St} {x : Addr} {o : HO} (g : c.Good H0 F env σ H) (h0 : H0 x ≠ none) (f : F x = none) (no : ∀ (i : Nat) sv, env[i]? = some sv → sv.isO = true → σ[i]? ≠ some (some (.ref x))) :
    c.Good (upd H0 x o) F env σ (upd H x o) := by
  refine ⟨fun b u e => ?_, g.len, fun i sv e => ?_, g.sep, fun b u e q => ?_, fun i ov b e z => ?_⟩
  · rw [upd_ne (ne_of_none e f)]; exact g.le b u e
  · have h := g.slot i sv e
    have key : ∀ {b : Addr} {ov : OV}, sv.isO = true → σ[i]? = some (some (.ref b)) → RO c.K c.cm F H b ov → RO c.K c.cm F (upd H x o) b ov := fun {b ov} so hb r =>
      r.mono (Same.refl _) (upd_ne fun z => by subst z; exact no i sv e so hb)
    cases sv with
    | un => trivial
    | dat d => exact h
    | exc d => exact h
    | own ov => obtain ⟨b, h1, h2, h3⟩ := h; exact ⟨b, h1, h2, key rfl h1 h3⟩
    | bor ov => obtain ⟨b, h1, h2, h3⟩ := h; exact ⟨b, h1, h2, key rfl h1 h3⟩
  · by_cases hb : b = x
    · subst hb; rw [upd_same] at e ⊢; exact e
    · rw [upd_ne hb] at e ⊢; exact g.frame b u e q
  · have ne : b ≠ x := fun hb => by subst hb; exact h0 (g.fresh i ov b e z)
    rw [upd_ne ne]; exact g.fresh i ov b e z
theorem upd_upd {H : Hp} {x : Addr} {o o' : HO} : upd (upd H x o) x o' = upd H x o' := by
  funext b
  by_cases h : b = x
  · subst h; rw [upd_same, upd_same]
  · rw [upd_ne h, upd_ne h, upd_ne h]
theorem upd_self {H : Hp} {x : Addr} {o : HO} (h : H x = some o) : upd H x o = H := by
  funext b
  by_cases hb : b = x
  · subst hb; rw [upd_same, h]
  · rw [upd_ne hb]
noncomputable def putFD (f : Str) (d : D) : List (Str × D) → List (Str × D)
  | [] => [(f, d)]
  | (g, x) :: r => if g = f then (g, d) :: r else (g, x) :: putFD f d r
section
variable (c : Kc)
/-- fields by data -/
noncomputable def FsOk (F : Hp) (fs : List (Str × D)) (fvs : List (Str × V)) : Prop := fvs.map (·.1) = fs.map (·.1) ∧ RpL c.K c.cm F (fs.map (·.2)) (fvs.map (·.2))
/-- within __init__: the slot 0 bears the new instance -/
structure InI (H0 F : Hp) (env : Env) (σ : L2.St) (C x dx : Addr) (fs : List (Str × D)) (fvs : List (Str × V)) : Prop where
  s0 : σ[0]? = some (some (.ref x))
  e0 : env[0]? = some .un
  ob : H0 x = some (.ins C dx fvs)
  no : ∀ (i : Nat) sv, env[i]? = some sv → sv.isO = true → σ[i]? ≠ some (some (.ref x))
  fr : F x = none
  ok : FsOk c F fs fvs
/-- THE canonical reading of a statement of __init__ -/
noncomputable def tN (C : Addr) (W : WX) (r : Env → List (Str × D) → Out (List (Str × D))) : TS := fun D σ H => ∃ H0 F env x dx fs fvs, c.Good H0 F env σ H ∧ InI c H0 F env σ C x dx fs fvs ∧ match r env fs with
  | .no => False
  | .ok fs' env' => ∀ σ' F' H' fvs', StepS c (upd H0 x (.ins C dx fvs')) F env σ F' env' σ' H' → InI c (upd H0 x (.ins C dx fvs')) F' env' σ' C x dx fs' fvs' → D.nx σ' H'
  | .ex x0 env' => ∀ σ' F' H' cl d fvs', StepS c (upd H0 x (.ins C dx fvs')) F env σ F' env' σ' H' → XRep c F' H' x0 cl d → W σ' cl d H'
end
section
variable {c : Kc} {W : WX} {X : Cx} {C : Addr} {r1 r2 : Env → List (Str × D) → Out (List (Str × D))} {s : Stmt} {ss : List Stmt} {H0 F F' H H' : Hp} {env env' : Env} {σ σ' : L2.St} {x dx : Addr} {fs fs' : List (Str × D)} {fvs fvs' : List (Str × V)} {o o' : HO}
theorem StepS.poke (s : StepS c H0 F env σ F' env' σ' H') (h0 : H0 x ≠ none) (f : F x = none) (no : ∀ (i : Nat) sv, env'[i]? = some sv → sv.isO = true → σ'[i]? ≠ some (some (.ref x))) : StepS c (upd H0 x o) F env σ F' env' σ' (upd H' x o) := by
  have f' : F' x = none := by
    cases e : F' x with
    | none => rfl
    | some u => have := s.old x u h0 e; rw [f] at this; cases this
  refine ⟨s.same, s.good.poke h0 f' no, fun a u n e => ?_, s.len, s.bor, s.rob⟩
  by_cases ha : a = x
  · subst ha; rw [f'] at e; cases e
  · rw [upd_ne ha] at n; exact s.old a u n e
noncomputable def nilN (e : Env) (fs : List (Str × D)) : Out (List (Str × D)) := .ok fs e
noncomputable def seqN (r1 r2 : Env → List (Str × D) → Out (List (Str × D))) (e : Env) (fs : List (Str × D)) : Out (List (Str × D)) := (r1 e fs).bind fun fs' e' => r2 e' fs'
theorem dl_nilN : PSs X [] (tN c C W nilN) := pss_nil.imp fun D σ H ⟨H0, F, env, x, dx, fs, fvs, g, I, q⟩ => by
  have := q σ F H fvs
  rw [upd_self I.ob] at this
  exact this (StepS.refl g) I
theorem dl_seqN (h1 : PS X s (tN c C W r1)) (h2 : PSs X ss (tN c C W r2)) : PSs X (s :: ss) (tN c C W (seqN r1 r2)) := (pss_cons h1 h2).imp fun D σ H ⟨H0, F, env, x, dx, fs, fvs, g, I, q⟩ => by
  refine ⟨H0, F, env, x, dx, fs, fvs, g, I, ?_⟩
  unfold seqN at q
  cases e1 : r1 env fs with
  | no => rw [e1] at q; exact q
  | ex x0 e =>
    rw [e1] at q
    exact q
  | ok fs1 env1 =>
    rw [e1, bind_ok] at q
    intro σ1 F1 H1 fvs1 s1 I1
    refine ⟨_, F1, env1, x, dx, fs1, fvs1, s1.good, I1, ?_⟩
    cases e2 : r2 env1 fs1 with
    | no => rw [e2] at q; exact q
    | ok fs2 env2 =>
      rw [e2] at q
      intro σ2 F2 H2 fvs2 s2 I2
      rw [upd_upd] at s2 I2
      have h0 : (upd H0 x (.ins C dx fvs1)) x ≠ none := by rw [upd_same]; simp
      have s1' := s1.poke (o := .ins C dx fvs2) h0 I.fr I1.no
      rw [upd_upd] at s1'
      refine q σ2 F2 H2 fvs2 ?_ I2
      exact ⟨s1'.same.trans s2.same, s2.good, fun a u n e => s1'.old a u n (s2.old a u n e), s2.len.trans s1'.len, fun i ov e => by
        obtain ⟨⟨o1, w1⟩, w2⟩ := s1'.bor i ov e
        obtain ⟨w3, w4⟩ := s2.bor i o1 w1
        exact ⟨w3, w4.trans w2⟩, fun i ov e => by
        obtain ⟨o1, w1⟩ := s2.rob i ov e
        exact s1'.rob i o1 w1⟩
    | ex x0 env2 =>
      rw [e2] at q
      intro σ2 F2 H2 cl d fvs2 s2 hx
      rw [upd_upd] at s2
      have h0 : (upd H0 x (.ins C dx fvs1)) x ≠ none := by rw [upd_same]; simp
      have s1' := s1.poke (o := .ins C dx fvs2) h0 I.fr I1.no
      rw [upd_upd] at s1'
      refine q σ2 F2 H2 cl d fvs2 ?_ hx
      exact ⟨s1'.same.trans s2.same, s2.good, fun a u n e => s1'.old a u n (s2.old a u n e), s2.len.trans s1'.len, fun i ov e => by
        obtain ⟨⟨o1, w1⟩, w2⟩ := s1'.bor i ov e
        obtain ⟨w3, w4⟩ := s2.bor i o1 w1
        exact ⟨w3, w4.trans w2⟩, fun i ov e => by
        obtain ⟨o1, w1⟩ := s2.rob i ov e
        exact s1'.rob i o1 w1⟩
/-- a statement that leaves the instance alone -/
noncomputable def doN (r : Env → Out D) (e : Env) (fs : List (Str × D)) : Out (List (Str × D)) := (r e).bind fun _ e' => .ok fs e'
theorem dl_doN {e : Expr} {pos : Pos} {re : Env → Out D} (h : PE X e (tD c W re)) (hs : swapsWith e none pos.line X.env = pure false := by rfl) : PS X (.Expr e pos) (tN c C W (doN re)) := (ps_expr h hs).imp fun D σ H ⟨H0, F, env, x, dx, fs, fvs, g, I, q⟩ => by
  refine ⟨H0, F, env, g, ?_⟩
  unfold doN at q
  cases e1 : re env with
  | no => rw [e1] at q; exact q
  | ex x0 e =>
    rw [e1] at q
    intro F' H' cl d st hx
    refine q σ F' H' cl d fvs ?_ hx
    rw [upd_self I.ob]; exact st.toS
  | ok d env' =>
    rw [e1, bind_ok] at q
    intro F' H' st v hv
    have s' := st.toS
    have f' : F' x = none := by
      cases e : F' x with
      | none => rfl
      | some u => have := s'.old x u (by rw [I.ob]; simp) e; rw [I.fr] at this; cases this
    refine q σ F' H' fvs (by rw [upd_self I.ob]; exact s') ?_
    rw [upd_self I.ob]
    refine ⟨I.s0, ?_, I.ob, fun i sv e so => ?_, f', I.ok.1, RpL.mono st.same _ _ I.ok.2⟩
    · obtain ⟨t, e2, l⟩ := st.le.at_ 0 _ I.e0
      cases l; exact e2
    · obtain ⟨t, e2, l⟩ := st.le.back e
      refine I.no i t e2 ?_
      cases t with
      | un => cases l; cases so
      | dat d => cases l; cases so
      | exc d => cases l; cases so
      | own ov => rfl
      | bor ov => rfl
theorem putF_fs {f : Str} {d : D} {v : V} (hv : Rp c.K c.cm F d v) : ∀ {fs : List (Str × D)} {fvs : List (Str × V)}, FsOk c F fs fvs → FsOk c F (putFD f d fs) (putF f v fvs)
  | [], fvs, ⟨h1, h2⟩ => by
    have : fvs = [] := by cases fvs with | nil => rfl | cons a l => simp at h1
    subst this
    exact ⟨rfl, .cons hv .nil⟩
  | (g, y) :: fs, [], ⟨h1, h2⟩ => by simp at h1
  | (g, y) :: fs, (g', y') :: fvs, ⟨h1, h2⟩ => by
    simp only [List.map_cons, List.cons.injEq] at h1
    obtain ⟨e, h1⟩ := h1
    have e : g' = g := e
    subst e
    simp only [List.map_cons, RpL] at h2
    obtain ⟨v', r, e, h2, h3⟩ := h2
    obtain ⟨e1, e2⟩ := List.cons.inj e
    have e1 : y' = v' := e1
    subst e1
    show FsOk c F (if g' = f then (g', d) :: fs else (g', y) :: putFD f d fs) (if g' = f then (g', v) :: fvs else (g', y') :: putF f v fvs)
    by_cases hg : g' = f
    · rw [if_pos hg, if_pos hg]
      refine ⟨by simp [h1], ?_⟩
      exact .cons hv (by rw [e2]; exact h3)
    · rw [if_neg hg, if_neg hg]
      obtain ⟨k1, k2⟩ := putF_fs (f := f) hv (fs := fs) (fvs := fvs) ⟨h1, by rw [e2]; exact h3⟩
      exact ⟨by simp [k1], .cons h2 k2⟩
/-- self.f = e -/
noncomputable def fldN (f : Str) (r : Env → Out D) (e : Env) (fs : List (Str × D)) : Out (List (Str × D)) := (r e).bind fun d e' => if fs.length < 1000 then .ok (putFD f d fs) e' else .no
theorem dl_fldN {o e : Expr} {f : Str} {pos pos' : Pos} {re : Env → Out D} (hc : Cls X.K C ∧ NoAttr X.K C f) (ho : PE X o (tVar 0)) (h : PE X e (tD c W re)) (hs : swapsWith e (some (.Attribute o f pos')) pos.line X.env = pure false := by rfl) :
    PS X (.Assign [.Attribute o f pos'] e pos) (tN c C W (fldN f re)) := (ps_fld ho h hs).imp fun D σ H ⟨H0, F, env, x, dx, fs, fvs, g, I, q⟩ => by
  refine ⟨H0, F, env, g, ?_⟩
  unfold fldN at q
  cases e1 : re env with
  | no => rw [e1] at q; exact q
  | ex x0 e =>
    rw [e1] at q
    intro F' H' cl d st hx
    refine q σ F' H' cl d fvs ?_ hx
    rw [upd_self I.ob]; exact st.toS
  | ok d env' =>
    rw [e1, bind_ok] at q
    intro F' H' st v hv
    have s' := st.toS
    have h0 : H0 x ≠ none := by rw [I.ob]; simp
    have f' : F' x = none := by
      cases e : F' x with
      | none => rfl
      | some u => have := s'.old x u h0 e; rw [I.fr] at this; cases this
    have no' : ∀ (i : Nat) sv, env'[i]? = some sv → sv.isO = true → σ[i]? ≠ some (some (.ref x)) := fun i sv e so => by
      obtain ⟨t, e2, l⟩ := st.le.back e
      refine I.no i t e2 ?_
      cases t with
      | un => cases l; cases so
      | dat d => cases l; cases so
      | exc d => cases l; cases so
      | own ov => rfl
      | bor ov => rfl
    have hx : H' x = some (.ins C dx fvs) := st.good.frame x _ I.ob fun i sv e b => no' i sv e (SV.isO_of_isB b)
    have e0' : env'[0]? = some .un := by
      obtain ⟨t, e2, l⟩ := st.le.at_ 0 _ I.e0
      cases l; exact e2
    by_cases hl : fs.length < 1000
    · rw [if_pos hl] at q
      have hl' : fvs.length < 1000 := by
        have := congrArg List.length I.ok.1
        rw [List.length_map, List.length_map] at this
        omega
      refine ⟨_, I.s0, x, C, dx, fvs, rfl, hx, hc.1, hc.2, hl', ?_⟩
      refine q σ F' _ (putF f v fvs) (s'.poke h0 I.fr no') ⟨I.s0, e0', upd_same, no', f', putF_fs hv ⟨I.ok.1, RpL.mono st.same _ _ I.ok.2⟩⟩
    · rw [if_neg hl] at q; exact q.elim
end
end DL
namespace DL
open PySem PySem.Spec PyProof.Rows L2
section
variable {c : Kc} {H0 F F' H H' : Hp} {e e' : Env} {τ τ' : L2.St} {v v' : Option V}
theorem Good.cons_un (g : c.Good H0 F e τ H) : c.Good H0 F (.un :: e) (v :: τ) H := by
  refine ⟨g.le, by simp [g.len], fun i sv q => ?_, fun i j sv tv a n q1 q2 o1 o2 r => ?_, fun a o q z => g.frame a o q fun i sv q1 b => by simpa using z (i + 1) sv (by simpa using q1) b, fun i o a q z => ?_⟩
  · cases i with
    | zero => simp at q; subst q; trivial
    | succ i => simpa using g.slot i sv (by simpa using q)
  · cases i with
    | zero => simp at q1; subst q1; cases o1
    | succ i =>
      cases j with
      | zero => simp at q2; subst q2; cases o2
      | succ j => simpa using g.sep i j sv tv a (by omega) (by simpa using q1) (by simpa using q2) o1 o2 (by simpa using r)
  · cases i with
    | zero => simp at q
    | succ i => exact g.fresh i o a (by simpa using q) (by simpa using z)
theorem Good.tl_un (g : c.Good H0 F (.un :: e) (v :: τ) H) : c.Good H0 F e τ H := by
  refine ⟨g.le, by simpa using g.len, fun i sv q => by simpa using g.slot (i + 1) sv (by simpa using q), fun i j sv tv a n q1 q2 o1 o2 r => by
    simpa using g.sep (i + 1) (j + 1) sv tv a (by omega) (by simpa using q1) (by simpa using q2) o1 o2 (by simpa using r), fun a o q z => g.frame a o q fun i sv q1 b => ?_, fun i o a q z => g.fresh (i + 1) o a (by simpa using q) (by simpa using z)⟩
  cases i with
  | zero => simp at q1; subst q1; cases b
  | succ i => simpa using z i sv (by simpa using q1) b
theorem StepS.tl_un (s : StepS c H0 F (.un :: e) (v :: τ) F' (.un :: e') (v' :: τ') H') : StepS c H0 F e τ F' e' τ' H' :=
  ⟨s.same, s.good.tl_un, s.old, by simpa using s.len, fun i o q => by simpa using s.bor (i + 1) o (by simpa using q), fun i o q => by simpa using s.rob (i + 1) o (by simpa using q)⟩
end
section
variable (c : Kc)
/-- what an __init__ promises -/
noncomputable def spI (C : Addr) (fn : List SV → Out (List (Str × D))) : L2.Sp := fun vs H Q E => ∃ x dx us F svs, vs = .ref x :: us ∧ H x = some (.ins C dx []) ∧ F x = none ∧ c.Good H F svs (us.map some) H ∧ noOwn svs = true ∧
  (∀ (i : Nat) sv, svs[i]? = some sv → sv.isO = true → (us.map some)[i]? ≠ some (some (.ref x))) ∧ match fn svs with
  | .no => False
  | .ok fs svs' => ∀ F' H' fvs, StepS c (upd H x (.ins C dx fvs)) F svs (us.map some) F' svs' (us.map some) H' → F' x = none → FsOk c F' fs fvs → Q .non H'
  | .ex x0 svs' => ∀ F' H' cl d fvs, StepS c (upd H x (.ins C dx fvs)) F svs (us.map some) F' svs' (us.map some) H' → XRep c F' H' x0 cl d → E cl d H'
noncomputable def fnN (n tot : Nat) (rb : Env → List (Str × D) → Out (List (Str × D))) (svs : List SV) : Out (List (Str × D)) := if svs.length + 1 = n then (match rb (.un :: (svs ++ List.replicate (tot - n) .un)) [] with
    | .ok fs (_ :: e) => .ok fs (backA svs e)
    | .ex x (_ :: e) => .ex x (backA svs e)
    | _ => .no) else .no
end
section
variable {c : Kc} {W : WX} {X : Cx} {C : Addr} {H0 F F' H H' : Hp} {env env' : Env} {σ σ' : L2.St} {Q : VK} {E : XK}
theorem init_of {svs : List SV} {vs us : List V} {N : List Str} {n : Nat} {x dx : Addr} {rb : Env → List (Str × D) → Out (List (Str × D))} {fn : List SV → Out (List (Str × D))} (hW : W = fun _ => E) (hn : vs.length = n)
    (hf : ∀ svs, fn svs ≠ .no → fnN n N.length rb svs = fn svs) (h : spI c C fn vs H Q E) : tN c C W rb { nx := fun _ H' => Q .non H', rt := Q } (L2.start N vs) H := by
  subst hW
  obtain ⟨x, dx, us, F, svs, rfl, hx, fx, g, no, nx, h⟩ := h
  have nn : fn svs ≠ .no := fun e => by rw [e] at h; exact h
  have hl : svs.length + 1 = n := by rw [← hn]; have := g.len; simp at this ⊢; omega
  rw [← hf svs nn] at h
  unfold fnN at h
  rw [if_pos hl] at h
  have g1 : c.Good H F (.un :: svs) ((V.ref x :: us).map some) H := g.cons_un
  have g2 := g1.args N (N.length - n) (by rw [hn])
  have nx1 : ∀ (i : Nat) sv, (SV.un :: svs)[i]? = some sv → sv.isO = true → ((V.ref x :: us).map some)[i]? ≠ some (some (.ref x)) := fun i sv e so => by
    cases i with
    | zero => simp at e; subst e; cases so
    | succ i => simpa using nx i sv (by simpa using e) so
  have no1 : noOwn (.un :: svs) = true := no
  have st0 : (L2.start N (V.ref x :: us))[0]? = some (some (.ref x)) := by unfold L2.start; simp
  refine ⟨H, F, _, x, dx, [], [], g2, ⟨st0, rfl, hx, fun i sv e so => ?_, fx, rfl, .nil⟩, ?_⟩
  · have e' : (SV.un :: svs ++ List.replicate (N.length - n) SV.un)[i]? = some sv := e
    by_cases hi : i < (SV.un :: svs).length
    · rw [List.getElem?_append_left hi] at e'
      have := nx1 i sv e' so
      unfold L2.start
      rw [List.getElem?_append_left (by have := g.len; simp at hi this ⊢; omega)]
      exact this
    · rw [List.getElem?_append_right (by omega)] at e'
      have := List.eq_of_mem_replicate (List.mem_of_getElem? e')
      subst this; cases so
  · have key : ∀ {fvs : List (Str × V)} {F' H' : Hp} {e : Env} {y : SV} {σ' : L2.St}, StepS c (upd H x (.ins C dx fvs)) F (.un :: svs ++ List.replicate (N.length - n) .un) (L2.start N (V.ref x :: us)) F' (y :: e) σ' H' →
        StepS c (upd H x (.ins C dx fvs)) F svs (us.map some) F' (backA svs e) (us.map some) H' := fun {fvs F' H' e y σ'} st => by
      have h0 : H x ≠ none := by rw [hx]; simp
      have g3 := g1.poke (o := .ins C dx fvs) h0 fx nx1
      have := StepS.toArgs (vs := V.ref x :: us) g3 no1 st
      exact StepS.tl_un (v := some (.ref x)) (v' := some (.ref x)) this
    show match rb (.un :: svs ++ List.replicate (N.length - n) SV.un) [] with | .no => False | .ok fs' env' => _ | .ex x0 env' => _
    have e0 : (SV.un :: svs ++ List.replicate (N.length - n) SV.un) = SV.un :: (svs ++ List.replicate (N.length - n) SV.un) := rfl
    rw [e0]
    cases hr : rb (.un :: (svs ++ List.replicate (N.length - n) .un)) [] with
    | no => rw [hr] at h; exact h
    | ex x0 e =>
      rw [hr] at h
      cases e with
      | nil => exact h.elim
      | cons y e => exact fun σ' F' H' cl d fvs st hx => h F' H' cl d fvs (key st) hx
    | ok fs e =>
      rw [hr] at h
      cases e with
      | nil => exact h.elim
      | cons y e => exact fun σ' F' H' fvs st I => h F' H' fvs (key st) I.fr I.ok
/-- what a class gives for arguments -/
noncomputable def mkCall (cn : Str) (fn : List SV → Out (List (Str × D))) (its : List It) (e : Env) : Out D := if nodupB (refsOf its) = true then (match fn (svsOf e its) with
    | .no => .no
    | .ok fs svs' => .ok (.obj cn (fs.map (·.1)) (fs.map (·.2))) (putBack its svs' e)
    | .ex x svs' => .ex x (putBack its svs' e)) else .no
theorem Good.make {cn : Str} {its : List It} {vs : List V} {fn : List SV → Out (List (Str × D))} {k : D → Env → Hp → Hp → Prop} {gV : List V → List V → List V} {ws zs : List V} (hC : c.cm cn = some C) (hv : gV ws zs = vs) (g : c.Good H0 F env σ H) (h : ItsOk c F env σ its vs)
    (q : Res c W H0 F env σ (mkCall cn fn its env) k) (hk : ∀ d e F' H', k d e F' H' → ∀ v, Rp c.K c.cm F' d v → Q v H') : spMake C (spI c C fn) gV (W σ) ws zs H Q := by
  intro x dx hx hdx ne
  subst hv
  unfold mkCall at q
  split at q
  · rename_i nd
    have nd := nodupB_iff nd
    obtain ⟨g1, a1⟩ := g.lay (o := .own x) hdx
    have hx1 : upd H dx (.own x) x = none := by rw [upd_ne (Ne.symm ne)]; exact hx
    obtain ⟨g2, a2⟩ := g1.lay (o := .ins C dx []) hx1
    have hh := g2.handed h nd
    have nx : ∀ (i : Nat) sv, (svsOf env its)[i]? = some sv → sv.isO = true → ((gV ws zs).map some)[i]? ≠ some (some (.ref x)) := fun i sv e so z => by
      have hi : i < its.length := by rw [← svs_len env its]; exact (List.getElem?_eq_some_iff.mp e).1
      obtain ⟨v, w1, w2⟩ := its_at h (k := i) (it := its[i]) (by simp [hi])
      cases hit : its[i] with
      | d y => rw [hit] at w2; rw [e] at w2; cases w2.2; cases so
      | r j =>
        rw [hit] at w2
        obtain ⟨z1, o, z2, z3⟩ := w2
        rw [List.getElem?_map, w1] at z
        have : v = .ref x := by simpa using z
        subst this
        cases e1 : env[j]? with
        | none => rw [e1] at z2; cases z2
        | some s1 =>
          rw [e1] at z2
          exact a2.no j s1 e1 (by cases s1 <;> first | rfl | cases z2) z1
    -- behind the call
    have key : ∀ {svs' : List SV} {F' H' : Hp} {fvs : List (Str × V)}, StepS c (upd (upd (upd H dx (.own x)) x (.ins C dx [])) x (.ins C dx fvs)) F (svsOf env its) ((gV ws zs).map some) F' svs' ((gV ws zs).map some) H' → F' x = none →
        Step c H0 F env σ F' (putBack its svs' env) H' ∧ Apart (putBack its svs' env) σ H0 F' H' x (.ins C dx fvs) ∧ Apart (putBack its svs' env) σ H0 F' H' dx (.own x) := fun {svs' F' H' fvs} st fx => by
      obtain ⟨g3, a3⟩ := g2.changeApart (o' := .ins C dx fvs) a2
      have s3 := g3.called h nd st
      have no3 : ∀ {p : Addr} {o : HO}, Apart env σ H0 F (upd (upd (upd H dx (.own x)) x (.ins C dx [])) x (.ins C dx fvs)) p o → F' p = none → Apart (putBack its svs' env) σ H0 F' H' p o := fun {p o} a fp => by
        have no : ∀ (i : Nat) sv, (putBack its svs' env)[i]? = some sv → sv.isO = true → σ[i]? ≠ some (some (.ref p)) := fun i sv e so => by
          obtain ⟨t, e1, l⟩ := s3.le.back e
          refine a.no i t e1 ?_
          cases t with
          | un => cases l; cases so
          | dat d => cases l; cases so
          | exc d => cases l; cases so
          | own ov => rfl
          | bor ov => rfl
        refine ⟨fp, ?_, a.h0, no⟩
        refine st.good.frame p o a.h fun k sv e b z => ?_
        obtain ⟨ox, rfl⟩ : ∃ o, sv = .bor o := by cases sv <;> first | exact ⟨_, rfl⟩ | cases b
        obtain ⟨o', q1⟩ := st.rob k _ e
        have hi : k < its.length := by rw [← svs_len env its]; exact (List.getElem?_eq_some_iff.mp q1).1
        obtain ⟨v, w1, w2⟩ := its_at h (k := k) (it := its[k]) (by simp [hi])
        cases hit : its[k] with
        | d y => rw [hit] at w2; rw [q1] at w2; cases w2.2
        | r j =>
          rw [hit] at w2
          obtain ⟨z1, o2, z2, z3⟩ := w2
          rw [List.getElem?_map, w1] at z
          have : v = .ref p := by simpa using z
          subst this
          cases e1 : env[j]? with
          | none => rw [e1] at z2; cases z2
          | some s1 =>
            rw [e1] at z2
            exact a.no j s1 e1 (by cases s1 <;> first | rfl | cases z2) z1
      refine ⟨s3, no3 a3 fx, no3 (o := .own x) ⟨a1.f, ?_, a1.h0, a1.no⟩ ?_⟩
      · rw [upd_upd, upd_ne ne]; exact a1.h
      · cases e : F' dx with
        | none => rfl
        | some u =>
          have := st.old dx u (by rw [upd_upd, upd_ne ne, upd_same]; simp) e
          rw [a1.f] at this; cases this
    refine ⟨x, dx, _, F, svsOf env its, rfl, upd_same, a2.f, hh, svs_noOwn _ _, nx, ?_⟩
    cases e : fn (svsOf env its) with
    | no => rw [e] at q; exact q
    | ok fs svs' =>
      rw [e] at q
      intro F' H' fvs st fx hfs
      obtain ⟨s3, b1, b2⟩ := key st fx
      have s4 := s3.good.hold b2
      have b1' : Apart (putBack its svs' env) σ H0 (upd F' dx (.own x)) H' x (.ins C dx fvs) := ⟨by rw [upd_ne (Ne.symm ne)]; exact b1.f, b1.h, b1.h0, b1.no⟩
      have s5 := s4.good.hold b1'
      refine ⟨rfl, hk _ _ _ _ (q _ _ ((s3.trans s4).trans s5)) (.ref x) ?_⟩
      simp only [Rp]
      refine ⟨x, dx, C, fvs, rfl, hC, upd_same, ?_, hfs.1, RpL.mono (s4.same.trans s5.same) _ _ hfs.2⟩
      rw [upd_ne ne, upd_same]
    | ex x0 svs' =>
      rw [e] at q
      intro F' H' cl d fvs st hx
      have fx : F' x = none := by
        cases e : F' x with
        | none => rfl
        | some u =>
          have := st.old x u (by rw [upd_same]; simp) e
          rw [a2.f] at this; cases this
      obtain ⟨s3, b1, b2⟩ := key st fx
      exact q _ _ _ _ s3 hx
  · exact q.elim
theorem callOk_mk {cn : Str} {fn : List SV → Out (List (Str × D))} {gV : List V → List V → List V} (hC : c.cm cn = some C) : CallOk c W (mkCall cn fn) gV fun σ => spMake C (spI c C fn) gV (W σ) :=
  ⟨fun H0 F H env σ Q its vs zs g h q => g.make hC rfl h q fun d e F' H' h => h⟩
end
end DL
namespace PySem.W
open PySem PyProof.Rows
end PySem.W
namespace DL
open PySem PySem.Spec PyProof.Rows L2
section
variable {c : Kc} {X : Cx} {C : Addr}
/-- == (n: !=) of data, of instances of the class cn by what its __eq__ tells -/
noncomputable def eqA (cn : Str) (fn : List SV → Out D) (n : Bool) (x y : D) (e : Env) : Out D := match x, y with
  | .obj c1 n1 l1, .obj c2 n2 l2 => if c1 = cn ∧ c2 = cn then (match fn [.dat (.obj c1 n1 l1), .dat (.obj c2 n2 l2)] with
      | .ok (.bl b) _ => .ok (.bl (if n then !b else b)) e
      | _ => .no) else .no
  | x, y => pur2 (eqF n) x y e
end
end DL
namespace DL
open PySem PySem.Spec PyProof.Rows L2
/-- a new object that nobody knows yet -/
noncomputable def NewO (c : Kc) (H0 F : Hp) (env : Env) (σ : L2.St) (H : Hp) (o : OV) (v : V) : Prop := ∃ p ho, v = .ref p ∧ Apart env σ H0 F H p ho ∧ RO c.K c.cm F H p o
noncomputable def tNew (c : Kc) (W : WX) (r : Env → Out OV) : TE := fun σ H Q => ∃ H0 F env, c.Good H0 F env σ H ∧ Res c W H0 F env σ (r env) fun o e F' H' => ∀ v, NewO c H0 F' e σ H' o v → Q v H'
noncomputable def newK (e : Env) : Out OV := .ok (.K [] []) e
noncomputable def newL (r : Env → Out (List D)) (e : Env) : Out OV := (r e).bind fun l e1 => .ok (.L l) e1
section
variable {c : Kc} {W : WX} {X : Cx} {H0 F F' H H' : Hp} {env env' : Env} {σ σ' : L2.St}
theorem dl_newL {e : Expr} {r : Env → Out (List D)} (h : PE X e (tF c W r)) : PE X e (tNew c W (newL r)) := h.imp fun σ H Q ⟨H0, F, env, g, q⟩ =>
  ⟨H0, F, env, g, q.seq fun l e1 F1 H1 s1 q1 v ⟨p, xs, hv, ap, rl⟩ => q1.ret s1.good v ⟨p, _, hv, ap, xs, ap.h, rl⟩⟩
/-- a name is given an own object -/
noncomputable def asgOV (i : Nat) (r : Env → Out OV) (e : Env) : Out Fl := (r e).bind fun o e1 => match e1[i]? with
  | some sv => if sv.isB = true then .no else .ok .nx (e1.set i (.own o))
  | none => .no
inductive M where
  | d (x : D)
  | f (o : OV)
noncomputable def NotF (p : Addr) : List M → List V → Prop
  | .f _ :: ms, v :: r => v ≠ .ref p ∧ NotF p ms r
  | .d _ :: ms, _ :: r => NotF p ms r
  | _, _ => True
noncomputable def MixL (c : Kc) (H0 F : Hp) (env : Env) (σ : L2.St) (H : Hp) : List M → List V → Prop
  | [], vs => vs = []
  | .d x :: ms, vs => ∃ v r, vs = v :: r ∧ Rp c.K c.cm F x v ∧ MixL c H0 F env σ H ms r
  | .f o :: ms, vs => ∃ p ho r, vs = .ref p :: r ∧ Apart env σ H0 F H p ho ∧ RO c.K c.cm F H p o ∧ MixL c H0 F env σ H ms r ∧ NotF p ms r
theorem mix_apart : ∀ {ms : List M} {vs : List V} {p : Addr}, (∀ q ho, Apart env σ H0 F H q ho → q ≠ p) → MixL c H0 F env σ H ms vs → NotF p ms vs
  | [], _, _, _, _ => trivial
  | .d _ :: ms, _, _, h, ⟨v, r, e, _, t⟩ => by subst e; exact mix_apart (ms := ms) h t
  | .f _ :: ms, _, _, h, ⟨q, ho, r, e, ap, _, t, _⟩ => by subst e; exact ⟨fun z => h q ho ap (by injection z), mix_apart (ms := ms) h t⟩
theorem mix_to {H0' : Hp} {env' : Env} {σ' : L2.St} : ∀ {ms : List M} {vs : List V}, (∀ q ho, Apart env σ H0 F H q ho → (∀ P : Addr → Prop, True → True) → Apart env' σ' H0' F H q ho) → MixL c H0 F env σ H ms vs → MixL c H0' F env' σ' H ms vs
  | [], _, _, h => h
  | .d _ :: ms, _, f, ⟨v, r, e, h, t⟩ => ⟨v, r, e, h, mix_to f t⟩
  | .f _ :: ms, _, f, ⟨q, ho, r, e, ap, ro, t, n⟩ => ⟨q, ho, r, e, f q ho ap fun _ _ => trivial, ro, mix_to f t, n⟩
theorem mix_ne {env' : Env} {σ' : L2.St} {p : Addr} (f : ∀ q ho, q ≠ p → Apart env σ H0 F H q ho → Apart env' σ' H0 F H q ho) : ∀ {ms : List M} {vs : List V}, NotF p ms vs → MixL c H0 F env σ H ms vs → MixL c H0 F env' σ' H ms vs
  | [], _, _, h => h
  | .d _ :: ms, _, n, ⟨v, r, e, h, t⟩ => by subst e; exact ⟨v, r, rfl, h, mix_ne f (ms := ms) n t⟩
  | .f _ :: ms, _, n, ⟨q, ho, r, e, ap, ro, t, m⟩ => by subst e; exact ⟨q, ho, r, rfl, f q ho (fun z => n.1 (by rw [z])) ap, ro, mix_ne f (ms := ms) n.2 t, m⟩
noncomputable def tM (c : Kc) (W : WX) (r : Env → Out (List M)) : TA := fun σ H Q => ∃ H0 F env, c.Good H0 F env σ H ∧ Res c W H0 F env σ (r env) fun ms e F' H' => ∀ vs, MixL c H0 F' e σ H' ms vs → Q vs H'
noncomputable def nilM (e : Env) : Out (List M) := .ok [] e
noncomputable def consMd (ra : Env → Out D) (rr : Env → Out (List M)) (e : Env) : Out (List M) := (ra e).bind fun x e1 => (rr e1).bind fun xs e2 => .ok (.d x :: xs) e2
noncomputable def consMf (ra : Env → Out OV) (rr : Env → Out (List M)) (e : Env) : Out (List M) := (ra e).bind fun o e1 => (rr e1).bind fun xs e2 => .ok (.f o :: xs) e2
theorem tM_nil : PA X [] (tM c W nilM) := pa_nil.imp fun σ H Q ⟨H0, F, env, g, q⟩ => q.ret g [] rfl
theorem tM_d {e : Expr} {es : List Expr} {ra : Env → Out D} {rr : Env → Out (List M)} (h : PA X (e :: es) (tCons (tD c W ra) (tM c W rr))) : PA X (e :: es) (tM c W (consMd ra rr)) := h.imp fun σ H Q ⟨H0, F, env, g, q⟩ =>
  ⟨H0, F, env, g, q.seq fun x e1 F1 H1 s1 q1 v hv => ⟨H0, F1, e1, s1.good, q1.seq fun xs e2 F2 H2 s2 q2 vs hvs => q2.ret s2.good (v :: vs) ⟨v, vs, rfl, Rp.mono s2.same _ _ hv, hvs⟩⟩⟩
theorem Apart.unbase {p : Addr} {o : HO} (g : c.Good H0 F env σ H) (g' : c.Good H0 F' env' σ H') (a : Apart env' σ (rebase env σ H) F' H' p o) : Apart env' σ H0 F' H' p o := by
  refine ⟨a.f, a.h, ?_, a.no⟩
  cases e : H0 p with
  | none => rfl
  | some u => exact absurd a.h0 (g.base_some (by rw [e]; simp))
theorem tM_f {e : Expr} {es : List Expr} {ra : Env → Out OV} {rr : Env → Out (List M)} (h : PA X (e :: es) (tCons (tNew c W ra) (tM c W rr))) : PA X (e :: es) (tM c W (consMf ra rr)) := h.imp fun σ H Q ⟨H0, F, env, g, q⟩ =>
  ⟨H0, F, env, g, q.seq fun o e1 F1 H1 s1 q1 v ⟨p, ho, hv, ap, ro⟩ => by
    subst hv
    refine ⟨rebase e1 σ H1, F1, e1, s1.good.rebased, ((q1.bind).rebased s1.good).mono fun xs e2 F2 H2 s2 ⟨q2, s2a, s2r⟩ vs hvs => ?_⟩
    have ap2 := ap.after s1.good s2r
    have hb : rebase e1 σ H1 p = some ho := by rw [rebase_ne fun i ov e => ap.no i _ e rfl]; exact ap.h
    refine q2.ret s2a.good (.ref p :: vs) ⟨p, ho, vs, rfl, ap2, ?_, mix_to (fun q ho' a _ => a.unbase s1.good s2a.good) hvs, mix_apart (fun q ho' a z => ?_) hvs⟩
    · refine ro.mono s2a.same ?_
      rw [ap2.h, ap.h]
    · subst z; rw [a.h0] at hb; cases hb⟩
noncomputable def setAll : List Nat → List M → Env → Option Env
  | [], [], e => some e
  | i :: is, m :: ms, e => (match e[i]? with
    | some sv => if sv.isB = true then none else setAll is ms (e.set i (match m with | .d x => .dat x | .f o => .own o))
    | none => none)
  | _, _, _ => none
noncomputable def setV : List Nat → List V → L2.St → L2.St
  | i :: is, v :: vs, σ => setV is vs (σ.set i (some v))
  | _, _, σ => σ
theorem Good.datStep {i : Nat} {sv : SV} {d : D} {v : V} (g : c.Good H0 F env σ H) (e : env[i]? = some sv) (nb : ¬ sv.isB = true) (r : Rp c.K c.cm F d v) : StepS c H0 F env σ F (env.set i (.dat d)) (σ.set i (some v)) H := by
  refine ⟨Same.refl _, g.set (fun t e1 => by rw [e] at e1; cases e1; simpa using nb) r, fun _ _ _ e => e, by simp, fun j x ej => ?_, fun j x ej => ?_⟩
  · have hj : j ≠ i := fun z => by subst z; rw [e] at ej; cases ej; exact nb rfl
    exact ⟨⟨x, by rw [List.getElem?_set_ne (Ne.symm hj)]; exact ej⟩, List.getElem?_set_ne (Ne.symm hj)⟩
  · by_cases hj : j = i
    · subst hj
      rw [List.getElem?_set_self (by have := (List.getElem?_eq_some_iff.mp e).1; exact this)] at ej
      cases ej
    · exact ⟨x, by rwa [List.getElem?_set_ne (Ne.symm hj)] at ej⟩
theorem setAll_ok : ∀ {is : List Nat} {ms : List M} {e e2 : Env} {vs : List V} {σ : L2.St}, c.Good H0 F e σ H → MixL c H0 F e σ H ms vs → setAll is ms e = some e2 → vs.length = is.length ∧ StepS c H0 F e σ F e2 (setV is vs σ) H
  | [], [], e, e2, vs, σ, g, h, q => by
    rw [show vs = [] from h]
    cases q
    exact ⟨rfl, StepS.refl g⟩
  | [], _ :: _, _, _, _, _, _, _, q => by cases q
  | _ :: _, [], _, _, _, _, _, _, q => by cases q
  | i :: is, .d x :: ms, e, e2, vs, σ, g, ⟨v, r, ev, h, t⟩, q => by
    subst ev
    unfold setAll at q
    cases he : e[i]? with
    | none => rw [he] at q; cases q
    | some sv =>
      rw [he] at q
      by_cases hb : sv.isB = true
      · dsimp only at q; rw [if_pos hb] at q; cases q
      · dsimp only at q
        rw [if_neg hb] at q
        have s1 := g.datStep he hb h
        have t' : MixL c H0 F (e.set i (.dat x)) (σ.set i (some v)) H ms r := mix_to (fun p ho a _ => ⟨a.f, a.h, a.h0, fun j tv ej so => by
          by_cases hj : j = i
          · subst hj
            rw [List.getElem?_set_self (List.getElem?_eq_some_iff.mp he).1] at ej
            cases ej; cases so
          · rw [List.getElem?_set_ne (Ne.symm hj)] at ej ⊢; exact a.no j tv ej so⟩) t
        obtain ⟨l, s2⟩ := setAll_ok s1.good t' q
        exact ⟨by simp [l], s1.trans s2⟩
  | i :: is, .f o :: ms, e, e2, vs, σ, g, ⟨p, ho, r, ev, ap, ro, t, n⟩, q => by
    subst ev
    unfold setAll at q
    cases he : e[i]? with
    | none => rw [he] at q; cases q
    | some sv =>
      rw [he] at q
      by_cases hb : sv.isB = true
      · dsimp only at q; rw [if_pos hb] at q; cases q
      · dsimp only at q
        rw [if_neg hb] at q
        have s1 := g.ownStep he hb ap ro
        have t' : MixL c H0 F (e.set i (.own o)) (σ.set i (some (.ref p))) H ms r := mix_ne (fun p' ho' ne a => ⟨a.f, a.h, a.h0, fun j tv ej so => by
          by_cases hj : j = i
          · subst hj
            rw [List.getElem?_set_self (by rw [g.len]; exact (List.getElem?_eq_some_iff.mp he).1)]
            intro z
            have := Option.some.inj (Option.some.inj z)
            injection this with this
            exact ne this.symm
          · rw [List.getElem?_set_ne (Ne.symm hj)] at ej ⊢; exact a.no j tv ej so⟩) n t
        obtain ⟨l, s2⟩ := setAll_ok s1.good t' q
        exact ⟨by simp [l], s1.trans s2⟩
noncomputable def parS (is : List Nat) (rm : Env → Out (List M)) (e : Env) : Out Fl := (rm e).bind fun ms e1 => match setAll is ms e1 with
  | some e2 => .ok .nx e2
  | none => .no
noncomputable def tParN (is : List Nat) (ta : TA) : TS := fun D σ H => ta σ H fun vs H1 => vs.length = is.length ∧ D.nx (setV is vs σ) H1
theorem dl_parN {st : Stmt} {is : List Nat} {rm : Env → Out (List M)} (h : PS X st (tParN is (tM c W rm))) : PS X st (tS c W (parS is rm)) := h.imp fun D σ H ⟨H0, F, env, g, q⟩ =>
  ⟨H0, F, env, g, q.seqE fun ms e F' H' st k vs hvs => by
    cases hs : setAll is ms e with
    | none => rw [hs] at k; exact k.elim
    | some e2 =>
      rw [hs] at k
      obtain ⟨l, s2⟩ := setAll_ok st.good hvs hs
      exact ⟨l, k _ _ _ s2⟩⟩
theorem dl_par2 {st : Stmt} {i j : Nat} {rm : Env → Out (List M)} (h : PS X st (tPar i j (tM c W rm))) : PS X st (tS c W (parS [i, j] rm)) := dl_parN (h.imp fun D σ H ⟨H0, F, env, g, q⟩ => ⟨H0, F, env, g, q.mono fun ms e F' H' s k vs hvs => by
  obtain ⟨l, q⟩ := k vs hvs
  match vs, l with
  | [v, w], _ => exact ⟨v, w, rfl, q⟩⟩)
/-- a tuple is built and taken apart -/
noncomputable def gNames : List Nat → TGs
  | [] => gNil
  | i :: is => gCons (gName i) (gNames is)
theorem gNames_ok : ∀ {is : List Nat} {vs : List V} {σ : L2.St} {H : Hp} {Q : L2.St → Hp → Prop}, vs.length = is.length → Q (setV is vs σ) H → gNames is vs σ H Q
  | [], [], _, _, _, _, q => ⟨rfl, q⟩
  | [], _ :: _, _, _, _, l, _ => by cases l
  | _ :: _, [], _, _, _, l, _ => by cases l
  | i :: is, v :: vs, σ, H, Q, l, q => ⟨v, vs, rfl, gNames_ok (is := is) (by simpa using l) q⟩
noncomputable def parT (is : List Nat) (rm : Env → Out (List M)) (e : Env) : Out Fl := (rm e).bind fun ms e1 => if ms.length ≤ sizeLine then (match setAll is ms e1 with
  | some e2 => .ok .nx e2
  | none => .no) else .no
theorem mix_len : ∀ {ms : List M} {vs : List V}, MixL c H0 F env σ H ms vs → vs.length = ms.length
  | [], _, h => by rw [show _ = [] from h]; rfl
  | .d _ :: ms, _, ⟨v, r, e, _, t⟩ => by subst e; simp [mix_len t]
  | .f _ :: ms, _, ⟨p, _, r, e, _, _, t, _⟩ => by subst e; simp [mix_len t]
theorem mix_lay {p : Addr} {o : HO} (g : c.Good H0 F env σ H) (hp : H p = none) : ∀ {ms : List M} {vs : List V}, MixL c H0 F env σ H ms vs → MixL c H0 F env σ (upd H p o) ms vs
  | [], _, h => h
  | .d _ :: ms, _, ⟨v, r, e, h, t⟩ => ⟨v, r, e, h, mix_lay g hp t⟩
  | .f _ :: ms, _, ⟨q, ho, r, e, ap, ro, t, n⟩ => by
    have ne : q ≠ p := ne_of_none ap.h hp
    exact ⟨q, ho, r, e, ⟨ap.f, by rw [upd_ne ne]; exact ap.h, ap.h0, ap.no⟩, ro.mono (Same.refl _) (upd_ne ne), mix_lay g hp t, n⟩
theorem dl_parT {st : Stmt} {is : List Nat} {rm : Env → Out (List M)} {n : Nat} (hn : n = is.length) (h : PS X st (tAsg (tTupB (tM c W rm)) (gTup c.K n (gNames is)))) : PS X st (tS c W (parT is rm)) := h.imp fun D σ H ⟨H0, F, env, g, q⟩ =>
  ⟨H0, F, env, g, q.seqE fun ms e F' H' st k vs hvs => by
    by_cases hz : ms.length ≤ sizeLine
    · have k : RS c W H0 F' e σ (if ms.length ≤ sizeLine then (match setAll is ms e with | some e2 => .ok .nx e2 | none => .no) else .no) (finD c D) := k
      rw [if_pos hz] at k
      cases hs : setAll is ms e with
      | none => rw [hs] at k; exact k.elim
      | some e2 =>
        rw [hs] at k
        refine ⟨by rw [mix_len hvs]; exact hz, fun p ob hp hd => ?_⟩
        obtain ⟨g2, _⟩ := st.good.lay (o := .frz ob (.tup vs)) hp
        obtain ⟨l, s2⟩ := setAll_ok g2 (mix_lay st.good hp hvs) hs
        refine ⟨p, vs, rfl, .inl (.inr ⟨ob, upd_same⟩), by rw [l, hn], gNames_ok l ?_⟩
        have s0 : StepS c H0 F' e σ F' e σ (upd H' p (.frz ob (.tup vs))) := ⟨Same.refl _, g2, fun _ _ _ e => e, rfl, fun i o e => ⟨⟨o, e⟩, rfl⟩, fun i o e => ⟨o, e⟩⟩
        exact k _ _ _ (s0.trans s2)
    · have k : RS c W H0 F' e σ (if ms.length ≤ sizeLine then (match setAll is ms e with | some e2 => .ok .nx e2 | none => .no) else .no) (finD c D) := k
      rw [if_neg hz] at k; exact k.elim⟩
end
end DL
namespace DL
open PySem PySem.Spec PyProof.Rows L2
section
variable (c : Kc)
/-- how such a def's statements end: not yet, or by a new list -/
noncomputable def tL (W : WX) (r : Env → Out (Option (List D))) : TS := fun D σ H => ∃ H0 F env, c.Good H0 F env σ H ∧ match r env with
  | .no => False
  | .ok none e => ∀ σ' F' H', StepS c H0 F env σ F' e σ' H' → D.nx σ' H'
  | .ok (some l) e => ∀ σ' F' H' v, StepS c H0 F env σ F' e σ' H' → NewL c H0 F' e σ' H' l v → D.rt v H'
  | .ex x e => ∀ σ' F' H' cl dx, StepS c H0 F env σ F' e σ' H' → XRep c F' H' x cl dx → W σ' cl dx H'
noncomputable def spL (fn : List SV → Out (List D)) : L2.Sp := fun vs H Q E => ∃ F svs, c.Good H F svs (vs.map some) H ∧ noOwn svs = true ∧ match fn svs with
  | .no => False
  | .ok l svs' => ∀ F' H' v, StepS c H F svs (vs.map some) F' svs' (vs.map some) H' → NewL c H F' svs' (vs.map some) H' l v → Q v H'
  | .ex x svs' => ∀ F' H' cl dx, StepS c H F svs (vs.map some) F' svs' (vs.map some) H' → XRep c F' H' x cl dx → E cl dx H'
end
noncomputable def nilL (e : Env) : Out (Option (List D)) := .ok none e
noncomputable def seqL (r1 : Env → Out Fl) (r2 : Env → Out (Option (List D))) (e : Env) : Out (Option (List D)) := match r1 e with
  | .ok .nx e1 => r2 e1
  | .ex x e1 => .ex x e1
  | _ => .no
noncomputable def retL (r : Env → Out (List D)) (e : Env) : Out (Option (List D)) := (r e).bind fun l e1 => .ok (some l) e1
noncomputable def ifL (rc : Env → Out Bool) (ra rb : Env → Out (Option (List D))) (e : Env) : Out (Option (List D)) := (rc e).bind fun b e1 => if b = true then ra e1 else rb e1
noncomputable def thenL (r1 r2 : Env → Out (Option (List D))) (e : Env) : Out (Option (List D)) := (r1 e).bind fun o e1 => match o with
  | none => r2 e1
  | some l => .ok (some l) e1
noncomputable def fnOfL (n tot : Nat) (rb : Env → Out (Option (List D))) (svs : List SV) : Out (List D) := if svs.length = n then (match rb (svs ++ List.replicate (tot - n) .un) with
    | .ok (some l) e => .ok l (backA svs e)
    | .ex x e => .ex x (backA svs e)
    | _ => .no) else .no
section
variable {c : Kc} {W : WX} {X : Cx} {H0 F F' H H' : Hp} {env env' : Env} {σ σ' : L2.St} {Q : VK} {s : Stmt} {ss : List Stmt}
theorem dl_nilL : PSs X [] (tL c W nilL) := pss_nil.imp fun D σ H ⟨H0, F, env, g, q⟩ => q σ F H (StepS.refl g)
theorem dl_seqL {r1 : Env → Out Fl} {r2 : Env → Out (Option (List D))} (h1 : PS X s (tS c W r1)) (h2 : PSs X ss (tL c W r2)) : PSs X (s :: ss) (tL c W (seqL r1 r2)) := (pss_cons h1 h2).imp fun D σ H ⟨H0, F, env, g, q⟩ => by
  refine ⟨H0, F, env, g, ?_⟩
  unfold seqL at q
  cases e1 : r1 env with
  | no => rw [e1] at q; exact q
  | ex x e => rw [e1] at q; exact q
  | ok fl e =>
    rw [e1] at q
    cases fl with
    | nx =>
      intro σ1 F1 H1 s1
      refine ⟨H0, F1, e, s1.good, ?_⟩
      dsimp only at q
      cases e2 : r2 e with
      | no => rw [e2] at q; exact q
      | ex x e => rw [e2] at q; exact fun σ2 F2 H2 cl dx s2 hx => q σ2 F2 H2 cl dx (s1.trans s2) hx
      | ok o e3 =>
        rw [e2] at q
        cases o with
        | none => exact fun σ2 F2 H2 s2 => q σ2 F2 H2 (s1.trans s2)
        | some l => exact fun σ2 F2 H2 v s2 hv => q σ2 F2 H2 v (s1.trans s2) hv
    | _ => exact q.elim
theorem dl_thenL {r1 r2 : Env → Out (Option (List D))} (h1 : PS X s (tL c W r1)) (h2 : PSs X ss (tL c W r2)) : PSs X (s :: ss) (tL c W (thenL r1 r2)) := (pss_cons h1 h2).imp fun D σ H ⟨H0, F, env, g, q⟩ => by
  refine ⟨H0, F, env, g, ?_⟩
  unfold thenL at q
  cases e1 : r1 env with
  | no => rw [e1] at q; exact q
  | ex x e => rw [e1] at q; exact q
  | ok fl e =>
    rw [e1, bind_ok] at q
    cases fl with
    | none =>
      intro σ1 F1 H1 s1
      refine ⟨H0, F1, e, s1.good, ?_⟩
      dsimp only at q
      cases e2 : r2 e with
      | no => rw [e2] at q; exact q
      | ex x e => rw [e2] at q; exact fun σ2 F2 H2 cl dx s2 hx => q σ2 F2 H2 cl dx (s1.trans s2) hx
      | ok o e3 =>
        rw [e2] at q
        cases o with
        | none => exact fun σ2 F2 H2 s2 => q σ2 F2 H2 (s1.trans s2)
        | some l => exact fun σ2 F2 H2 v s2 hv => q σ2 F2 H2 v (s1.trans s2) hv
    | some l => exact q
theorem dl_retL {r : Env → Out (List D)} (h : PS X s (tRet (tF c W r))) : PS X s (tL c W (retL r)) := h.imp fun D σ H ⟨H0, F, env, g, q⟩ => by
  refine ⟨H0, F, env, g, ?_⟩
  unfold retL at q
  cases e1 : r env with
  | no => rw [e1] at q; exact q
  | ex x e => rw [e1] at q; exact fun F' H' cl dx st hx => q σ F' H' cl dx st.toS hx
  | ok l e => rw [e1] at q; exact fun F' H' st v hv => q σ F' H' v st.toS hv
theorem bodyL_of {vs : List V} {N : List Str} {n : Nat} {rb : Env → Out (Option (List D))} {fn : List SV → Out (List D)} {Q : VK} {E : XK} (hW : W = fun _ => E) (hn : vs.length = n)
    (hf : ∀ svs, fn svs ≠ .no → fnOfL n N.length rb svs = fn svs) (h : spL c fn vs H Q E) : tL c W rb { nx := fun _ H' => Q .non H', rt := Q } (L2.start N vs) H := by
  subst hW
  obtain ⟨F, svs, g, no, h⟩ := h
  have nn : fn svs ≠ .no := fun e => by rw [e] at h; exact h
  have hl : svs.length = n := by rw [← hn]; simpa using g.len.symm
  rw [← hf svs nn] at h
  unfold fnOfL at h
  rw [if_pos hl] at h
  refine ⟨H, F, _, g.args N (N.length - n) (by rw [hn]), ?_⟩
  cases hr : rb (svs ++ List.replicate (N.length - n) .un) with
  | no => rw [hr] at h; exact h
  | ex x e =>
    rw [hr] at h
    exact fun σ' F' H' cl dx st => h F' H' cl dx (st.toArgs g no)
  | ok o e =>
    rw [hr] at h
    cases o with
    | none => exact h.elim
    | some l =>
      intro σ' F' H' v st ⟨p, xs, hv, ap, rl⟩
      have sa := st.toArgs g no
      refine h F' H' v sa ⟨p, xs, hv, ⟨ap.f, ap.h, ap.h0, fun i sv e1 so z => ?_⟩, rl⟩
      obtain ⟨t, e2, k⟩ : ∃ t, svs[i]? = some t ∧ t.isO = true := by
        cases sv with
        | un => cases so
        | dat d => cases so
        | exc d => cases so
        | bor o => obtain ⟨o', q⟩ := sa.rob i o e1; exact ⟨_, q, rfl⟩
        | own o => 
          have hi : i < svs.length := by rw [← backA_len svs e]; exact (List.getElem?_eq_some_iff.mp e1).1
          by_cases hie : i < e.length
          · have := backA_at (svs := svs) (e := e) (s := svs[i]) (i := i) (by simp [hi]) hie
            rw [e1] at this
            split at this
            · rename_i hb
              cases hs : svs[i] with
              | bor o' => exact ⟨_, by rw [List.getElem?_eq_getElem hi, hs], rfl⟩
              | _ => rw [hs] at hb; cases hb
            · exact ⟨svs[i], by simp [hi], by rw [← Option.some.inj this]; rfl⟩
          · have hl2 := st.len
            simp at hl2
            omega
      obtain ⟨a, ov, _, h1, _, h3⟩ := g.at_own e2 k
      rw [z] at h1; cases h1
      obtain ⟨u, hu⟩ := h3.some
      have := ap.h0
      rw [hu] at this; cases this
noncomputable def fnCallL (fn : List SV → Out (List D)) (its : List It) (e : Env) : Out (List D) := if nodupB (refsOf its) = true then (match fn (svsOf e its) with
    | .no => .no
    | .ok l svs' => .ok l (putBack its svs' e)
    | .ex x svs' => .ex x (putBack its svs' e)) else .no
theorem Good.someH (g : c.Good H0 F env σ H) {a : Addr} (n : H0 a ≠ none) : H a ≠ none := fun z => by
  have := g.base_some n
  unfold rebase at this
  split at this
  · exact this rfl
  · exact this z
theorem Good.callL {its : List It} {vs : List V} {fn : List SV → Out (List D)} (g : c.Good H0 F env σ H) (h : ItsOk c F env σ its vs)
    (q : Res c W H0 F env σ (fnCallL fn its env) (kF c H0 σ Q)) : spL c fn vs H Q (W σ) := by
  unfold fnCallL at q
  split at q
  · rename_i nd
    have nd := nodupB_iff nd
    refine ⟨F, svsOf env its, g.handed h nd, svs_noOwn _ _, ?_⟩
    cases e : fn (svsOf env its) with
    | no => rw [e] at q; exact q
    | ok l svs' =>
      rw [e] at q
      intro F' H' v st ⟨p, xs, hv, ap, rl⟩
      have s := g.called h nd st
      refine q F' H' s v ⟨p, xs, hv, ⟨ap.f, ap.h, ?_, fun i sv e1 so z => ?_⟩, rl⟩
      · cases e0 : H0 p with
        | none => rfl
        | some u => exact absurd ap.h0 (g.someH (by rw [e0]; simp))
      · obtain ⟨t, e2, l⟩ := s.le.back e1
        have to : t.isO = true := by
          cases t with
          | un => cases l; cases so
          | dat d => cases l; cases so
          | exc d => cases l; cases so
          | own ov => rfl
          | bor ov => rfl
        obtain ⟨u, hu⟩ := g.bor_some e2 to z
        have := ap.h0
        rw [hu] at this; cases this
    | ex x svs' =>
      rw [e] at q
      exact fun F' H' cl dx st hx => q F' H' cl dx (g.called h nd st) hx
  · exact q.elim
noncomputable def callLS (fn : List SV → Out (List D)) (ra : Env → Out (List It)) (e : Env) : Out (List D) := (ra e).bind fun its e1 => fnCallL fn its e1
theorem dl_callL {x : Str} {p pos : Pos} {e : Expr} {es : List Expr} {n : Nat} {f : Addr} {fn : List SV → Out (List D)} {ra : Env → Out (List It)} (R : Runs X (.ref f) n [] fun σ vs _ H Q => spL c fn vs H Q (W σ)) (hl : LenR ra n) (hg : Gl X x) (hm : X.mg x = some (.ref f)) (hk : PySem.W.keepIn X.K (.ref f) = true) (ha : PA X (e :: es) (tR c W ra))
    (hdb : (x == ("__debug__" : Str)) = false := by decide) (he : starEach (e :: es) X.env = (false, eval e X.env) :: starEach es X.env := by rfl) (hpl : (backTo pos (starEach es X.env)).any (·.1) = false := by rfl) :
    PE X (.Call (.Name x p) (e :: es) [] pos) (tF c W (callLS fn ra)) := (pr_call R hg hm hk ha hdb he hpl).imp fun σ H Q ⟨H0, F, env, g, q⟩ => by
  refine ⟨H0, F, env, g, ?_⟩
  unfold callLS at q
  cases e1 : ra env with
  | no => rw [e1] at q; exact q
  | ex x e => rw [e1] at q; exact q
  | ok its e =>
    rw [e1, bind_ok] at q
    intro F1 H1 s1 vs hvs
    exact ⟨(its_len hvs).trans (hl _ _ _ e1), rfl, s1.good.callL hvs (Res.base s1 q)⟩
noncomputable def fnCallF (fn : List SV → Out D) (o : OV) (its : List It) (e : Env) : Out D := match fnCall fn (.r e.length :: its) (e ++ [.own o]) with
  | .no => .no
  | .ok d e' => .ok d (e'.take e.length)
  | .ex x e' => .ex x (e'.take e.length)
/-- f(new, ..) -/
noncomputable def callFS (fn : List SV → Out D) (rl : Env → Out OV) (rr : Env → Out (List It)) (e : Env) : Out D := (rl e).bind fun o e1 => (rr e1).bind fun its e2 => if refsB its e2 = true then fnCallF fn o its e2 else .no
end
end DL
namespace DL
open PySem PySem.Spec PyProof.Rows L2
section
variable {c : Kc} {W : WX} {X : Cx} {E : XK} {C : Addr}
theorem bin_read {r : R2} {f : D → D → Env → Out D} {ra rb : Env → Out D} (p : Prim2 c r f) {σ : L2.St} {H : Hp} {Q : VK} (h : tD c W (bin2 f ra rb) σ H Q) : tOp r (tD c W ra) (tD c W rb) σ H Q := by
  obtain ⟨H0, F, env, g, q⟩ := h
  exact ⟨H0, F, env, g, q.seq fun x e1 F1 H1 s1 q1 v hv => ⟨H0, F1, e1, s1.good, q1.seq fun y e2 F2 H2 s2 q2 u hu => p W H0 F2 H2 e2 σ x y v u Q s2.good (Rp.mono s2.same _ _ hv) hu q2⟩⟩
/-- a comparison as a test -/
theorem dl_cmpT {e : Expr} {r : R2} {f : D → D → Env → Out D} {ra rb : Env → Out D} (h : PT X e (tTest (tOp r (tD c W ra) (tD c W rb)))) (p : Prim2 c r f) : PT X e (tT c W (valT (bin2 f ra rb))) := h.imp fun σ H Q q => bin_read p (by
  obtain ⟨H0, F, env, g, q⟩ := q
  refine ⟨H0, F, env, g, ?_⟩
  have : Res c W H0 F env σ ((bin2 f ra rb env).bind fun d e1 => valT (fun e => .ok d e) e1) (kT Q) := by
    have e2 : (bin2 f ra rb env).bind (fun d e1 => valT (fun e => .ok d e) e1) = valT (bin2 f ra rb) env := by
      unfold valT
      cases bin2 f ra rb env <;> rfl
    rw [e2]; exact q
  refine this.seq fun d e1 F1 H1 s1 q1 v hv => ?_
  unfold valT at q1
  simp only [bind_ok] at q1
  unfold blOf at q1
  split at q1
  · simp only [Rp] at hv
    exact ⟨_, hv, q1.ret s1.good⟩
  · exact q1.elim)
theorem spF_len {n tot : Nat} {rb : Env → Out Fl} {vs : List V} {H : Hp} {Q : VK} (h : spF c (fnOf n tot rb) vs H Q E) : vs.length = n := by
  obtain ⟨F, svs, g, no, h⟩ := h
  have hl := g.len
  simp at hl
  by_cases hn : svs.length = n
  · omega
  · unfold fnOf at h
    rw [if_neg hn] at h
    exact h.elim
theorem spL_len {n tot : Nat} {rb : Env → Out (Option (List D))} {vs : List V} {H : Hp} {Q : VK} (h : spL c (fnOfL n tot rb) vs H Q E) : vs.length = n := by
  obtain ⟨F, svs, g, no, h⟩ := h
  have hl := g.len
  simp at hl
  by_cases hn : svs.length = n
  · omega
  · unfold fnOfL at h
    rw [if_neg hn] at h
    exact h.elim
theorem spI_len {n tot : Nat} {rb : Env → List (Str × D) → Out (List (Str × D))} {vs : List V} {H : Hp} {Q : VK} (h : spI c C (fnN n tot rb) vs H Q E) : vs.length = n := by
  obtain ⟨x, dx, us, F, svs, rfl, hx, fx, g, no, nx, h⟩ := h
  have hl := g.len
  simp at hl
  by_cases hn : svs.length + 1 = n
  · simp; omega
  · unfold fnN at h
    rw [if_neg hn] at h
    exact h.elim
theorem body_ok {vs : List V} {N : List Str} {n : Nat} {rb : Env → Out Fl} {H : Hp} {Q : VK} (h : spF c (fnOf n N.length rb) vs H Q E) : tS c (fun _ => E) rb { nx := fun _ H' => Q .non H', rt := Q } (L2.start N vs) H := by
  obtain ⟨F, svs, g, no, k⟩ := h
  exact body_of (fn := fnOf n N.length rb) rfl (spF_len ⟨F, svs, g, no, k⟩) (fun _ _ => rfl) g no k
theorem bodyL_ok {vs : List V} {N : List Str} {n : Nat} {rb : Env → Out (Option (List D))} {H : Hp} {Q : VK} (h : spL c (fnOfL n N.length rb) vs H Q E) : tL c (fun _ => E) rb { nx := fun _ H' => Q .non H', rt := Q } (L2.start N vs) H :=
  bodyL_of rfl (spL_len h) (fun _ _ => rfl) h
theorem bodyN_ok {vs : List V} {N : List Str} {n : Nat} {rb : Env → List (Str × D) → Out (List (Str × D))} {H : Hp} {Q : VK} (h : spI c C (fnN n N.length rb) vs H Q E) : tN c C (fun _ => E) rb { nx := fun _ H' => Q .non H', rt := Q } (L2.start N vs) H := by
  have hn := spI_len h
  obtain ⟨x, dx, us, F, svs, e, k⟩ := id h
  exact init_of (vs := vs) (us := us) (x := x) (dx := dx) (svs := svs) rfl hn (fun _ _ => rfl) h
theorem dl_one {op : BoolOp} {a : Expr} {pos : Pos} {r : Env → Out D} (h : PE X a (tD c W r)) : PE X (.BoolOp op [a] pos) (tD c W r) := pe_one h
theorem rpl_nil : ∀ F, RpL c.K c.cm F [] [] := fun _ => .nil
/-- isinstance by a built-in type: what the library tells of the built-in types -/
noncomputable def kbTy (t : String) (n : String) : Option Bool := if n = t then some true else if (["NoneType", "int", "str", "tuple", "list", "dict"].contains n && ["NoneType", "int", "str", "tuple", "list", "dict", "bool"].contains t) = true then some false else none
/-- -x -/
noncomputable def negF : D → Option D
  | .int i => some (.int (-i))
  | _ => none
theorem prim_neg : Prim1 c (rU fun i => .int (-i)) (pur1 negF) := prim1 fun H0 F H env σ x v d Q g hx e k => by
  unfold negF at e
  split at e
  · cases e
    simp only [Rp] at hx
    exact ⟨_, hx, k F H (Step.refl g) _ (by simp only [Rp])⟩
  · cases e
theorem pi_or {tg e : Expr} {t t' : TI} (h : PI X tg e t) (h' : PI X tg e t') : PI X tg e (fun σ H R => t σ H R ∨ t' σ H R) := ⟨fun pins s σ H R I q => q.elim (h.run pins s σ H R I) (h'.run pins s σ H R I)⟩
noncomputable def itA (ra : Env → Out D) (e : Env) : Out (List D) := match ra e with
  | .ok (.tup _) _ => itT ra e
  | .ok (.str _) _ => itS ra e
  | _ => itL ra e
theorem dl_itA {tg e : Expr} {ra : Env → Out D} (h : PE X e (tD c W ra)) (hK : X.K = c.K := by rfl) : PI X tg e (tI c W (itA ra)) := (pi_or (dl_itL (by rw [← hK]; exact pi_list h)) (pi_or (dl_itT (by rw [← hK]; exact pi_tup h)) (dl_itS (pi_str h)))).imp fun σ H R ⟨H0, F, env, g, q⟩ => by
  unfold itA at q
  split at q
  · exact .inr (.inl ⟨H0, F, env, g, q⟩)
  · exact .inr (.inr ⟨H0, F, env, g, q⟩)
  · exact .inl ⟨H0, F, env, g, q⟩
noncomputable def itEA (ra : Env → Out (List D)) (e : Env) : Out (List D) := match ra e with
  | .ok [.tup _] _ => itET ra e
  | _ => itE ra e
theorem dl_itEA {tg e : Expr} {ra : Env → Out (List D)} (h : PI X tg e (iEnum c.K (tA c W ra))) (h' : PI X tg e (iEnT c.K (tA c W ra))) : PI X tg e (tI c W (itEA ra)) := (pi_or (dl_itE h) (dl_itET h')).imp fun σ H R ⟨H0, F, env, g, q⟩ => by
  unfold itEA at q
  split at q
  · exact .inr ⟨H0, F, env, g, q⟩
  · exact .inl ⟨H0, F, env, g, q⟩
/-- a part of a list, a tuple, a text -/
noncomputable def cutA (ra : Env → Out D) (rl rh : Env → Out (Option Int)) (e : Env) : Out D := match ra e with
  | .ok (.lst _) _ => heldD (sl3 ra rl rh cutLF) e
  | .ok (.ro _) _ => heldD (sl3 ra rl rh cutLF) e
  | _ => sl3 ra rl rh cutF e
theorem _root_.L2.PE.or {e : Expr} {t t' : TE} (h : PE X e t) (h' : PE X e t') : PE X e (fun σ H Q => t σ H Q ∨ t' σ H Q) := ⟨fun pins s σ H Q I q => q.elim (h.run pins s σ H Q I) (h'.run pins s σ H Q I)⟩
theorem dl_cutA {e : Expr} {ra : Env → Out D} {rl rh : Env → Out (Option Int)} (h : PE X e (tSl (rSlTS c.K) (tD c W ra) (tO c W rl) (tO c W rh))) (h' : PE X e (tSl (rSlL c.K) (tD c W ra) (tO c W rl) (tO c W rh))) : PE X e (tD c W (cutA ra rl rh)) := ((dl_cut h).or (dl_held (dl_cutL h'))).imp fun σ H Q ⟨H0, F, env, g, q⟩ => by
  unfold cutA at q
  split at q
  · exact .inr ⟨H0, F, env, g, q⟩
  · exact .inr ⟨H0, F, env, g, q⟩
  · exact .inl ⟨H0, F, env, g, q⟩
end
end DL
namespace DL
open PySem PySem.Spec PyProof.Rows L2
theorem vb_len : bootBuiltins "len" = some (.builtin "len") := by decide +kernel
theorem vb_all : bootBuiltins "all" = some (.builtin "all") := by decide +kernel
theorem vb_any : bootBuiltins "any" = some (.builtin "any") := by decide +kernel
theorem vb_sum : bootBuiltins "sum" = some (.builtin "sum") := by decide +kernel
theorem vb_max : bootBuiltins "max" = some (.builtin "max") := by decide +kernel
theorem vb_min : bootBuiltins "min" = some (.builtin "min") := by decide +kernel
theorem vb_abs : bootBuiltins "abs" = some (.builtin "abs") := by decide +kernel
theorem vb_sorted : bootBuiltins "sorted" = some (.builtin "sorted") := by decide +kernel
theorem vb_isinstance : bootBuiltins "isinstance" = some (.builtin "isinstance") := by decide +kernel
theorem vb_int : bootBuiltins "int" = some (.type "int") := by decide +kernel
theorem vb_tuple : bootBuiltins "tuple" = some (.type "tuple") := by decide +kernel
theorem vb_list : bootBuiltins "list" = some (.type "list") := by decide +kernel
theorem vb_str : bootBuiltins "str" = some (.type "str") := by decide +kernel
section
variable {c : Kc} {W : WX} {X : Cx} {E : XK} {C : Addr} {a b e o : Expr} {es : List Expr} {pos p apos : Pos} {x : Str} {ra rb rc : Env → Out D} {rA : Env → Out (List D)} {rl rh : Env → Out (Option Int)} {ta tb : Env → Out Bool}
theorem gv (i : Nat) (hN : X.N[i]? = some x := by rfl) (hv : Vis X.env.scope x := by first | exact Or.inl rfl | exact Or.inr (Or.inl rfl) | exact Or.inr (Or.inr rfl)) (hd : (x == ("__debug__" : Str)) = false := by decide)
    (hcd : (x == ("__classdict__" : Str)) = false := by decide) : PE X (.Name x pos) (tD c W (nameD i)) := dl_name (pe_var hN hv hd hcd)
theorem gi {i : Int} {j} : PE X (.Constant (.int i) j pos) (tD c W (constD (.int i))) := dl_const pe_int rfl
theorem gs {s : Str} {j} : PE X (.Constant (.str s) j pos) (tD c W (constD (.str s))) := dl_const pe_str rfl
theorem gb {k : Bool} {j} : PE X (.Constant (.bool k) j pos) (tD c W (constD (.bl k))) := dl_const pe_bl rfl
theorem gn {j} : PE X (.Constant .none j pos) (tD c W (constD .non)) := dl_const pe_non rfl
theorem gGi {i : Int} {t : Tok} (hm : X.mg x = some (.int i t)) (hg : Gl X x := by rfl) (hd : (x == ("__debug__" : Str)) = false := by decide) : PE X (.Name x pos) (tD c W (constD (.int i))) := dl_const (pe_glob (v := .int i) hg hm ⟨t, rfl⟩ hd) rfl
theorem gGs {i : Str} {t : Tok} (hm : X.mg x = some (.str i t)) (hg : Gl X x := by rfl) (hd : (x == ("__debug__" : Str)) = false := by decide) : PE X (.Name x pos) (tD c W (constD (.str i))) := dl_const (pe_glob (v := .str i) hg hm ⟨t, rfl⟩ hd) rfl
theorem gA1 (h : PE X e (tD c W ra)) (h2 : PA X es (tA c W rA)) (hs : starEach (e :: es) X.env = (false, eval e X.env) :: starEach es X.env := by rfl) : PA X (e :: es) (tA c W (consA ra rA)) := tA_cons (pa_cons h h2 hs)
theorem gA0 : PA X [] (tA c W nilA) := tA_nil
theorem gtup {k} (h : PA X es (tA c W rA)) : PE X (.Tuple es k pos) (tD c W (tupD rA)) := dl_tup (pe_tupB h)
theorem glst (h : PA X es (tA c W rA)) : PE X (.List es pos) (tF c W (lstF rA)) := dl_lstF (pe_lst h)
theorem gadd (h1 : PE X a (tD c W ra)) (h2 : PE X b (tD c W rb)) (hK : X.K = c.K := by rfl) : PE X (.BinOp a .Add b pos) (tD c W (bin2 (pur2 addF) ra rb)) := dl_bin (by rw [← hK]; exact pe_op op_addA h1 h2) prim_add
theorem gsub (h1 : PE X a (tD c W ra)) (h2 : PE X b (tD c W rb)) : PE X (.BinOp a .Sub b pos) (tD c W (bin2 (pur2 subF) ra rb)) := dl_bin (pe_op (op_i0 op_sub) h1 h2) prim_sub
theorem gmul (h1 : PE X a (tD c W ra)) (h2 : PE X b (tD c W rb)) : PE X (.BinOp a .Mult b pos) (tD c W (bin2 (pur2 mulA) ra rb)) := dl_bin (pe_op op_mulA h1 h2) prim_mulA
theorem gfdiv (h1 : PE X a (tD c W ra)) (h2 : PE X b (tD c W rb)) : PE X (.BinOp a .FloorDiv b pos) (tD c W (bin2 (pur2 fdivF) ra rb)) := dl_bin (pe_op op_fdivW h1 h2) prim_fdiv
theorem gmod (h1 : PE X a (tD c W ra)) (h2 : PE X b (tD c W rb)) : PE X (.BinOp a .Mod b pos) (tD c W (bin2 (pur2 modF) ra rb)) := dl_bin (pe_op op_mod h1 h2) prim_mod
theorem gpow (h1 : PE X a (tD c W ra)) (h2 : PE X b (tD c W rb)) : PE X (.BinOp a .Pow b pos) (tD c W (bin2 (pur2 powF) ra rb)) := dl_bin (pe_op op_pow h1 h2) prim_pow
theorem gneg (h : PE X a (tD c W ra)) : PE X (.UnaryOp .USub a pos) (tD c W (un1 (pur1 negF) ra)) := dl_un (pe_un un_neg h) prim_neg
structure CmpOk (c : Kc) (X : Cx) (op : CmpOp) (f : D → D → Env → Out D) : Prop where
  ex : ∃ r : R2, OpR X (compareOp op) r ∧ Prim2 c r f
theorem klt : CmpOk c X .Lt (pur2 ltF) := ⟨_, op_ltA, prim_cmp⟩
theorem kle : CmpOk c X .LtE (pur2 leF) := ⟨_, op_leA, prim_cmp⟩
theorem kgt : CmpOk c X .Gt (pur2 gtF) := ⟨_, op_gtA, prim_cmp⟩
theorem kge : CmpOk c X .GtE (pur2 geF) := ⟨_, op_geA, prim_cmp⟩
theorem kleA (hu : X.A.units < cLine) (hK : X.K = c.K := by rfl) : CmpOk c X .LtE (pur2 leA) := ⟨_, op_leAll hu, by rw [hK]; exact prim_leAll⟩
theorem keq (hu : X.A.units + 64 < cLine) (hK : X.K = c.K := by rfl) : CmpOk c X .Eq (pur2 (eqF false)) := ⟨_, op_eqA hu, by rw [hK]; exact prim_eqB⟩
theorem kne (hu : X.A.units + 64 < cLine) (hK : X.K = c.K := by rfl) : CmpOk c X .NotEq (pur2 (eqF true)) := ⟨_, op_neA hu, by rw [hK]; exact prim_eqB⟩
theorem kin (hu : X.A.units + 65 < cLine) (hK : X.K = c.K := by rfl) : CmpOk c X .In (pur2 (inF false)) := ⟨_, op_inAll hu, by rw [hK]; exact prim_in⟩
theorem knin (hu : X.A.units + 65 < cLine) (hK : X.K = c.K := by rfl) : CmpOk c X .NotIn (pur2 (inF true)) := ⟨_, op_ninAll hu, by rw [hK]; exact prim_in⟩
theorem gcmp {op : CmpOp} {f : D → D → Env → Out D} (k : CmpOk c X op f) (h1 : PE X a (tD c W ra)) (h2 : PE X b (tD c W rb)) (hm : behindInMarks op b = false := by first | exact nomark _ | rfl) : PE X (.Compare a [op] [b] pos) (tD c W (bin2 f ra rb)) := by
  obtain ⟨r, k1, k2⟩ := k.ex
  exact dl_bin (pe_cmpR k1 h1 h2 hm) k2
theorem gcmpT {op : CmpOp} {f : D → D → Env → Out D} (k : CmpOk c X op f) (h1 : PE X a (tD c W ra)) (h2 : PE X b (tD c W rb)) (hm : behindInMarks op b = false := by first | exact nomark _ | rfl) : PT X (.Compare a [op] [b] pos) (tT c W (valT (bin2 f ra rb))) := by
  obtain ⟨r, k1, k2⟩ := k.ex
  exact dl_cmpT (pt_cmpR k1 h1 h2 hm) k2
theorem gchainT {d : Expr} {rd : Env → Out D} {op op' : CmpOp} {f f' : D → D → Env → Out D} (k : CmpOk c X op f) (k' : CmpOk c X op' f') (h1 : PE X a (tD c W ra)) (h2 : PE X b (tD c W rb)) (h3 : PE X d (tD c W rd)) (hm : lastMarks [op, op'] [b, d] = false := by with_unfolding_all rfl) :
    PT X (.Compare a [op, op'] [b, d] pos) (tT c W (valT (chainD f f' ra rb rd))) := by
  obtain ⟨r, k1, k2⟩ := k.ex
  obtain ⟨r', k3, k4⟩ := k'.ex
  exact dl_chainT (pt_chain k1 k3 h1 h2 h3 hm) k2 k4
theorem gvalT (h : PE X e (tD c W ra)) (he : ∀ whole, isTrue e X.env whole = (do let v ← whole; standAt e.pos; holding [v] (truthy v)) := by intro _; rfl) : PT X e (tT c W (valT ra)) := dl_valT (pt_val h he)
theorem gnotT (h : PT X a (tT c W ta)) : PT X (.UnaryOp .Not a pos) (tT c W (notT ta)) := dl_notT (pt_not h)
theorem gandW (h : PT X a (tT c W ta)) (h2 : PW X (.BoolOp .And (b :: es) pos) (tT c W tb)) : PW X (.BoolOp .And (a :: b :: es) pos) (tT c W (andT ta tb)) := dl_andT (pw_and h h2)
theorem gorW (h : PT X a (tT c W ta)) (h2 : PW X (.BoolOp .Or (b :: es) pos) (tT c W tb)) : PW X (.BoolOp .Or (a :: b :: es) pos) (tT c W (orT ta tb)) := dl_orT (pw_or h h2)
theorem gandD (h : PE X a (tD c W ra)) (h2 : PE X (.BoolOp .And (b :: es) pos) (tD c W rb)) : PE X (.BoolOp .And (a :: b :: es) pos) (tD c W (andD ra rb)) := dl_andD (pe_and h h2)
theorem gorD (h : PE X a (tD c W ra)) (h2 : PE X (.BoolOp .Or (b :: es) pos) (tD c W rb)) : PE X (.BoolOp .Or (a :: b :: es) pos) (tD c W (orD ra rb)) := dl_orD (pe_or h h2)
theorem gif (h : PT X e (tT c W ta)) (h1 : PE X a (tD c W ra)) (h2 : PE X b (tD c W rb)) : PE X (.IfExp e a b pos) (tD c W (ifD ta ra rb)) := dl_ifD (pe_ifExp h h1 h2)
theorem gix (h1 : PE X a (tD c W ra)) (h2 : PE X b (tD c W rb)) (hs : PlainIx b := by exact fun _ _ => rfl) (hK : X.K = c.K := by rfl) : PE X (.Subscript a b pos) (tD c W (bin2 (pur2 ixF) ra rb)) := dl_bin (pe_ix ix_seq h1 h2 hs) (by rw [hK]; exact prim_ix)
theorem goix (i : Nat) (h1 : PE X a (tVar i)) (h2 : PE X b (tD c W rb)) (hs : PlainIx b := by exact fun _ _ => rfl) (hK : X.K = c.K := by rfl) : PE X (.Subscript a b pos) (tD c W (ownIx i rb)) := dl_ownIx (by rw [← hK]; exact pe_ix ix_seq h1 h2 hs)
theorem gcut {lo hi : Option Expr} {p2 : Pos} (h : PE X a (tD c W ra)) (hl : PO X lo (tO c W rl)) (hh : PO X hi (tO c W rh)) (hK : X.K = c.K := by rfl) : PE X (.Subscript a (.Slice lo hi none p2) pos) (tD c W (cutA ra rl rh)) :=
  dl_cutA (by rw [← hK]; exact pe_slice sl_ts h hl hh) (by rw [← hK]; exact pe_slice sl_list h hl hh)
theorem gO0 : PO X none (tO c W noO) := tO_none
theorem gO1 (h : PE X e (tD c W ra)) : PO X (some e) (tO c W (someO ra)) := tO_some (po_some h)
/-- built-in functions -/
structure BltOk (c : Kc) (X : Cx) (id : String) (f : List D → Option D) : Prop where
  ex : ∃ r, CallR X (.builtin id) r ∧ PrimC c r f
structure TyOk (c : Kc) (X : Cx) (id : String) (f : List D → Option D) : Prop where
  ex : ∃ r, CallR X (.type id) r ∧ PrimC c r f
theorem blen (hK : X.K = c.K := by rfl) : BltOk c X "len" (one lenF) := ⟨_, cr_len, by rw [hK]; exact prim_len⟩
theorem ball (hc : X.calm = true := by rfl) (hK : X.K = c.K := by rfl) : BltOk c X "all" (one allF) := ⟨_, cr_all hc, by rw [hK]; exact prim_all⟩
theorem bany (hc : X.calm = true := by rfl) (hK : X.K = c.K := by rfl) : BltOk c X "any" (one anyF) := ⟨_, cr_any hc, by rw [hK]; exact prim_any⟩
theorem bsum (hc : X.calm = true := by rfl) (hK : X.K = c.K := by rfl) : BltOk c X "sum" (one sumF) := ⟨_, cr_sum hc, by rw [hK]; exact prim_sum⟩
theorem bmax2 (hc : X.calm = true := by rfl) : BltOk c X "max" max2F := ⟨_, call_max2 hc, prim_max2⟩
theorem bmin2 (hc : X.calm = true := by rfl) : BltOk c X "min" min2F := ⟨_, call_min2 hc, prim_min2⟩
theorem babs : BltOk c X "abs" (one absF) := ⟨_, call_abs, prim_abs⟩
theorem bint : TyOk c X "int" (one int1F) := ⟨_, call_int1, prim_int1⟩
theorem btuple (hK : X.K = c.K := by rfl) : TyOk c X "tuple" (one tupleF) := ⟨_, call_tuple_ofB, by rw [hK]; exact prim_tuple⟩
theorem gblt {id : String} {f : List D → Option D} (k : BltOk c X id f) (hm : X.mg x = none) (hv : bootBuiltins x = some (.builtin id)) (ha : PA X (e :: es) (tA c W rA)) (hg : Gl X x := by rfl) (hn : x ≠ "__name__" := by decide) (hdb : (x == ("__debug__" : Str)) = false := by decide)
    (he : starEach (e :: es) X.env = (false, eval e X.env) :: starEach es X.env := by rfl) (hpl : (backTo pos (starEach es X.env)).any (·.1) = false := by rfl) : PE X (.Call (.Name x p) (e :: es) [] pos) (tD c W (callD f rA)) := by
  obtain ⟨r, k1, k2⟩ := k.ex
  exact dl_call (pe_callB k1 hg hm hv ha hn hdb he hpl) k2
theorem gty {id : String} {f : List D → Option D} (k : TyOk c X id f) (hm : X.mg x = none) (hv : bootBuiltins x = some (.type id)) (ha : PA X (e :: es) (tA c W rA)) (hg : Gl X x := by rfl) (hn : x ≠ "__name__" := by decide) (hdb : (x == ("__debug__" : Str)) = false := by decide)
    (he : starEach (e :: es) X.env = (false, eval e X.env) :: starEach es X.env := by rfl) (hpl : (backTo pos (starEach es X.env)).any (·.1) = false := by rfl) : PE X (.Call (.Name x p) (e :: es) [] pos) (tD c W (callD f rA)) := by
  obtain ⟨r, k1, k2⟩ := k.ex
  exact dl_call (pe_callTy k1 hg hm hv ha hn hdb he hpl) k2
theorem glist (hm : X.mg x = none) (hv : bootBuiltins x = some (.type "list")) (ha : PA X (e :: es) (tA c W rA)) (hg : Gl X x := by rfl) (hn : x ≠ "__name__" := by decide) (hdb : (x == ("__debug__" : Str)) = false := by decide)
    (he : starEach (e :: es) X.env = (false, eval e X.env) :: starEach es X.env := by rfl) (hpl : (backTo pos (starEach es X.env)).any (·.1) = false := by rfl) (hK : X.K = c.K := by rfl) : PE X (.Call (.Name x p) (e :: es) [] pos) (tF c W (listF rA)) :=
  dl_list (by rw [← hK]; exact pe_callTy call_list_of hg hm hv ha hn hdb he hpl)
theorem gsorted (hu : X.A.units + 62 < cLine) (hm : X.mg x = none) (hv : bootBuiltins x = some (.builtin "sorted")) (ha : PA X (e :: es) (tA c W rA)) (hg : Gl X x := by rfl) (hn : x ≠ "__name__" := by decide) (hdb : (x == ("__debug__" : Str)) = false := by decide)
    (he : starEach (e :: es) X.env = (false, eval e X.env) :: starEach es X.env := by rfl) (hpl : (backTo pos (starEach es X.env)).any (·.1) = false := by rfl) (hK : X.K = c.K := by rfl) : PE X (.Call (.Name x p) (e :: es) [] pos) (tF c W (sortF rA)) :=
  dl_sort (by rw [← hK]; exact pe_callB (cr_sortD hu) hg hm hv ha hn hdb he hpl)
theorem gjoin (ho : PE X o (tD c W ra)) (h : PE X e (tD c W rb)) (hs : starEach [e] X.env = [(false, eval e X.env)] := by rfl) (hbase : attributeBase o "join" X.env (eval o X.env) = eval o X.env := by rfl) (hline : (apos.endLine == pos.line) = true := by rfl) (hK : X.K = c.K := by rfl) :
    PE X (.Call (.Attribute o "join" apos) [e] [] pos) (tD c W (joinD ra rb)) := dl_join (by rw [← hK]; exact pe_join ho h hs hbase hline)
/-- isinstance -/
theorem gisT {t : String} {y : Str} {p2 : Pos} (hm : X.mg x = none) (hx : x = "isinstance") (hm2 : X.mg y = none) (hy : bootBuiltins y = some (.type t)) (hb : ∀ n b, kbTy t n = some b → PySem.W.kitOne c.K (.type n) (.type t) = some b) (h : PE X e (tD c W ra)) (hg : Gl X x := by rfl) (hg2 : Gl X y := by rfl)
    (hn2 : y ≠ "__name__" := by decide) (hd2 : (y == ("__debug__" : Str)) = false := by decide) (hs : starEach [e, .Name y p2] X.env = (false, eval e X.env) :: starEach [.Name y p2] X.env := by rfl) (hs2 : starEach [.Name y p2] X.env = (false, eval (.Name y p2) X.env) :: starEach [] X.env := by rfl)
    (hpl : (backTo pos (starEach [.Name y p2] X.env)).any (·.1) = false := by rfl) (hK : X.K = c.K := by rfl) : PE X (.Call (.Name x p) [e, .Name y p2] [] pos) (tD c W (isiD (kbTy t) (fun _ => none) ra)) := by
  subst hx
  refine dl_isi (ClsV.ty t) ?_ hb (fun _ _ _ z => by cases z)
  rw [← hK]
  exact pe_callB call_isi hg hm vb_isinstance (pa_cons h (pa_cons (pe_bltn hg2 hm2 hy rfl hn2 hd2) pa_nil hs2) hs) (by decide) (by decide) hs hpl
theorem gisC {cn y : Str} {p2 : Pos} (hm : X.mg x = none) (hx : x = "isinstance") (hm2 : X.mg y = some (.ref C)) (hC : c.cm cn = some C) (ho : ClsOk c.K C ∧ PySem.W.kitOne c.K (.ref C) (.ref C) = some true) (h : PE X e (tD c W ra)) (hg : Gl X x := by rfl) (hg2 : Gl X y := by rfl)
    (hd2 : (y == ("__debug__" : Str)) = false := by decide) (hs : starEach [e, .Name y p2] X.env = (false, eval e X.env) :: starEach [.Name y p2] X.env := by rfl) (hs2 : starEach [.Name y p2] X.env = (false, eval (.Name y p2) X.env) :: starEach [] X.env := by rfl)
    (hpl : (backTo pos (starEach [.Name y p2] X.env)).any (·.1) = false := by rfl) (hK : X.K = c.K := by rfl) : PE X (.Call (.Name x p) [e, .Name y p2] [] pos) (tD c W (isiD (fun _ => none) (fun n => if n = cn then some true else none) ra)) := by
  subst hx
  refine dl_isi (ClsV.own C) ?_ (fun _ _ z => by cases z) (fun n b C' z hC' => ?_)
  · rw [← hK]
    exact pe_callB call_isi hg hm vb_isinstance (pa_cons h (pa_cons (pe_glob hg2 hm2 rfl hd2) pa_nil hs2) hs) (by decide) (by decide) hs hpl
  · by_cases hn : n = cn
    · subst hn
      rw [if_pos rfl] at z; cases z
      rw [hC] at hC'; cases hC'
      exact ho
    · rw [if_neg hn] at z; cases z
theorem gfld {cn f : Str} (ok : ∀ C, c.cm cn = some C → Cls c.K C ∧ NoAttr c.K C f) (h : PE X e (tD c W ra)) (hb : attributeBase e f X.env (eval e X.env) = eval e X.env := by rfl) (hK : X.K = c.K := by rfl) : PE X (.Attribute e f pos) (tD c W (fldD cn f ra)) := dl_fld (by rw [← hK]; exact pe_fld h hb) ok
end
section
variable {c : Kc} {W : WX} {X : Cx} {a b e o tg : Expr} {es elts : List Expr} {pos p apos tpos : Pos} {x : Str} {ra rb rc : Env → Out D} {rA : Env → Out (List D)} {ta tb : Env → Out Bool} {kk : Nat}
theorem ir1 (hm : X.mg "range" = none) (h : PE X a (tD c W ra)) (hg : Gl X "range" := by rfl) (hs : starEach [a] X.env = [(false, eval a X.env)] := by rfl) : PI X tg (.Call (.Name "range" p) [a] [] pos) (tI c W (itR1 (consA ra nilA))) := dl_itR1 (pi_range1 hg hm (gA1 h gA0 hs) hs)
theorem ir2 (hm : X.mg "range" = none) (h : PE X a (tD c W ra)) (h2 : PE X b (tD c W rb)) (hg : Gl X "range" := by rfl) (hs : starEach [a, b] X.env = [(false, eval a X.env), (false, eval b X.env)] := by rfl) (hs2 : starEach [b] X.env = [(false, eval b X.env)] := by rfl) :
    PI X tg (.Call (.Name "range" p) [a, b] [] pos) (tI c W (itR2 (consA ra (consA rb nilA)))) := dl_itR2 (pi_range2 hg hm (gA1 h (gA1 h2 gA0 hs2) (by rw [hs, hs2])) hs hs2)
theorem ien (hm : X.mg "enumerate" = none) (h : PE X e (tD c W ra)) (hg : Gl X "enumerate" := by rfl) (hs : starEach [e] X.env = [(false, eval e X.env)] := by rfl) (hK : X.K = c.K := by rfl) :
    PI X (.Tuple elts kk tpos) (.Call (.Name "enumerate" p) [e] [] pos) (tI c W (itEA (consA ra nilA))) :=
  dl_itEA (by rw [← hK]; exact pi_enum hg hm (gA1 h gA0 hs) hs) (by rw [← hK]; exact pi_enT hg hm (gA1 h gA0 hs) hs)
theorem tn (i : Nat) (hN : X.N.Nodup) (hi : X.N[i]? = some x := by rfl) (hx : Loc X.env.scope x := by first | exact Or.inl rfl | exact Or.inr rfl) (hf : X.fn x = true ∨ X.env.scope.names.lookup x = some .local := by first | exact .inl rfl | exact .inr rfl) : PG X (.Name x pos) (tG c [i] (setD i)) := dl_tgName (pg_name hN hi hx hf)
theorem tg0 : PGs X [] (tGs c [] setNil) := dl_tgNil pgs_nil
theorem tg1 {s1 s2 : List Nat} {r1 : D → Env → Option Env} {r2 : List D → Env → Option Env} (h : PG X e (tG c s1 r1)) (h2 : PGs X es (tGs c s2 r2)) (hs : (assignEach (e :: es) X.env).map (·.2) = assign e X.env :: (assignEach es X.env).map (·.2) := by rfl) :
    PGs X (e :: es) (tGs c (s1 ++ s2) (setCons r1 r2)) := dl_tgCons (pgs_cons h h2 hs)
theorem ttup {n : Nat} {sl : List Nat} {r : List D → Env → Option Env} (h : PGs X es (tGs c sl r)) (hc : X.calm = true := by rfl) (hn : (assignEach es X.env).length = n := by rfl) (hst : (assignEach es X.env).findIdx? (·.1) = none := by rfl) (hK : X.K = c.K := by rfl) : PG X (.Tuple es kk pos) (tG c sl (setTup n r)) :=
  dl_tgTup (by rw [← hK]; exact pg_tup hc h hn hst)
/-- the block of a comprehension -/
theorem gcomp {elt iter : Expr} {ifs : List Expr} {scope : Scope} {sl : List Nat} {ri : Env → Out (List D)} {rg : D → Env → Option Env} {rt : Env → Out Bool} {re : Env → Out D} (own : List (Str × Nat)) (hN : X.N.Nodup) (hi : PI X tg iter (tI c W ri)) (ok : blkC X.N X.env.scope scope own = true)
    (hg : ∀ (s : Shared) (H : Hp) (C : Addr) (cl : List (Str × Addr)) (fp : List Addr), PG (X.blk s H scope (compEnvC scope cl C X.env) fp) tg (tG c sl rg)) (ht : ∀ (s : Shared) (H : Hp) (C : Addr) (cl : List (Str × Addr)) (fp : List Addr), PTs (X.blk s H scope (compEnvC scope cl C X.env) fp) ifs (tT c W0 rt))
    (he : ∀ (s : Shared) (H : Hp) (C : Addr) (cl : List (Str × Addr)) (fp : List Addr), PE (X.blk s H scope (compEnvC scope cl C X.env) fp) elt (tD c W0 re)) (hsl : ∀ j, j ∈ sl → j ∈ own.map (·.2) := by decide) (hc : X.calm = true := by rfl) (hs : ∀ x, foldedSetIterable iter X.env x = pure x := by intro _; rfl) :
    PE X (.ListComp elt [⟨tg, iter, ifs, 0⟩] scope pos) (tF c W (compF (own.map (·.2)) ri rg rt re)) := dl_comp hsl (pe_lc hc hN hi (blkOk_by ok) hg ht he hs)
theorem gyes : PTs X [] (tT c W yesT) := dl_yesT pts_nil
theorem gtest1 (h : PT X e (tT c W ta)) : PTs X [e] (tT c W ta) := pts_one h
theorem sret (h : PE X e (tD c W ra)) : PS X (.Return (some e) pos) (tS c W (retS ra)) := dl_ret (ps_ret h)
theorem sdrop (h : PE X e (tD c W ra)) (hs : swapsWith e none pos.line X.env = pure false := by rfl) : PS X (.Expr e pos) (tS c W (dropS ra)) := dl_drop (ps_expr h hs)
theorem sraise {st : Stmt} : PS X st (tS c W neverS) := dl_never ps_never
theorem s0 : PSs X [] (tS c W nextS) := dl_nil pss_nil
theorem s1 {st : Stmt} {ss : List Stmt} {r1 r2 : Env → Out Fl} (h : PS X st (tS c W r1)) (h2 : PSs X ss (tS c W r2)) : PSs X (st :: ss) (tS c W (seqS r1 r2)) := dl_seq (pss_cons h h2)
theorem sif {A B : List Stmt} {r1 r2 : Env → Out Fl} (h : PT X e (tT c W ta)) (h1 : PSs X A (tS c W r1)) (h2 : PSs X B (tS c W r2)) : PS X (.If e A B pos) (tS c W (ifS ta r1 r2)) := dl_if (ps_if h h1 h2)
theorem sfor {B : List Stmt} {iter : Expr} {ri : Env → Out (List D)} {sl : List Nat} {rg : D → Env → Option Env} {rb : Env → Out Fl} (hp : PassesOwn (model X.prog X.w) X.A X.env X.xe) (hi : PI X tg iter (tI c W ri)) (hg : PG X tg (tG c sl rg)) (hb : PSs X B (tS c W rb)) (hc : X.calm = true := by rfl)
    (hs : ∀ x, foldedSetIterable iter X.env x = pure x := by intro _; rfl) : PS X (.For tg iter B [] pos) (tS c W (forS ri rg sl rb)) := dl_for (ps_for hp hc hi hg hb hs)
/-- name = data -/
theorem sset (i : Nat) {pos' : Pos} (hN : X.N.Nodup) (h : PE X e (tD c W ra)) (hi : X.N[i]? = some x := by rfl) (hx : Loc X.env.scope x := by first | exact Or.inl rfl | exact Or.inr rfl) (hs : swapsWith e (some (.Name x pos')) pos.line X.env = pure false := by rfl)
    (hf : X.fn x = true ∨ X.env.scope.names.lookup x = some .local := by first | exact .inl rfl | exact .inr rfl) : PS X (.Assign [.Name x pos'] e pos) (tS c W (asgS ra (setD i) [i])) :=
  dl_asg ((ps_set hN hi hx h hs hf).imp fun D σ H ⟨H0, F, env, g, q⟩ => ⟨H0, F, env, g, q.mono fun d e F' H' s k v hv => by
    exact tgn_read (k v hv)⟩)
theorem ssetO (i : Nat) {pos' : Pos} {rf : Env → Out (List D)} (hN : X.N.Nodup) (h : PE X e (tF c W rf)) (hi : X.N[i]? = some x := by rfl) (hx : Loc X.env.scope x := by first | exact Or.inl rfl | exact Or.inr rfl) (hs : swapsWith e (some (.Name x pos')) pos.line X.env = pure false := by rfl)
    (hf : X.fn x = true ∨ X.env.scope.names.lookup x = some .local := by first | exact .inl rfl | exact .inr rfl) : PS X (.Assign [.Name x pos'] e pos) (tS c W (asgOS i rf)) := dl_asgO (ps_set hN hi hx h hs hf)
end
end DL
namespace DL
open PySem PySem.Spec PyProof.Rows L2
section
variable {c : Kc} {W : WX} {X : Cx} {CX : CXT} {C f : Addr} {a b e o : Expr} {es : List Expr} {kws : List Keyword} {pos p apos : Pos} {x m : Str} {ra rb rc : Env → Out D} {rr rk : Env → Out (List It)} {k n : Nat} {fd : FuncData} {ps ks : List Str} {fn : List SV → Out D} {ds : List D} {dvs : List V} {dl : List Value}
theorem passZ : ∀ σ, PassesAt CX0 X σ (W σ) := fun _ _ _ _ _ _ _ h => h.elim
theorem gR0 : PA X [] (tR c W nilR) := tR_nil
theorem gRd (h : PE X e (tD c W ra)) (h2 : PA X es (tR c W rr)) (hs : starEach (e :: es) X.env = (false, eval e X.env) :: starEach es X.env := by rfl) : PA X (e :: es) (tR c W (consRd ra rr)) := tR_d (pa_cons h h2 hs)
theorem gRr (i : Nat) (h : PE X e (tVar i)) (h2 : PA X es (tR c W rr)) (hs : starEach (e :: es) X.env = (false, eval e X.env) :: starEach es X.env := by rfl) : PA X (e :: es) (tR c W (consRr i rr)) := tR_r (pa_cons h h2 hs)
theorem gK0 : PK X [] (tR c W nilR) := tK_nil
theorem gcall (hb : Binds X.K fd ps dl) (F : FnG X.prog X.w X.K X.mg X.base CX k f fd ps (spF c fn)) (hr : Room k X.A) (gd : X.A.guards = some []) (hp : ∀ σ, PassesAt CX X σ (W σ)) (hd : Vals dvs dl) (hds : ∀ F, RpL c.K c.cm F ds dvs) (hm : X.mg x = some (.ref f)) (hk : PySem.W.keepIn X.K (.ref f) = true) (hl : LenR rr n) (ha : PA X (e :: es) (tR c W rr)) (hg : Gl X x := by rfl)
    (hdb : (x == ("__debug__" : Str)) = false := by decide) (he : starEach (e :: es) X.env = (false, eval e X.env) :: starEach es X.env := by rfl) (hpl : (backTo pos (starEach es X.env)).any (·.1) = false := by rfl) :
    PE X (.Call (.Name x p) (e :: es) [] pos) (tD c W (callS (fnCall fn) (posA ds) rr nilR)) :=
  dl_call1 (sp := fun σ vs _ H Q => spF c fn (vs ++ dvs) H Q (W σ)) (arr_pos hds) callOk_fn (runs_fn F hr gd hb hd hp) hl hg hm hk ha hdb he hpl
theorem gmakeK {cn : Str} {fi : List SV → Out (List (Str × D))} {g : List Value → List Value → List Value} (M : Mk X.K C f) (hb : KBn X.K fd ps (n + 1) ks g fun vs zs => vs ++ zs) (F : FnG X.prog X.w X.K X.mg X.base CX k f fd ps (spI c C fi)) (hr : Room (k + 1) X.A) (gd : X.A.guards = some []) (hp : ∀ σ, PassesAt CX X σ (W σ)) (hC : c.cm cn = some C) (hm : X.mg x = some (.ref C)) (hl : LenR rr n) (hlk : LenR rk ks.length)
    (ha : PA X (e :: es) (tR c W rr)) (hkw : PK X kws (tR c W rk)) (hg : Gl X x := by rfl) (hall : (backToKw pos (keywordEach kws X.env)).all (·.1.isSome) = true := by rfl) (hks : (backToKw pos (keywordEach kws X.env)).filterMap (·.1) = ks := by rfl)
    (hdb : (x == ("__debug__" : Str)) = false := by decide) (he : starEach (e :: es) X.env = (false, eval e X.env) :: starEach es X.env := by rfl)
    (hpl : ((backTo pos (starEach (e :: es) X.env)).any (·.1) || (backToKw pos (keywordEach kws X.env)).any (·.1.isNone)) = false := by rfl) :
    PE X (.Call (.Name x p) (e :: es) kws pos) (tD c W (callS (mkCall cn fi) kwA rr rk)) :=
  dl_callK (sp := fun σ => spMake C (spI c C fi) (fun vs zs => vs ++ zs) (W σ)) arr_kw (callOk_mk hC) (runs_makeK (gV := fun vs zs => vs ++ zs) M F hr gd hb (fun _ _ _ => rfl) hp) hl hlk hg hm M.kp ha hkw hall hks hdb he hpl
theorem gmeth {cn : Str} {pl : Sem Bool} (hb : Binds X.K fd ps dl) (F : FnG X.prog X.w X.K X.mg X.base CX k f fd ps (spF c fn)) (hr : Room k X.A) (gd : X.A.guards = some []) (hp : ∀ σ, PassesAt CX X σ (W σ)) (hd : Vals dvs dl) (hds : ∀ F, RpL c.K c.cm F ds dvs) (hc : c.cm cn = some C) (cl : Cls X.K C) (hm : Meth X.K C m f) (hl : LenR rr n) (ho : PE X o (tD c W ra)) (ha : PA X (e :: es) (tR c W rr))
    (hst : starEach (e :: es) X.env = (false, eval e X.env) :: starEach es X.env := by rfl) (hpl : (backTo pos (starEach es X.env)).any (·.1) = false := by rfl)
    (ht : eval (.Call (.Attribute o m apos) (e :: es) [] pos) X.env = (do
      let ov ← eval o X.env
      standAt apos.atName
      let (f, first) ← holding [ov] (getMethod ov m pl)
      callWith pos f first (backTo pos (starEach (e :: es) X.env)) (backToKw pos (keywordEach [] X.env))) := by rfl) :
    PE X (.Call (.Attribute o m apos) (e :: es) [] pos) (tD c W (methS cn m fn ds ra rr)) := dl_meth hc (runs_fn F hr gd hb hd hp) hds hl cl hm ho ha hst hpl ht
/-- a def that gives a new list -/
theorem gcallL {fl : List SV → Out (List D)} (hb : Binds X.K fd ps []) (F : FnG X.prog X.w X.K X.mg X.base CX k f fd ps (spL c fl)) (hr : Room k X.A) (gd : X.A.guards = some []) (hp : ∀ σ, PassesAt CX X σ (W σ)) (hm : X.mg x = some (.ref f)) (hk : PySem.W.keepIn X.K (.ref f) = true) (hl : LenR rr n) (ha : PA X (e :: es) (tR c W rr)) (hg : Gl X x := by rfl)
    (hdb : (x == ("__debug__" : Str)) = false := by decide) (he : starEach (e :: es) X.env = (false, eval e X.env) :: starEach es X.env := by rfl) (hpl : (backTo pos (starEach es X.env)).any (·.1) = false := by rfl) :
    PE X (.Call (.Name x p) (e :: es) [] pos) (tF c W (callLS fl rr)) := by
  have R : Runs X (.ref f) n [] fun σ vs _ H Q => spL c fl vs H Q (W σ) := by
    have := runs_fn (n := n) (E := W) F hr gd hb .nil hp
    exact ⟨fun pins s σ H Q vs us zs ws I r rz l1 l2 h => this.run pins s σ H Q vs us zs ws I r rz l1 l2 (by rw [List.append_nil]; exact h)⟩
  exact dl_callL R hl hg hm hk ha hdb he hpl
theorem gvar (i : Nat) (hN : X.N[i]? = some x := by rfl) (hv : Vis X.env.scope x := by first | exact Or.inl rfl | exact Or.inr (Or.inl rfl) | exact Or.inr (Or.inr rfl)) (hd : (x == ("__debug__" : Str)) = false := by decide)
    (hcd : (x == ("__classdict__" : Str)) = false := by decide) : PE X (.Name x pos) (tVar i) := pe_var hN hv hd hcd
theorem held_read {rf : Env → Out (List D)} {σ : L2.St} {H : Hp} {Q : VK} (h : tD c W (heldD rf) σ H Q) : tF c W rf σ H Q := by
  obtain ⟨H0, F, env, g, q⟩ := h
  refine ⟨H0, F, env, g, q.seq fun ds e1 F1 H1 s1 q1 v ⟨p, xs, hv, ap, r⟩ => ?_⟩
  subst hv
  have s := s1.good.hold ap
  refine q1 _ _ s _ ?_
  simp only [Rp]
  exact ⟨p, xs, rfl, upd_same, RpL.mono s.same _ _ r⟩
end
section
variable {c : Kc} {W : WX} {X : Cx} {a b e o tg : Expr} {es : List Expr} {pos p apos p1 p2 : Pos} {x y z : Str} {ra rb rc : Env → Out D}
theorem ssetLc (i : Nat) {py spos : Pos} {elt iter : Expr} {ifs : List Expr} {scope : Scope} {sl : List Nat} {ri : Env → Out (List D)} {rg : D → Env → Option Env} {rt : Env → Out Bool} {re : Env → Out D} (own : List (Str × Nat)) (hN : X.N.Nodup) (hi : PI X tg iter (tI c W ri)) (ok : blkC X.N X.env.scope scope own = true)
    (hg : ∀ (s : Shared) (H : Hp) (C : Addr) (cl : List (Str × Addr)) (fp : List Addr), PG (X.blk s H scope (compEnvC scope cl C X.env) fp) tg (tG c sl rg)) (ht : ∀ (s : Shared) (H : Hp) (C : Addr) (cl : List (Str × Addr)) (fp : List Addr), PTs (X.blk s H scope (compEnvC scope cl C X.env) fp) ifs (tT c W0 rt))
    (he : ∀ (s : Shared) (H : Hp) (C : Addr) (cl : List (Str × Addr)) (fp : List Addr), PE (X.blk s H scope (compEnvC scope cl C X.env) fp) elt (tD c W0 re)) (hsl : ∀ j, j ∈ sl → j ∈ own.map (·.2) := by decide) (hc : X.calm = true := by rfl) (hs : ∀ x, foldedSetIterable iter X.env x = pure x := by intro _; rfl)
    (hy : X.N[i]? = some y := by rfl) (hyl : X.env.scope.names.lookup y = some .local := by rfl) (hsw : swapsWith (.ListComp elt [⟨tg, iter, ifs, 0⟩] scope pos) (some (.Name y py)) spos.line X.env = pure true := by rfl) :
    PS X (.Assign [.Name y py] (.ListComp elt [⟨tg, iter, ifs, 0⟩] scope pos) spos) (tS c W (asgS (heldD (compF (own.map (·.2)) ri rg rt re)) (setD i) [i])) :=
  dl_asg ((ps_setLc hc hN hy hyl hsw hi (blkOk_by ok) hg ht he hs).imp fun D σ H q => comp_read hsl (held_read (Q := fun v H1 => gName i v σ H1 D.nx) (by
    obtain ⟨H0, F, env, g, q⟩ := q
    exact ⟨H0, F, env, g, q.mono fun d e F' H' s k v hv => tgn_read (k v hv)⟩)))
theorem sapp (i : Nat) (h : PE X o (tVar i)) (h2 : PE X e (tD c W ra)) (hs1 : swapsWith (.Call (.Attribute o "append" apos) [e] [] p) none pos.line X.env = pure false := by rfl) (hbase : attributeBase o "append" X.env (eval o X.env) = eval o X.env := by rfl)
    (hfew : ((backTo p (starEach [e] X.env)).all (fun x => !x.1) && (backToKw p (keywordEach [] X.env)).all (fun x => x.1.isSome)
      && decide (([e] : List Expr).length + ([] : List Keyword).length + (if ([] : List Keyword).isEmpty then 0 else 1) < 30)) = true := by rfl)
    (hline : (apos.endLine == p.line) = true := by rfl) (hs : starEach [e] X.env = (false, eval e X.env) :: starEach [] X.env := by rfl) (hplain : (backTo p (starEach [] X.env)).any (·.1) = false := by rfl) (hK : X.K = c.K := by rfl) :
    PS X (.Expr (.Call (.Attribute o "append" apos) [e] [] p) pos) (tS c W (appS i ra)) :=
  dl_app (by rw [← hK]; exact ps_expr (pe_bm PySem.F.plainAttrs_list PySem.F.slot_list_append PySem.F.type_list_append mt_append h (pa_cons h2 pa_nil hs) hbase hfew hline hs hplain) hs1)
theorem sext (i : Nat) (h : PE X o (tVar i)) (h2 : PE X e (tD c W ra)) (hs1 : swapsWith (.Call (.Attribute o "extend" apos) [e] [] p) none pos.line X.env = pure false := by rfl) (hbase : attributeBase o "extend" X.env (eval o X.env) = eval o X.env := by rfl)
    (hfew : ((backTo p (starEach [e] X.env)).all (fun x => !x.1) && (backToKw p (keywordEach [] X.env)).all (fun x => x.1.isSome)
      && decide (([e] : List Expr).length + ([] : List Keyword).length + (if ([] : List Keyword).isEmpty then 0 else 1) < 30)) = true := by rfl)
    (hline : (apos.endLine == p.line) = true := by rfl) (hs : starEach [e] X.env = (false, eval e X.env) :: starEach [] X.env := by rfl) (hplain : (backTo p (starEach [] X.env)).any (·.1) = false := by rfl) (hK : X.K = c.K := by rfl) :
    PS X (.Expr (.Call (.Attribute o "extend" apos) [e] [] p) pos) (tS c W (extS i ra)) :=
  dl_ext (by rw [← hK]; exact ps_expr (pe_bm PySem.F.plainAttrs_list PySem.F.slot_list_extend PySem.F.type_list_extend mt_extend h (pa_cons h2 pa_nil hs) hbase hfew hline hs hplain) hs1)
theorem sstore (i : Nat) (h : PE X o (tVar i)) (hk : PE X b (tD c W rb)) (hv : PE X e (tD c W ra))
    (ha : ∀ v, assign (.Subscript o b p) X.env v = (do
      let ov ← holding [v] (eval o X.env)
      let iv ← holding [v, ov] (eval b X.env)
      standAt p
      holding [v, ov, iv] (setItem ov iv v)
      release [v, ov, iv] []) := by intro _; rfl)
    (hs : swapsWithSole [.Subscript o b p] e pos.line X.env = pure false := by rfl) (hw : swappedStores [.Subscript o b p] e X.env = pure none := by rfl) (h1 : (assignEach [.Subscript o b p] X.env).map (·.2) = [assign (.Subscript o b p) X.env] := by rfl) :
    PS X (.Assign [.Subscript o b p] e pos) (tS c W (storeS i rb ra)) := dl_store (ps_asg hv (pg_sub h hk set_list ha) hs hw h1)
theorem gM0 : PA X [] (tM c W nilM) := tM_nil
theorem gMd {rm : Env → Out (List M)} (h : PE X e (tD c W ra)) (h2 : PA X es (tM c W rm)) (hs : starEach (e :: es) X.env = (false, eval e X.env) :: starEach es X.env := by rfl) : PA X (e :: es) (tM c W (consMd ra rm)) := tM_d (pa_cons h h2 hs)
theorem gMf {ro : Env → Out OV} {rm : Env → Out (List M)} (h : PE X e (tNew c W ro)) (h2 : PA X es (tM c W rm)) (hs : starEach (e :: es) X.env = (false, eval e X.env) :: starEach es X.env := by rfl) : PA X (e :: es) (tM c W (consMf ro rm)) := tM_f (pa_cons h h2 hs)
theorem spar2 (i j : Nat) {rm : Env → Out (List M)} {px py pt : Pos} {kt k2 pt2} (hN : X.N.Nodup) (ha : PA X [a, b] (tM c W rm)) (hij : i ≠ j := by decide) (hc : X.calm = true := by rfl) (hi : X.N[i]? = some x := by rfl) (hj : X.N[j]? = some y := by rfl)
    (hx : X.env.scope.names.lookup x = some .local := by rfl) (hy : X.env.scope.names.lookup y = some .local := by rfl) (hw : swappedStores [.Tuple [.Name x px, .Name y py] kt pt] (.Tuple [a, b] k2 pt2) X.env = pure (some [x, y]) := by rfl)
    (hs : swapsWithSole [.Tuple [.Name x px, .Name y py] kt pt] (.Tuple [a, b] k2 pt2) pos.line X.env = pure false := by rfl) : PS X (.Assign [.Tuple [.Name x px, .Name y py] kt pt] (.Tuple [a, b] k2 pt2) pos) (tS c W (parS [i, j] rm)) :=
  dl_par2 (ps_par hc hN hi hj hij hx hy ha hw hs)
theorem gN0 : PGs X [] (gNames []) := pgs_nil
theorem gN1 (i : Nat) {is : List Nat} (hN : X.N.Nodup) (h2 : PGs X es (gNames is)) (hi : X.N[i]? = some x := by rfl) (hx : Loc X.env.scope x := by first | exact Or.inl rfl | exact Or.inr rfl) (hf : X.fn x = true ∨ X.env.scope.names.lookup x = some .local := by first | exact .inl rfl | exact .inr rfl)
    (hs : (assignEach (.Name x pos :: es) X.env).map (·.2) = assign (.Name x pos) X.env :: (assignEach es X.env).map (·.2) := by rfl) : PGs X (.Name x pos :: es) (gNames (i :: is)) := pgs_cons (pg_name hN hi hx hf) h2 hs
theorem sparT {is : List Nat} {n : Nat} {tgs vals : List Expr} {rm : Env → Out (List M)} {k1 k2 : Nat} (hg : PGs X tgs (gNames is)) (ha : PA X vals (tM c W rm)) (hn : (assignEach tgs X.env).length = n := by rfl) (hni : n = is.length := by rfl) (hc : X.calm = true := by rfl) (hst : (assignEach tgs X.env).findIdx? (·.1) = none := by rfl)
    (hs : swapsWithSole [.Tuple tgs k1 p1] (.Tuple vals k2 p2) pos.line X.env = pure false := by rfl) (hw : swappedStores [.Tuple tgs k1 p1] (.Tuple vals k2 p2) X.env = pure none := by rfl) (h1 : (assignEach [.Tuple tgs k1 p1] X.env).map (·.2) = [assign (.Tuple tgs k1 p1) X.env] := by rfl) (hK : X.K = c.K := by rfl) :
    PS X (.Assign [.Tuple tgs k1 p1] (.Tuple vals k2 p2) pos) (tS c W (parT is rm)) := dl_parT hni (by rw [← hK]; exact ps_asg (pe_tupB ha) (pg_tup hc hg hn hst) hs hw h1)
variable {C : Addr}
theorem n0 : PSs X [] (tN c C W nilN) := dl_nilN
theorem n1 {st : Stmt} {ss : List Stmt} {r1 r2 : Env → List (Str × D) → Out (List (Str × D))} (h : PS X st (tN c C W r1)) (h2 : PSs X ss (tN c C W r2)) : PSs X (st :: ss) (tN c C W (seqN r1 r2)) := dl_seqN h h2
theorem ndo (h : PE X e (tD c W ra)) (hs : swapsWith e none pos.line X.env = pure false := by rfl) : PS X (.Expr e pos) (tN c C W (doN ra)) := dl_doN h hs
theorem nfld {f : Str} {pos' : Pos} (hc : Cls X.K C ∧ NoAttr X.K C f) (ho : PE X o (tVar 0)) (h : PE X e (tD c W ra)) (hs : swapsWith e (some (.Attribute o f pos')) pos.line X.env = pure false := by rfl) : PS X (.Assign [.Attribute o f pos'] e pos) (tN c C W (fldN f ra)) := dl_fldN hc ho h hs
theorem l0 : PSs X [] (tL c W nilL) := dl_nilL
theorem l1 {st : Stmt} {ss : List Stmt} {r1 : Env → Out Fl} {r2 : Env → Out (Option (List D))} (h : PS X st (tS c W r1)) (h2 : PSs X ss (tL c W r2)) : PSs X (st :: ss) (tL c W (seqL r1 r2)) := dl_seqL h h2
theorem l2 {st : Stmt} {ss : List Stmt} {r1 r2 : Env → Out (Option (List D))} (h : PS X st (tL c W r1)) (h2 : PSs X ss (tL c W r2)) : PSs X (st :: ss) (tL c W (thenL r1 r2)) := dl_thenL h h2
theorem lret {rf : Env → Out (List D)} (h : PE X e (tF c W rf)) : PS X (.Return (some e) pos) (tL c W (retL rf)) := dl_retL (ps_ret h)
theorem gnewL {rf : Env → Out (List D)} (h : PE X e (tF c W rf)) : PE X e (tNew c W (newL rf)) := dl_newL h
theorem gheld {rf : Env → Out (List D)} (h : PE X e (tF c W rf)) : PE X e (tD c W (heldD rf)) := dl_held h
end
section
variable {K : PySem.W.Frag}
theorem kbn_of {x qual : Str} {pa : Arguments} {body : List Stmt} {sc : Scope} {kws : List (Str × V)} {f : Addr} {fd : FuncData} {ps ks : List Str} {n : Nat} (F : FunD K x qual pa body sc [] kws f fd)
    (h : ∀ (kV doc pm : Value) (an : Option Addr) (cdv ct : Value) (us ws : List Value), us.length = n → ws.length = ks.length → bindArgs (PySem.W.fnOf x qual pa body sc .none kV doc pm an cdv ct) ⟨us, ks.zip ws⟩ = pure (ps.zip (us ++ ws))) :
    KBn K fd ps n ks (fun us ws => us ++ ws) (fun vs zs => vs ++ zs) := by
  obtain ⟨oc, od, dV, kV, doc, pm, an, cdv, ct, osl, rfl, lk, hcd, hD, hK⟩ := F.ex
  rcases hD with ⟨_, rfl⟩ | ⟨e, _⟩
  · exact ⟨fun s us ws _ h1 h2 => .of_eq (h kV doc pm an cdv ct us ws h1 h2), fun r1 r2 => r1.append r2⟩
  · exact absurd rfl e
theorem kit_of (t : String) (h : ∀ n ∈ ["NoneType", "int", "str", "tuple", "list", "dict"], ∀ b, kbTy t n = some b → PySem.W.kitOne K (.type n) (.type t) = some b) (h2 : PySem.W.kitOne K (.type t) (.type t) = some true) : ∀ n b, kbTy t n = some b → PySem.W.kitOne K (.type n) (.type t) = some b := fun n b e => by
  by_cases hn : n = t
  · subst hn
    unfold kbTy at e
    rw [if_pos rfl] at e
    cases e
    exact h2
  · have e0 := e
    unfold kbTy at e
    rw [if_neg hn] at e
    split at e
    · rename_i hh
      simp only [Bool.and_eq_true] at hh
      exact h n (List.contains_iff_mem.mp hh.1) b e0
    · cases e
theorem kit_str : ∀ n b, kbTy "str" n = some b → PySem.W.kitOne K (.type n) (.type "str") = some b := kit_of "str" (fun n hn b e => by
  simp only [List.mem_cons, List.not_mem_nil, or_false] at hn
  rcases hn with rfl | rfl | rfl | rfl | rfl | rfl <;> (simp [kbTy] at e; subst e; first | rfl | decide +kernel)) (by first | rfl | decide +kernel)
theorem kit_tuple : ∀ n b, kbTy "tuple" n = some b → PySem.W.kitOne K (.type n) (.type "tuple") = some b := kit_of "tuple" (fun n hn b e => by
  simp only [List.mem_cons, List.not_mem_nil, or_false] at hn
  rcases hn with rfl | rfl | rfl | rfl | rfl | rfl <;> (simp [kbTy] at e; subst e; first | rfl | decide +kernel)) (by first | rfl | decide +kernel)
end
end DL
namespace DL
open PySem PySem.Spec PyProof.Rows L2
/-- law's: a list of at most 63 ints is handed in, True comes out -/
noncomputable def spLaw (K : PySem.W.Frag) : L2.Sp := fun vs H Q _ => ∃ (a : Addr) (ns : List Int), vs = [.ref a] ∧ SqL K H a (ns.map V.int) ∧ ns.length ≤ 63 ∧ ∀ H', Q (.bl true) H'
theorem rpl_ints {K : PySem.W.Frag} {cm : CM} {F : Hp} : ∀ ns : List Int, RpL K cm F (ns.map D.int) (ns.map V.int)
  | [] => .nil
  | n :: ns => .cons (by simp only [Rp]) (rpl_ints ns)
theorem law_imp {c : Kc} {fn : List SV → Out D} {vs : List V} {H : Hp} {Q : VK} {E : XK} (h : ∀ ns : List Int, ns.length ≤ 63 → ∃ e, fn [.dat (.ro (ns.map D.int))] = .ok (.bl true) e) (q : spLaw c.K vs H Q E) : spF c fn vs H Q E := by
  obtain ⟨a, ns, rfl, hS, hl, k⟩ := q
  obtain ⟨e, he⟩ := h ns hl
  refine ⟨H, [.dat (.ro (ns.map D.int))], ⟨Same.refl _, rfl, fun i sv q => ?_, fun i j sv tv b n q1 q2 o1 o2 r => ?_, fun b o e _ => e, fun i o b q _ => ?_⟩, rfl, ?_⟩
  · cases i with
    | zero =>
      simp at q
      subst q
      refine ⟨.ref a, rfl, ?_⟩
      simp only [Rp]
      exact ⟨a, _, rfl, hS, rpl_ints ns⟩
    | succ i => simp at q
  · cases i with
    | zero => simp at q1; subst q1; cases o1
    | succ i => simp at q1
  · cases i with
    | zero => simp at q
    | succ i => simp at q
  · rw [he]
    intro F' H' st v hv
    simp only [Rp] at hv
    subst hv
    exact k H'
theorem walk {l : PySem.W.OpenLaw} {q : Program} {loose : List Str} {XP : (Str → Option Value) → Heap → Prop} {YP : World → Heap → Prop} {d : DefRec} {K : Params → PySem.W.Frag} {k : Nat} {x : Str} (hr : Room k callerA) (hn : l.most = some 63) (hdf : d.params.defaults = [])
    (hY : ∀ (w : World) (h : Heap), YP w h → (K w.params).In h)
    (F : ∀ (w : World) (mg : Str → Option Value) (fa : Addr) (h : Heap), (K w.params).In h → h.Ns mainGlobals mg → mg d.name = some (.ref fa) →
      ∃ fd : FuncData, (∀ (s : Shared) (u : Value), BindsTo s fd ⟨[u], []⟩ [(x, u)]) ∧ ∀ base : Heap, (K w.params).In base → base.Ns mainGlobals mg → FnG l.prog w (K w.params) mg base CX0 k fa fd [x] (spLaw (K w.params))) :
    PySem.W.WalkO q loose XP YP l.row.toRowW d [] (fun f vs => PySem.call f vs) :=
  walkG_of (n := 63) (k := k) (x := x) (CX := fun _ => CX0) (sp := fun w => spLaw (K w.params)) hn (by decide) hdf hr hY F (fun _ _ a ns hl _ hS => ⟨a, ns, rfl, hS, hl, fun _ => rfl⟩) fun _ _ _ _ _ z => z
theorem kit_self {K : PySem.W.Frag} {C : Addr} : PySem.W.kitOne K (.ref C) (.ref C) = some true := by
  unfold PySem.W.kitOne
  rw [if_pos (by simp)]
end DL
namespace DL
open PySem PySem.Spec PyProof.Rows L2
noncomputable def isNonF : D → Bool
  | .non => true
  | _ => false
noncomputable def isF (n : Bool) (x y : D) : Option D := match y with
  | .non => some (.bl (if n then !isNonF x else isNonF x))
  | _ => none
end DL
namespace DL
open PySem PySem.Spec PyProof.Rows L2
/-- behind the positional values: the j-th keyword's value, or the default -/
noncomputable def layL {α : Type} (z dv : α) (pl : List (Option Nat)) (us ws : List α) : List α := us ++ pl.map fun o => match o with | some j => ws.getD j z | none => dv
section
variable {c : Kc} {F : Hp} {env : Env} {σ : L2.St}
theorem its_get : ∀ {jts : List It} {zs : List V} (j : Nat), ItsOk c F env σ jts zs → ItsOk c F env σ [jts.getD j (.d .non)] [zs.getD j .non]
  | [], zs, j, h => by
    rw [show zs = [] from h]
    exact ⟨.non, [], rfl, by simp only [Rp], rfl⟩
  | .d x :: jts, _, 0, ⟨v, r, e, h, t⟩ => by subst e; exact ⟨v, [], rfl, h, rfl⟩
  | .d x :: jts, _, j + 1, ⟨v, r, e, h, t⟩ => by subst e; exact its_get (jts := jts) j t
  | .r i :: jts, _, 0, ⟨v, r, e, h, o, t⟩ => by subst e; exact ⟨v, [], rfl, h, o, rfl⟩
  | .r i :: jts, _, j + 1, ⟨v, r, e, h, o, t⟩ => by subst e; exact its_get (jts := jts) j t
theorem arr_lay {d : D} {v : V} {pl : List (Option Nat)} (hd : ∀ F, Rp c.K c.cm F d v) : Arr c (layL (.d .non) (.d d) pl) (layL .non v pl) := ⟨fun F env σ its jts vs zs h k => by
  refine its_app h ?_
  induction pl with
  | nil => rfl
  | cons o pl ih =>
    have e1 : ItsOk c F env σ [match o with | some j => jts.getD j (.d .non) | none => .d d] [match o with | some j => zs.getD j .non | none => v] := by
      cases o with
      | some j => exact its_get j k
      | none => exact ⟨v, [], rfl, hd F, rfl⟩
    exact its_app e1 ih⟩
end
section
variable {K : PySem.W.Frag} {x qual : Str} {pa : Arguments} {body : List Stmt} {sc : Scope} {kws : List (Str × V)} {f : Addr} {fd : FuncData} {ps ks : List Str} {n : Nat}
theorem vals_getD : ∀ {zs : List V} {ws : List Value} (j : Nat), Vals zs ws → RelV (zs.getD j .non) (ws.getD j .none)
  | _, _, _, .nil => rfl
  | _, _, 0, .cons h t => h
  | _, _, j + 1, .cons h t => vals_getD j t
theorem vals_lay {v : V} {u : Value} {pl : List (Option Nat)} (h : RelV v u) {vs zs : List V} {us ws : List Value} (r : Vals vs us) (k : Vals zs ws) : Vals (layL .non v pl vs zs) (layL .none u pl us ws) := by
  refine r.append ?_
  induction pl with
  | nil => exact .nil
  | cons o pl ih =>
    cases o with
    | some j => exact .cons (vals_getD j k) ih
    | none => exact .cons h ih
/-- no default is asked for -/
theorem kbp_of (pl : List (Option Nat)) (F : FunD K x qual pa body sc [] kws f fd)
    (h : ∀ (kV doc pm : Value) (an : Option Addr) (cdv ct : Value) (us ws : List Value), us.length = n → ws.length = ks.length → bindArgs (PySem.W.fnOf x qual pa body sc .none kV doc pm an cdv ct) ⟨us, ks.zip ws⟩ = pure (ps.zip (layL .none .none pl us ws))) :
    ∃ g, KBn K fd ps n ks g (layL .non .non pl) := by
  obtain ⟨oc, od, dV, kV, doc, pm, an, cdv, ct, osl, rfl, lk, hcd, hD, hK⟩ := F.ex
  rcases hD with ⟨_, rfl⟩ | ⟨e, _⟩
  · exact ⟨_, fun s us ws _ h1 h2 => .of_eq (h kV doc pm an cdv ct us ws h1 h2), fun r1 r2 => vals_lay (show RelV V.non Value.none from rfl) r1 r2⟩
  · exact absurd rfl e
/-- the one default -/
theorem kbd_of {q : Str} {v : V} (pl : List (Option Nat)) (F : FunD K x qual pa body sc [] [(q, v)] f fd)
    (h : ∀ (D : Addr) (doc pm : Value) (an : Option Addr) (cdv ct u : Value) (us ws : List Value), us.length = n → ws.length = ks.length → KwChain D [(q, u)] (bindArgs (PySem.W.fnOf x qual pa body sc .none (.ref D) doc pm an cdv ct) ⟨us, ks.zip ws⟩) (ps.zip (layL .none u pl us ws))) :
    ∃ g, KBn K fd ps n ks g (layL .non v pl) := by
  obtain ⟨oc, od, dV, kV, doc, pm, an, cdv, ct, osl, rfl, lk, hcd, hD, hK⟩ := F.ex
  rcases hD with ⟨_, rfl⟩ | ⟨e, _⟩
  · rcases hK with e | ⟨D, rfl, hq⟩
    · cases e
    · obtain ⟨u, e1, e2⟩ := hq (q, v) List.mem_cons_self
      refine ⟨layL .none u pl, fun s us ws X l1 l2 => BindsTo.of_looks fun M => KwChain.looks (l := [(q, u)]) X (fun p hp => ?_) (h D doc pm an cdv ct u us ws l1 l2), fun r1 r2 => vals_lay e2 r1 r2⟩
      simp at hp
      subst hp
      exact e1
  · exact absurd rfl e
theorem funD_mk {oc : Value} {od an : Option Addr} {osl : Array (Option Value)} {kV doc pm cdv ct : Value} (l : K.lookup f = some ⟨oc, od, .func (PySem.W.fnOf x qual pa body sc .none kV doc pm an cdv ct), osl⟩)
    (hc : PySem.W.codeIn K cdv qual = true) (k : PySem.W.keepIn K (.ref f) = true) : FunD K x qual pa body sc [] [] f (PySem.W.fnOf x qual pa body sc .none kV doc pm an cdv ct) := ⟨⟨oc, od, .none, kV, doc, pm, an, cdv, ct, osl, rfl, l, hc, .inl ⟨rfl, rfl⟩, .inl rfl⟩, k⟩
theorem funD_mk1 {oc : Value} {od an : Option Addr} {osl : Array (Option Value)} {D : Addr} {doc pm cdv ct : Value} {q : Str} {v : V} {u : Value} (l : K.lookup f = some ⟨oc, od, .func (PySem.W.fnOf x qual pa body sc .none (.ref D) doc pm an cdv ct), osl⟩)
    (hc : PySem.W.codeIn K cdv qual = true) (k : PySem.W.keepIn K (.ref f) = true) (hq : PySem.W.nsIn K D q = some (some u)) (r : RelV v u) : FunD K x qual pa body sc [] [(q, v)] f (PySem.W.fnOf x qual pa body sc .none (.ref D) doc pm an cdv ct) :=
  ⟨⟨oc, od, .none, .ref D, doc, pm, an, cdv, ct, osl, rfl, l, hc, .inl ⟨rfl, rfl⟩, .inr ⟨D, rfl, fun p hp => by
    simp at hp
    subst hp
    exact ⟨u, hq, r⟩⟩⟩, k⟩
/-- the written empty tuple -/
theorem sqT_nil {e : Addr} {n : Nat} {sl : Array (Option Value)} (h : K.lookup e = some ⟨.type "tuple", none, .seq #[] n, sl⟩) (H : Hp) : TB K H e [] := .inr ⟨_, #[], n, h, rfl, rfl, rfl, Nat.zero_le _, .nil⟩
theorem rp_tup0 {cm : CM} {e : Addr} (h : ∀ H, TB K H e []) (F : Hp) : Rp K cm F (.tup []) (.ref e) := by
  simp only [Rp]
  exact ⟨e, [], rfl, h F, .nil⟩
theorem rp_non {cm : CM} (F : Hp) : Rp K cm F .non .non := by simp only [Rp]
end
section
variable {c : Kc} {W : WX} {X : Cx} {CX : CXT} {e o : Expr} {es : List Expr} {kws : List Keyword} {x m : Str} {p pos apos : Pos} {k n : Nat} {f C : Addr} {fd : FuncData} {ps ks : List Str} {fn : List SV → Out D} {rr rk : Env → Out (List It)} {ra : Env → Out D} {gD : List It → List It → List It} {gV : List V → List V → List V}
/-- f(k = v, ..) -/
theorem gcallPK0 (A : Arr c gD gV) (hb : ∃ g, KBn X.K fd ps 0 ks g gV) (Fo : FnG X.prog X.w X.K X.mg X.base CX k f fd ps (spF c fn)) (hr : Room k X.A) (gd : X.A.guards = some []) (hp : ∀ σ, PassesAt CX X σ (W σ)) (hm : X.mg x = some (.ref f)) (hk : PySem.W.keepIn X.K (.ref f) = true) (hlk : LenR rk ks.length)
    (hkw : PK X kws (tR c W rk)) (hg : Gl X x := by rfl) (hall : (backToKw pos (keywordEach kws X.env)).all (·.1.isSome) = true := by rfl) (hks : (backToKw pos (keywordEach kws X.env)).filterMap (·.1) = ks := by rfl)
    (hdb : (x == ("__debug__" : Str)) = false := by decide) (hpl : ((backTo pos (starEach [] X.env)).any (·.1) || (backToKw pos (keywordEach kws X.env)).any (·.1.isNone)) = false := by rfl) :
    PE X (.Call (.Name x p) [] kws pos) (tD c W (callS (fnCall fn) gD nilR rk)) := by
  obtain ⟨g, hb⟩ := hb
  exact dl_callK0 (sp := fun σ vs zs H Q => spF c fn (gV vs zs) H Q (W σ)) A callOk_fn (runs_fnK Fo hr gd hb hp) hlk hg hm hk hkw hall hks hdb hpl
theorem gmakeP1 {cn : Str} {fi : List SV → Out (List (Str × D))} {gI : List V → List V → List V} (A : Arr c gD gV) (hw : ∀ x vs zs, gI (x :: vs) zs = x :: gV vs zs) (M : Mk X.K C f) (hb : ∃ g, KBn X.K fd ps (n + 1) [] g gI) (Fo : FnG X.prog X.w X.K X.mg X.base CX k f fd ps (spI c C fi)) (hr : Room (k + 1) X.A) (gd : X.A.guards = some []) (hp : ∀ σ, PassesAt CX X σ (W σ)) (hC : c.cm cn = some C) (hm : X.mg x = some (.ref C)) (hl : LenR rr n)
    (ha : PA X (e :: es) (tR c W rr)) (hg : Gl X x := by rfl) (hdb : (x == ("__debug__" : Str)) = false := by decide) (he : starEach (e :: es) X.env = (false, eval e X.env) :: starEach es X.env := by rfl) (hpl : (backTo pos (starEach es X.env)).any (·.1) = false := by rfl) :
    PE X (.Call (.Name x p) (e :: es) [] pos) (tD c W (callS (mkCall cn fi) gD rr nilR)) := by
  obtain ⟨g, hb⟩ := hb
  exact dl_call1 (sp := fun σ => spMake C (spI c C fi) gV (W σ)) A (callOk_mk hC) (runs_makeK M Fo hr gd hb hw hp) hl hg hm M.kp ha hdb he hpl
noncomputable def methK (cn m : Str) (fn : List SV → Out D) (gD : List It → List It → List It) (ro : Env → Out D) (ra rk : Env → Out (List It)) (e : Env) : Out D := (ro e).bind fun d e1 => match d with
  | .obj cn' ns l => if cn' = cn ∧ (ns.contains m) = false then (ra e1).bind fun its e2 => (rk e2).bind fun jts e3 => if refsB its e3 = true then fnCall fn (gD (.d (.obj cn' ns l) :: its) jts) e3 else .no else .no
  | _ => .no
end
end DL
namespace DL
open PySem PySem.Spec PyProof.Rows L2
theorem vb_repr : bootBuiltins "repr" = some (.builtin "repr") := by decide +kernel
theorem vb_divmod : bootBuiltins "divmod" = some (.builtin "divmod") := by decide +kernel
noncomputable def okRp (d : D) : Bool := d.pure && d.toP.showable && decide (d.toP.depth ≤ 60) && decide (d.toP.shown.length ≤ sizeLine) && (match d with | .tup _ => true | .lst _ => true | .ro _ => true | _ => false)
noncomputable def reprF (d : D) : Option D := if okRp d = true then some (.str d.toP.shown) else none
noncomputable def rRepr (K : PySem.W.Frag) : List V → Hp → VK → Prop := fun xs H Q => ∃ (a : Addr) (d : PyData), xs = [.ref a] ∧ Dp K H (.ref a) d ∧ d.showable = true ∧ d.depth ≤ 60 ∧ d.shown.length ≤ sizeLine ∧ Q (.str d.shown) H
theorem dp_nodict {K : PySem.W.Frag} {H : Hp} {v : V} {d : PyData} (h : Dp K H v d) : d.hasDict = false := by
  refine Dp.rec (motive_1 := fun v d _ => d.hasDict = false) (motive_2 := fun vs ds _ => PyData.hasDictAll ds = false) ?_ ?_ ?_ ?_ ?_ ?_ ?_ ?_ h
  · rfl
  · intro b; rfl
  · intro i; rfl
  · intro x; rfl
  · intro a xs ds _ _ ih; simpa [PyData.hasDict] using ih
  · intro a xs ds _ _ ih; simpa [PyData.hasDict] using ih
  · rfl
  · intro v vs d ds _ _ h1 h2; simp [PyData.hasDictAll, h1, h2]
theorem cr_repr {X : Cx} (gd : X.A.guards = some []) (hu : X.A.units + 62 < cLine) : CallR X (.builtin "repr") (rRepr X.K) := by
  intro pins s σ H xs us Q I r h
  obtain ⟨a, d, rfl, hd, hs, hp, hz, q⟩ := h
  obtain ⟨u, rfl, ru⟩ := vals1 r
  obtain rfl : u = Value.ref a := ru
  obtain ⟨as, rd⟩ := Dp.reads I d _ _ hd (show RelV (.ref a) (.ref a) from rfl)
  refine repr_of_reads' rd hs (fun z => by rw [dp_nodict hd] at z; cases z) gd (by omega) (fun _ _ e => e) (fun h' u tk hk => ?_) hz
  exact ⟨.str d.shown, H, I.kept (t' := tk) hk, ⟨u, rfl⟩, q⟩
section
variable {c : Kc} {W : WX} {X : Cx} {E : XK} {a b e o : Expr} {es : List Expr} {pos p apos : Pos} {x : Str} {ra rb rc : Env → Out D}
theorem prim_repr : PrimC c (rRepr c.K) (one reprF) := primC1 fun H0 F H env σ x v d Q g hx e k => by
  unfold reprF at e
  split at e
  · rename_i ok
    cases e
    simp only [okRp, Bool.and_eq_true, decide_eq_true_eq] at ok
    obtain ⟨⟨⟨⟨o1, o2⟩, o3⟩, o4⟩, o5⟩ := ok
    have hd := Rp.dp _ _ o1 (Rp.mono g.le _ _ hx)
    have q := k F H (Step.refl g) (.str x.toP.shown) (by simp [Rp])
    have ref : ∃ a, v = .ref a := by
      cases x with
      | tup l => simp only [Rp] at hx; obtain ⟨a, xs, rfl, _⟩ := hx; exact ⟨a, rfl⟩
      | lst l => simp only [Rp] at hx; obtain ⟨a, xs, rfl, _⟩ := hx; exact ⟨a, rfl⟩
      | ro l => simp only [Rp] at hx; obtain ⟨a, xs, rfl, _⟩ := hx; exact ⟨a, rfl⟩
      | _ => cases o5
    obtain ⟨a, rfl⟩ := ref
    exact ⟨a, _, rfl, hd, o2, o3, o4, q⟩
  · cases e
noncomputable def divF : List D → Option D
  | [.int i, .int j] => if 0 < j ∧ j.natAbs.log2 < 9000 then some (.tu [.int (i / j), .int (i % j)]) else none
  | _ => none
theorem prim_div : PrimC c (fun xs H Q => ∃ i j, xs = [.int i, .int j] ∧ CDivP i j ∧ ∀ p, H p = none → Q (.ref p) (upd H p (.tup [.int (i / j), .int (i % j)]))) divF := fun H0 F H env σ ds vs d Q g hv ed k => by
  unfold divF at ed
  split at ed
  · rename_i i j
    split at ed
    · rename_i hj
      cases ed
      simp only [RpL, Rp] at hv
      obtain ⟨v, w, rfl, rfl, v2, w2, rfl, rfl, rfl⟩ := hv
      refine ⟨i, j, rfl, ⟨hj.1, PyProof.noPylong_of_log2 hj.2⟩, fun p hp => ?_⟩
      have st := g.alloc (o := .tup [.int (i / j), .int (i % j)]) hp
      refine k _ _ st _ ?_
      simp only [Rp]
      exact ⟨p, _, rfl, SqT.of upd_same, RpL.cons (by simp [Rp]) (RpL.cons (by simp [Rp]) RpL.nil)⟩
    · cases ed
  · cases ed
theorem bdivmod : BltOk c X "divmod" divF := ⟨_, call_divmodW, prim_div⟩
noncomputable def itZA (ra : Env → Out (List D)) (e : Env) : Out (List D) := (ra e).bind fun ds e1 => match ds with
  | [.lst l, .lst m] => .ok (zipL l m) e1
  | [.tup l, .tup m] => .ok (zipL l m) e1
  | [.tup l, .tu m] => .ok (zipL l m) e1
  | [.tu l, .tup m] => .ok (zipL l m) e1
  | [.tu l, .tu m] => .ok (zipL l m) e1
  | _ => .no
noncomputable def catF (ra rb : Env → Out D) (e : Env) : Out (List D) := (ra e).bind fun x e1 => (rb e1).bind fun y e2 => match x, y with
  | .lst l, .lst m => if l.length + m.length ≤ sizeLine then .ok (l ++ m) e2 else .no
  | _, _ => .no
noncomputable def inO (n : Bool) (d : D) (l : List D) : Option Bool := match flatD d, asV l with
  | some v, some vs => if (flatV v && vs.all flatV) = true then some (if n then !inV v vs else inV v vs) else none
  | _, _ => none
noncomputable def ownIn (n : Bool) (i : Nat) (ra : Env → Out D) (e : Env) : Out D := (ra e).bind fun d e1 => match lstOf e1[i]? with
  | some l => (match inO n d l with
    | some b => .ok (.bl b) e1
    | none => .no)
  | none => (match e1[i]? with
    | some (.dat y) => pur2 (inF n) d y e1
    | _ => .no)
/-- where k stands first -/
noncomputable def posS (k : Str) : List Str → Option Nat
  | [] => none
  | a :: l => if a = k then some 0 else (posS k l).map (· + 1)
noncomputable def remS (i : Nat) (rv : Env → Out D) (e : Env) : Out Fl := match lstOf e[i]? with
  | none => .no
  | some _ => (rv e).bind fun d e2 => match lstOf e2[i]?, d with
    | some l, .str k => (match (asS l).bind fun (ys : List Str) => (posS k ys).map fun j => (ys.eraseIdx j).map D.str with
      | some l' => (match putOv i (.L l') e2 with
        | some e3 => .ok .nx e3
        | none => .no)
      | none => .no)
    | _, _ => .no
noncomputable def splitS (i j : Nat) (r rk : Env → Out D) (e : Env) : Out Fl := (r e).bind fun d e1 => match d, lstOf e1[i]? with
  | .tu [u, v], some _ => (rk e1).bind fun k e2 => match lstOf e2[i]?, k with
    | some l, .int n => (match ixN l.length n with
      | some m => (match putOv i (.L (l.set m u)) e2 with
        | some e3 => (match setD j v e3 with
          | some e4 => if (keepsB e3 e4 && freeE e4 [j]) = true then .ok .nx e4 else .no
          | none => .no)
        | none => .no)
      | none => .no)
    | _, _ => .no
  | _, _ => .no
theorem dl_split {st : Stmt} {i j : Nat} {rk : Env → Out D} (h : PS X st (tAsg (tD c W ra) (gTup c.K 2 (gCons (gSub (tVar i) (tD c W rk) rSetL) (gCons (gName j) gNil))))) : PS X st (tS c W (splitS i j ra rk)) := h.imp fun D σ H ⟨H0, F, env, g, q⟩ =>
  ⟨H0, F, env, g, q.seqE fun d e F1 H1 st k v hv => by
    split at k
    · rename_i u w l0 el0
      simp only [Rp] at hv
      obtain ⟨t, xs, rfl, ht, rx⟩ := hv
      simp only [RpL] at rx
      obtain ⟨v1, r1, rfl, h1, v2, r2, rfl, h2, rfl⟩ := rx
      obtain ⟨a, xs0, ha, _, _⟩ := own_list st.good el0
      refine ⟨t, _, rfl, same_T st.good.le ht, rfl, v1, _, rfl, _, ha, H0, F1, e, st.good, k.seqE fun kd e2 F2 H2 s2 k2 uu hu => ?_⟩
      split at k2
      · rename_i l n el
        split at k2
        · rename_i m hm
          split at k2
          · rename_i e3 hp
            obtain ⟨a', xs, ha', hH, r⟩ := own_list s2.good el
            rw [ha] at ha'; cases ha'
            simp only [Rp] at hu
            subst hu
            refine ⟨a, xs, n, m, rfl, rfl, hH, by rw [r.len]; exact hm, v2, _, rfl, ?_⟩
            have st3 := putOv_step (o := .lst (xs.set m v1)) s2.good hp ha ⟨_, upd_same, r.set (Rp.mono s2.same _ _ h1)⟩
            split at k2
            · rename_i e4 hd
              split at k2
              · rename_i hk
                obtain ⟨g4, kk⟩ := setD_good st3.good hd (Rp.mono (s2.same.trans st3.same) _ _ h2)
                exact ⟨rfl, k2 _ F2 _ (st3.toS.trans (StepS.ofTarget st3.good g4 hk fun q hq => kk q (by simpa using hq)))⟩
              · exact k2.elim
            · exact k2.elim
          · exact k2.elim
        · exact k2.elim
      · exact k2.elim
    · exact k.elim⟩
theorem ssplit (i j : Nat) {y : Str} {px pt : Pos} {kt : Nat} (hN : X.N.Nodup) (h : PE X o (tVar i)) (hk : PE X b (tD c W rb)) (hv : PE X e (tD c W ra)) (hj : X.N[j]? = some y := by rfl) (hx : Loc X.env.scope y := by first | exact Or.inl rfl | exact Or.inr rfl)
    (hf : X.fn y = true ∨ X.env.scope.names.lookup y = some .local := by first | exact .inl rfl | exact .inr rfl)
    (ha : ∀ v, assign (.Subscript o b p) X.env v = (do
      let ov ← holding [v] (eval o X.env)
      let iv ← holding [v, ov] (eval b X.env)
      standAt p
      holding [v, ov, iv] (setItem ov iv v)
      release [v, ov, iv] []) := by intro _; rfl) (hc : X.calm = true := by rfl)
    (e1 : (assignEach [.Subscript o b p, .Name y px] X.env).map (·.2) = assign (.Subscript o b p) X.env :: (assignEach [.Name y px] X.env).map (·.2) := by rfl) (e2 : (assignEach [.Name y px] X.env).map (·.2) = assign (.Name y px) X.env :: (assignEach [] X.env).map (·.2) := by rfl)
    (hn : (assignEach [.Subscript o b p, .Name y px] X.env).length = 2 := by rfl) (hst : (assignEach [.Subscript o b p, .Name y px] X.env).findIdx? (·.1) = none := by rfl)
    (hs : swapsWithSole [.Tuple [.Subscript o b p, .Name y px] kt pt] e pos.line X.env = pure false := by rfl) (hw : swappedStores [.Tuple [.Subscript o b p, .Name y px] kt pt] e X.env = pure none := by rfl)
    (h1 : (assignEach [.Tuple [.Subscript o b p, .Name y px] kt pt] X.env).map (·.2) = [assign (.Tuple [.Subscript o b p, .Name y px] kt pt) X.env] := by rfl) (hK : X.K = c.K := by rfl) :
    PS X (.Assign [.Tuple [.Subscript o b p, .Name y px] kt pt] e pos) (tS c W (splitS i j ra rb)) :=
  dl_split (by rw [← hK]; exact ps_asg hv (pg_tup hc (pgs_cons (pg_sub h hk set_list ha) (pgs_cons (pg_name hN hj hx hf) pgs_nil e2) e1) hn hst) hs hw h1)
end
end DL
namespace DL
open PySem PySem.Spec PyProof.Rows L2
noncomputable def keyOf : D → Option Key
  | .int i => some (.inl i)
  | .str s => some (.inr s)
  | _ => none
noncomputable def getA (k : Key) : List Key → List D → Option D
  | q :: ks, d :: l => if q = k then some d else getA k ks l
  | _, _ => none
noncomputable def putA (k : Key) (d : D) : List (Key × D) → List (Key × D)
  | [] => [(k, d)]
  | p :: r => if p.1 = k then (p.1, d) :: r else p :: putA k d r
section
variable {c : Kc} {W : WX} {X : Cx} {H0 F F' H H' : Hp} {env env' : Env} {σ : L2.St} {Q : VK} {E : XK} {a b e o : Expr} {pos p apos : Pos} {x : Str} {ra rb rc : Env → Out D}
theorem keyOf_rp {d : D} {k : Key} {v : V} (h : keyOf d = some k) (r : Rp c.K c.cm F d v) : v = kV k := by
  unfold keyOf at h
  split at h
  · cases h; simp only [Rp] at r; exact r
  · cases h; simp only [Rp] at r; exact r
  · cases h
theorem getA_rp {k : Key} : ∀ {ks : List Key} {l : List D} {xs : List V} {d : D}, RpL c.K c.cm F l xs → getA k ks l = some d → ∃ v, valV (ks.zip xs) k = some v ∧ Rp c.K c.cm F d v
  | [], _, _, _, _, h => by cases h
  | _ :: _, [], _, _, _, h => by cases h
  | q :: ks, d0 :: l, xs, d, r, h => by
    simp only [RpL] at r
    obtain ⟨v, vs, rfl, r1, r2⟩ := r
    unfold getA at h
    split at h
    · rename_i e
      cases h
      exact ⟨v, valV_pos e, r1⟩
    · rename_i e
      obtain ⟨w, h1, h2⟩ := getA_rp r2 h
      exact ⟨w, by rw [List.zip_cons_cons, valV_neg e]; exact h1, h2⟩
theorem putK_cons {q k : Key} {u v : V} {r : List (Key × V)} (hn : (((q, u) :: r).map (·.1)).Nodup) : putK ((q, u) :: r) k v = if q = k then (q, v) :: r else (q, u) :: putK r k v := by
  by_cases e : q = k
  · rw [if_pos e]
    subst e
    have no : ∀ kv ∈ r, ¬ kv.1 = q := fun kv m z => by
      rw [List.map_cons] at hn
      exact (List.nodup_cons.mp hn).1 (List.mem_map.mpr ⟨kv, m, z⟩)
    unfold putK
    rw [if_pos (by simp)]
    simp only [List.map_cons, if_pos]
    refine congrArg ((q, v) :: ·) ?_
    refine (List.map_congr_left fun kv m => ?_).trans (List.map_id r)
    rw [if_neg (no kv m)]; rfl
  · rw [if_neg e]
    unfold putK
    by_cases hr : (r.any fun kv => decide (kv.1 = k)) = true
    · rw [if_pos (by simp [hr]), if_pos hr]
      simp [e]
    · rw [if_neg (by simpa [e] using hr), if_neg hr]
      rfl
/-- a dict's content: keys unlike each other -/
theorem putA_rp {k : Key} {d : D} {v : V} (hv : Rp c.K c.cm F d v) : ∀ {kd : List (Key × D)} {xs : List V}, (kd.map (·.1)).Nodup → RpL c.K c.cm F (kd.map (·.2)) xs → ∃ ys, putK ((kd.map (·.1)).zip xs) k v = ((putA k d kd).map (·.1)).zip ys ∧ RpL c.K c.cm F ((putA k d kd).map (·.2)) ys
  | [], xs, _, r => by
    simp only [List.map_nil, RpL] at r
    subst r
    exact ⟨[v], rfl, .cons hv .nil⟩
  | (q, d0) :: kd, xs, hn, r => by
    simp only [List.map_cons, RpL] at r
    obtain ⟨u, vs, rfl, r1, r2⟩ := r
    have hl := r2.len
    have hm : ((kd.map (·.1)).zip vs).map (·.1) = kd.map (·.1) := List.map_fst_zip (by simp at hl; simp; omega)
    have hn' : (kd.map (·.1)).Nodup := (List.nodup_cons.mp (by rwa [List.map_cons] at hn)).2
    have e1 : putK (((q, d0) :: kd).map (·.1) |>.zip (u :: vs)) k v = if q = k then (q, v) :: (kd.map (·.1)).zip vs else (q, u) :: putK ((kd.map (·.1)).zip vs) k v := putK_cons (by
      rw [List.map_cons] at hn ⊢
      exact (congrArg (fun z => (q :: z).Nodup) hm).mpr hn)
    rw [e1]
    unfold putA
    by_cases e : q = k
    · rw [if_pos e, if_pos e]
      exact ⟨v :: vs, rfl, .cons hv r2⟩
    · rw [if_neg e, if_neg e]
      obtain ⟨ys, h1, h2⟩ := putA_rp (kd := kd) hv hn' r2
      exact ⟨u :: ys, by rw [h1]; rfl, .cons r1 h2⟩
theorem putA_keys {k : Key} {d : D} : ∀ {kd : List (Key × D)}, (kd.map (·.1)).Nodup → ((putA k d kd).map (·.1)).Nodup ∧ ∀ q, q ∈ (putA k d kd).map (·.1) → q ∈ kd.map (·.1) ∨ q = k
  | [], _ => ⟨by simp [putA], fun q m => by simp [putA] at m; exact .inr m⟩
  | (q, d0) :: kd, hn => by
    rw [List.map_cons] at hn
    obtain ⟨h1, h2⟩ := List.nodup_cons.mp hn
    obtain ⟨k1, k2⟩ := putA_keys (k := k) (d := d) h2
    unfold putA
    by_cases e : q = k
    · rw [if_pos e]
      exact ⟨hn, fun z m => .inl m⟩
    · rw [if_neg e]
      refine ⟨List.nodup_cons.mpr ⟨fun m => ?_, k1⟩, fun z m => ?_⟩
      · rcases k2 _ m with z | z
        · exact h1 z
        · exact e z
      · rw [List.map_cons] at m
        rcases List.mem_cons.mp m with z | z
        · subst z; exact .inl List.mem_cons_self
        · rcases k2 _ z with z' | z'
          · exact .inl (List.mem_cons_of_mem _ z')
          · exact .inr z'
theorem putA_len {k : Key} {d : D} : ∀ kd : List (Key × D), (putA k d kd).length ≤ kd.length + 1
  | [] => by simp [putA]
  | p :: r => by
    unfold putA
    split
    · simp
    · have := putA_len (k := k) (d := d) r
      simp; omega
noncomputable def ixA (x y : D) : Option D := match x with
  | .dK ks l => (keyOf y).bind fun k => getA k ks l
  | x => ixF x y
theorem gixA (hu : X.A.units + 1 < cLine) (h1 : PE X a (tD c W ra)) (h2 : PE X b (tD c W rb)) (hs : PlainIx b := by exact fun _ _ => rfl) (hs2 : NoSl b := by exact fun _ _ => rfl) (hK : X.K = c.K := by rfl) : PE X (.Subscript a b pos) (tD c W (bin2 (pur2 ixA) ra rb)) :=
  ((pe_ix ix_seq h1 h2 hs).or (pe_dget hu h1 h2 hs2)).imp fun σ H Q ⟨H0, F, env, g, q⟩ => by
  cases er : ra env with
  | no => unfold bin2 at q; rw [er] at q; exact q.elim
  | ex x0 e1 =>
    left
    refine ⟨H0, F, env, g, ?_⟩
    unfold bin2 at q
    rw [er] at q ⊢
    exact q
  | ok x0 e1 =>
    have seq : ∀ z, (∀ ks l, z ≠ D.dK ks l) → ∀ y, ixA z y = ixF z y := fun z hz y => by
      unfold ixA
      split
      · exact absurd rfl (hz _ _)
      · rfl
    by_cases hd : ∃ ks l, x0 = D.dK ks l
    · obtain ⟨ks, l, rfl⟩ := hd
      right
      refine ⟨H0, F, env, g, ?_⟩
      unfold bin2 at q
      rw [er] at q ⊢
      intro F1 H1 s1 v hv
      have q1 := Res.base s1 q
      rw [bind_ok] at q1
      refine ⟨H0, F1, e1, s1.good, q1.seq fun y e2 F2 H2 s2 q2 u hu => ?_⟩
      simp only [Rp] at hv
      obtain ⟨ad, xs, od, rfl, hF, hl, r⟩ := hv
      unfold pur2 at q2
      cases ei : ixA (.dK ks l) y with
      | none => rw [ei] at q2; exact q2.elim
      | some d =>
        rw [ei] at q2
        unfold ixA at ei
        obtain ⟨k, e3, e4⟩ := Option.bind_eq_some_iff.mp ei
        have := keyOf_rp e3 hu
        subst this
        obtain ⟨w, e5, e6⟩ := getA_rp r e4
        exact ⟨ad, w, rfl, .inl ⟨_, k, .inr ⟨od, s2.good.le _ _ (s2.same _ _ hF)⟩, rfl, e5.symm⟩, q2.ret s2.good w (Rp.mono s2.same _ _ e6)⟩
    · left
      have hz : ∀ ks l, x0 ≠ D.dK ks l := fun ks l z => hd ⟨ks, l, z⟩
      refine ⟨H0, F, env, g, ?_⟩
      unfold bin2 at q
      rw [er] at q ⊢
      intro F1 H1 s1 v hv
      have q1 := Res.base s1 q
      rw [bind_ok] at q1
      refine ⟨H0, F1, e1, s1.good, q1.seq fun y e2 F2 H2 s2 q2 u hu => ?_⟩
      rw [hK]
      refine prim_ix W H0 F2 H2 e2 σ x0 y v u Q s2.good (Rp.mono s2.same _ _ hv) hu ?_
      have e3 : pur2 ixA x0 y e2 = pur2 ixF x0 y e2 := by unfold pur2; rw [seq x0 hz]
      rw [← e3]
      exact q2
noncomputable def ovL : Option SV → Option OV
  | some (.own o) => some o
  | some (.bor o) => some o
  | _ => none
theorem own_ov (g : c.Good H0 F env σ H) {i : Nat} {o : OV} (e : ovL env[i]? = some o) : ∃ a, σ[i]? = some (some (.ref a)) ∧ RO c.K c.cm F H a o := by
  unfold ovL at e
  split at e
  · rename_i h; cases e
    obtain ⟨a, h1, h2, h3⟩ := g.slot i _ h
    exact ⟨a, h1, h3⟩
  · rename_i h; cases e
    obtain ⟨a, h1, h2, h3⟩ := g.slot i _ h
    exact ⟨a, h1, h3⟩
  · cases e
noncomputable def getO (o : OV) (y : D) : Option D := match o with
  | .L l => (match y with | .int n => atI l n | _ => none)
  | .K ks l => (keyOf y).bind fun k => getA k ks l
  | .T _ _ => none
  | .I _ _ _ => none
  | .Kf ks l => (keyOf y).bind fun k => getA k ks l
noncomputable def isL : OV → Bool
  | .L _ => true
  | _ => false
noncomputable def ownIxA (i : Nat) (rb : Env → Out D) (e : Env) : Out D := match ovL e[i]? with
  | none => (match e[i]? with
    | some (.dat d) => (rb e).bind fun y e1 => pur2 ixA d y e1
    | _ => .no)
  | some o0 => (rb e).bind fun y e1 => match ovL e1[i]? with
    | some o => if isL o = isL o0 then (match getO o y with | some d => .ok d e1 | none => .no) else .no
    | none => .no
theorem gownIxA (i : Nat) (hu : X.A.units + 1 < cLine) (h1 : PE X a (tVar i)) (h2 : PE X b (tD c W rb)) (hs : PlainIx b := by exact fun _ _ => rfl) (hs2 : NoSl b := by exact fun _ _ => rfl) (hK : X.K = c.K := by rfl) : PE X (.Subscript a b pos) (tD c W (ownIxA i rb)) :=
  ((pe_ix ix_seq h1 h2 hs).or (pe_dget hu h1 h2 hs2)).imp fun σ H Q ⟨H0, F, env, g, q⟩ => by
  unfold ownIxA at q
  split at q
  · split at q
    · rename_i d ed
      obtain ⟨u, hu, ru⟩ := g.slot i _ ed
      by_cases hd : ∃ ks l, d = D.dK ks l
      · obtain ⟨ks, l, rfl⟩ := hd
        right
        refine ⟨u, hu, H0, F, env, g, q.seq fun y e1 F1 H1 s1 q1 w hw => ?_⟩
        simp only [Rp] at ru
        obtain ⟨ad, xs, od, rfl, hF, hl, r⟩ := ru
        unfold pur2 at q1
        cases ei : ixA (.dK ks l) y with
        | none => rw [ei] at q1; exact q1.elim
        | some d =>
          rw [ei] at q1
          unfold ixA at ei
          obtain ⟨k, e3, e4⟩ := Option.bind_eq_some_iff.mp ei
          have := keyOf_rp e3 hw
          subst this
          obtain ⟨z, e5, e6⟩ := getA_rp r e4
          exact ⟨ad, z, rfl, .inl ⟨_, k, .inr ⟨od, s1.good.le _ _ (s1.same _ _ hF)⟩, rfl, e5.symm⟩, q1.ret s1.good z (Rp.mono s1.same _ _ e6)⟩
      · left
        refine ⟨u, hu, H0, F, env, g, q.seq fun y e1 F1 H1 s1 q1 w hw => ?_⟩
        rw [hK]
        refine prim_ix W H0 F1 H1 e1 σ d y u w Q s1.good (Rp.mono s1.same _ _ ru) hw ?_
        have e3 : ixA d y = ixF d y := by
          unfold ixA
          split
          · exact absurd ⟨_, _, rfl⟩ hd
          · rfl
        unfold pur2 at q1 ⊢
        rw [← e3]
        exact q1
    · exact q.elim
  · rename_i o0 e0
    obtain ⟨ad, ha, _⟩ := own_ov g e0
    cases hl : isL o0 with
    | true =>
      left
      refine ⟨_, ha, H0, F, env, g, q.seq fun y e1 F1 H1 s1 q1 w hw => ?_⟩
      split at q1
      · rename_i o eo
        split at q1
        · rename_i hh
          obtain ⟨a', ha', ro⟩ := own_ov s1.good eo
          rw [ha] at ha'; cases ha'
          cases o with
          | L l =>
            split at q1
            · rename_i d ed
              obtain ⟨xs, hH, r⟩ := ro
              unfold getO at ed
              dsimp only at ed
              split at ed
              · rename_i n
                simp only [Rp] at hw
                subst hw
                obtain ⟨z, h3, h4⟩ := atI_rp r ed
                exact .inl ⟨ad, xs, n, z, rfl, rfl, SqL.of hH, h3, q1.ret s1.good z h4⟩
              · cases ed
            · exact q1.elim
          | K ks l => rw [hl] at hh; cases hh
          | T ks l => rw [hl] at hh; cases hh
          | I cn ns l => rw [hl] at hh; cases hh
          | Kf ks l => rw [hl] at hh; cases hh
        · exact q1.elim
      · exact q1.elim
    | false =>
      right
      refine ⟨_, ha, H0, F, env, g, q.seq fun y e1 F1 H1 s1 q1 w hw => ?_⟩
      split at q1
      · rename_i o eo
        split at q1
        · rename_i hh
          obtain ⟨a', ha', ro⟩ := own_ov s1.good eo
          rw [ha] at ha'; cases ha'
          cases o with
          | L l => rw [hl] at hh; cases hh
          | K ks l =>
            split at q1
            · rename_i d ed
              obtain ⟨xs, hH, hlen, r⟩ := ro
              unfold getO at ed
              obtain ⟨k, e3, e4⟩ := Option.bind_eq_some_iff.mp ed
              have := keyOf_rp e3 hw
              subst this
              obtain ⟨z, e5, e6⟩ := getA_rp r e4
              exact ⟨ad, z, rfl, .inl ⟨_, k, .inl hH, rfl, e5.symm⟩, q1.ret s1.good z e6⟩
            · exact q1.elim
          | T ks l =>
            split at q1
            · rename_i d ed
              cases ed
            · exact q1.elim
          | I cn ns l =>
            split at q1
            · rename_i d ed
              cases ed
            · exact q1.elim
          | Kf ks l =>
            split at q1
            · rename_i d ed
              obtain ⟨xs, od, hH, hlen, r⟩ := ro
              unfold getO at ed
              obtain ⟨k, e3, e4⟩ := Option.bind_eq_some_iff.mp ed
              have := keyOf_rp e3 hw
              subst this
              obtain ⟨z, e5, e6⟩ := getA_rp r e4
              exact ⟨ad, z, rfl, .inl ⟨_, k, .inr ⟨od, hH⟩, rfl, e5.symm⟩, q1.ret s1.good z e6⟩
            · exact q1.elim
        · exact q1.elim
      · exact q1.elim
noncomputable def putO (o : OV) (y d : D) : Option OV := match o with
  | .L l => (match y with | .int n => (ixN l.length n).map fun j => .L (l.set j d) | _ => none)
  | .K ks l => (keyOf y).bind fun k => if (decide (ks.length < sizeLine) && decide ks.Nodup && decide (ks.length = l.length)) = true then some (.K ((putA k d (ks.zip l)).map (·.1)) ((putA k d (ks.zip l)).map (·.2))) else none
  | .T _ _ => none
  | .I _ _ _ => none
  | .Kf _ _ => none
noncomputable def storeA (i : Nat) (rk rv : Env → Out D) (e : Env) : Out Fl := (rv e).bind fun d e1 => match ovL e1[i]? with
  | none => .no
  | some o0 => (rk e1).bind fun y e2 => match ovL e2[i]? with
    | some o => if isL o = isL o0 then (match putO o y d with
      | some o' => (match putOv i o' e2 with
        | some e3 => .ok .nx e3
        | none => .no)
      | none => .no) else .no
    | none => .no
end
end DL
namespace DL
open PySem PySem.Spec PyProof.Rows L2
noncomputable def dcL (vs : List Nat) (rg : D → Env → Option Env) (rt : Env → Out Bool) (rk rv : Env → Out D) : List D → List (Key × D) → Env → Out (List (Key × D))
  | [], kd, e => .ok kd e
  | d :: ds, kd, e => match rg d e with
    | none => .no
    | some e2 => if freeE e2 vs = true then (noEx (rt e2)).bind fun b e3 => if b = true then (noEx (rk e3)).bind fun q e4 => (noEx (rv e4)).bind fun y e5 => (match keyOf q with
          | some k => if freeE e5 vs = true then dcL vs rg rt rk rv ds (putA k y kd) (wipeE e5 vs) else .no
          | none => .no)
        else if freeE e3 vs = true then dcL vs rg rt rk rv ds kd (wipeE e3 vs) else .no
      else .no
noncomputable def dcF (vs : List Nat) (ri : Env → Out (List D)) (rg : D → Env → Option Env) (rt : Env → Out Bool) (rk rv : Env → Out D) (env : Env) : Out OV :=
  (ri env).bind fun ds e1 => if (freeE e1 vs && decide (ds.length ≤ sizeLine)) = true then (noEx (dcL vs rg rt rk rv ds [] (wipeE e1 vs))).bind fun kd e5 => .ok (.K (kd.map (·.1)) (kd.map (·.2))) (backE e1 e5 vs) else .no
/-- a new object taken as data -/
noncomputable def heldO (rn : Env → Out OV) (e : Env) : Out D := (rn e).bind fun o e1 => .ok o.toD e1
section
variable {c : Kc} {W : WX} {X : Cx} {H0 F F' H H' : Hp} {env env' : Env} {σ : L2.St} {Q : VK} {E : XK} {a b e o : Expr} {pos p apos : Pos} {x : Str} {ra rb rc : Env → Out D}
theorem dc_it {J : L2.It} {n : Nat} {G : Hp → Prop} {Y : Nat → Hp → V → Hp → Prop} (w : Walk J n G Y) {g : TG} {tt : TT} {tk tv : TE} {vs : List Nat} {σ : L2.St} {H1 : Hp} {Dd : Addr} {Qd : Hp → Prop} (Pv : Nat → Hp → Prop) (h0 : Pv 0 (upd H1 Dd (.dK []))) (hG : ∀ i H, i ≤ n → Pv i H → G H)
    (hs : ∀ i x H H', i < n → Pv i H → Y i H x H' → g x (wipe σ vs) H' fun σ2 H2 => wipe σ2 vs = wipe σ vs ∧ tt σ2 H2 fun b H3 =>
      if b = true then tk σ2 H3 fun y H4 => tv σ2 H4 fun z H5 => ∃ kvs k, y = kV k ∧ H5 Dd = some (.dK kvs) ∧ kvs.length < sizeLine ∧ Pv (i + 1) (upd H5 Dd (.dK (putK kvs k z))) else Pv (i + 1) H3) (hd : ∀ H, Pv n H → Qd H) :
    ∃ W : Nat → Nat → Hp → Prop, (∃ m, W 0 m (upd H1 Dd (.dK []))) ∧ ∀ i m H, W i m H →
      (J.stop i H ∧ Qd H) ∨ (J.go i H ∧ ∃ Nx : Hp → Prop, (∀ H', Nx H' → ∃ m', m' < m ∧ W (i + 1) m' H') ∧ ∀ x H', J.yld i H x H' → g x (wipe σ vs) H' fun σ2 H2 => wipe σ2 vs = wipe σ vs ∧ tt σ2 H2 fun b H3 =>
        if b = true then tk σ2 H3 fun y H4 => tv σ2 H4 fun z H5 => ∃ kvs k, y = kV k ∧ H5 Dd = some (.dK kvs) ∧ kvs.length < sizeLine ∧ Nx (upd H5 Dd (.dK (putK kvs k z))) else Nx H3) := by
  refine ⟨fun i m H => i ≤ n ∧ m = n - i ∧ Pv i H, ⟨n, Nat.zero_le _, by simp, h0⟩, ?_⟩
  rintro i m H ⟨hi, rfl, pv⟩
  rcases Nat.lt_or_eq_of_le hi with hlt | rfl
  · exact .inr ⟨w.goes i H hlt (hG i H hi pv), Pv (i + 1), fun H' p' => ⟨n - (i + 1), by omega, hlt, rfl, p'⟩, fun x H' y => hs i x H H' hlt pv (w.yields i H x H' hlt (hG i H hi pv) y)⟩
  · exact .inl ⟨w.stops H (hG i H hi pv), hd H pv⟩
theorem dc_read {vs sl : List Nat} {ri : Env → Out (List D)} {rg : D → Env → Option Env} {rt : Env → Out Bool} {rk rv : Env → Out D} (hsl : ∀ j, j ∈ sl → j ∈ vs) {σ : L2.St} {H : Hp} {Q : VK}
    (h : tNew c W (dcF vs ri rg rt rk rv) σ H Q) : tDc (tI c W ri) (tG c sl rg) (tT c W0 rt) (tD c W0 rk) (tD c W0 rv) vs σ H Q := by
  obtain ⟨H0, F, env, g, q⟩ := h
  refine ⟨H0, F, env, g, q.seq fun ds e1 F1 H1 s1 q1 J G w hG => ?_⟩
  intro Dl hDl
  by_cases hf : (freeE e1 vs && decide (ds.length ≤ sizeLine)) = true
  case neg => rw [if_neg hf] at q1; exact q1.elim
  rw [if_pos hf] at q1
  simp only [Bool.and_eq_true, decide_eq_true_eq] at hf
  obtain ⟨fr, hz⟩ := hf
  -- what is wanted behind the block
  have qb : Res c W0 H0 F1 (wipeE e1 vs) (wipe σ vs) (dcL vs rg rt rk rv ds [] (wipeE e1 vs)) fun kd e5 F' H' => ∀ v, NewO c H0 F' (backE e1 e5 vs) σ H' (.K (kd.map (·.1)) (kd.map (·.2))) v → Q v H' := by
    cases hc : dcL vs rg rt rk rv ds [] (wipeE e1 vs) with
    | no => rw [hc] at q1; exact q1
    | ex x e5 => rw [hc] at q1; exact q1.elim
    | ok ys e5 =>
      rw [hc] at q1
      exact fun F' H' st => q1 F' H' (s1.good.unwiped fr st)
  have gw := s1.good.wiped fr
  obtain ⟨gl, apl⟩ := gw.lay (o := .dK []) hDl
  refine dc_it w (fun i H => ∃ F2 env2 kd xs, Step c H0 F1 (wipeE e1 vs) (wipe σ vs) F2 env2 H ∧ Apart env2 (wipe σ vs) H0 F2 H Dl (.dK ((kd.map (·.1)).zip xs)) ∧ RpL c.K c.cm F2 (kd.map (·.2)) xs ∧ (kd.map (·.1)).Nodup ∧ env2 = wipeE env2 vs ∧ Same F2 H ∧ kd.length ≤ i ∧
      Res c W0 H0 F2 env2 (wipe σ vs) (dcL vs rg rt rk rv (ds.drop i) kd env2) fun ys e5 F' H' => Step c H0 F1 (wipeE e1 vs) (wipe σ vs) F' e5 H' → ∀ v, NewO c H0 F' (backE e1 e5 vs) σ H' (.K (ys.map (·.1)) (ys.map (·.2))) v → Q v H')
    ⟨F1, wipeE e1 vs, [], [], ⟨Same.refl _, EnvLe.refl _, gl, fun _ _ _ e => e⟩, apl, RpL.nil, List.nodup_nil, wipeE_wipeE _ _, gl.le, Nat.le_refl _, qb.mono fun ys e5 F' H' _ k _ => k⟩
    (fun i H _ ⟨F2, env2, accd, xs, st, _, _, _, _, sm, _, _⟩ => hG F2 H st.same sm) ?_ ?_
  · rintro i x H2 H3 hi ⟨F2, env2, kd, xs, st, ap, ra, hnd, he2, sm, hl, qi⟩ y
    obtain ⟨F3, d, hd, s3, rd⟩ := YD.step st.good.rebased st.same y
    have ap3 := ap.after st.good s3
    have s3' := st.good.unbase s3
    have hdrop : ds.drop i = d :: ds.drop (i + 1) := by
      have hi' : i < ds.length := hi
      rw [List.drop_eq_getElem_cons hi']
      rw [List.getElem?_eq_getElem hi'] at hd
      rw [Option.some.inj hd]
    rw [hdrop] at qi
    simp only [dcL] at qi
    refine ⟨H0, F3, env2, d, s3'.good, rd, ?_⟩
    cases hg : rg d env2 with
    | none => rw [hg] at qi; exact qi.elim
    | some e2 =>
      rw [hg] at qi
      dsimp only at qi ⊢
      intro σ2 hl2 g2 kk
      have kv : ∀ j, j ∉ vs → σ2[j]? = (wipe σ vs)[j]? ∧ e2[j]? = env2[j]? := fun j hj => kk j fun z => hj (hsl j z)
      have hw : wipe σ2 vs = wipe σ vs := by rw [wipe_eq hl2 fun j hj => (kv j hj).1, wipe_wipe]
      have hle : e2.length = env2.length := by rw [← g2.len, hl2, s3'.good.len]
      by_cases fr2 : freeE e2 vs = true
      case neg => rw [if_neg fr2] at qi; exact qi.elim
      rw [if_pos fr2] at qi
      have ap2 := ap3.moved fr2 kv
      have g2' : c.Good H0 F3 e2 σ2 H3 := g2
      refine ⟨hw, rebase e2 σ2 H3, F3, e2, g2.rebased, ?_⟩
      cases hrt : rt e2 with
      | no => rw [hrt] at qi; exact qi.elim
      | ex x e => rw [hrt] at qi; exact qi.elim
      | ok b e3 =>
        rw [hrt] at qi
        intro F4 H4 s4
        have ap4 := ap2.after g2' s4
        have s4' := g2'.unbase s4
        have fin : ∀ {e4 : Env} {F5 H5 : Hp} (s5 : Step c H0 F3 e2 σ2 F5 e4 H5) (fr4 : freeE e4 vs = true), Step c H0 F2 env2 (wipe σ vs) F5 (wipeE e4 vs) H5 := fun {e4 F5 H5} s5 fr4 => by
          have := Step.wiped (c := c) (H0 := H0) (F := F2) (e1 := env2) (σ := σ) (vs := vs) (env := env2) (F2 := F3) (H2 := H3) (by rw [← he2]; exact s3') he2 hw hle (fun j hj => (kv j hj).2) s5 fr4
          rwa [← he2] at this
        have offσ : ∀ j, j ∉ vs → (wipe σ vs)[j]? = σ2[j]? := fun j hj => (kv j hj).1.symm
        simp only [noEx, bind_ok] at qi
        show if b = true then _ else _
        cases b with
        | false =>
          rw [if_neg Bool.false_ne_true] at qi ⊢
          by_cases fr3 : freeE e3 vs = true
          case neg => rw [if_neg fr3] at qi; exact qi.elim
          rw [if_pos fr3] at qi
          have s5 := fin s4' fr3
          have ap5 : Apart (wipeE e3 vs) (wipe σ vs) H0 F4 H4 Dl (.dK ((kd.map (·.1)).zip xs)) := ap4.moved (freeE_wipe _ _) fun j hj => ⟨offσ j hj, wipeE_out hj⟩
          exact ⟨F4, wipeE e3 vs, kd, xs, st.trans s5, ap5, RpL.mono s5.same _ _ ra, hnd, wipeE_wipeE _ _, s5.good.le, by omega, Res.base s5 qi⟩
        | true =>
          rw [if_pos rfl] at qi ⊢
          refine ⟨rebase e3 σ2 H4, F4, e3, s4'.good.rebased, ?_⟩
          cases hrk : rk e3 with
          | no => rw [hrk] at qi; exact qi.elim
          | ex x e => rw [hrk] at qi; exact qi.elim
          | ok kq e4 =>
            rw [hrk] at qi
            intro F5 H5 s5 v hv
            have ap5 := ap4.after s4'.good s5
            have s5' := s4'.good.unbase s5
            refine ⟨rebase e4 σ2 H5, F5, e4, s5'.good.rebased, ?_⟩
            simp only [noEx, bind_ok] at qi
            cases hrv : rv e4 with
            | no => rw [hrv] at qi; exact qi.elim
            | ex x e => rw [hrv] at qi; exact qi.elim
            | ok yv e5 =>
              rw [hrv] at qi
              intro F6 H6 s6 z hz'
              have ap6 := ap5.after s5'.good s6
              have s6' := s5'.good.unbase s6
              simp only [noEx, bind_ok] at qi
              cases hk : keyOf kq with
              | none => rw [hk] at qi; exact qi.elim
              | some k =>
                rw [hk] at qi
                dsimp only at qi
                by_cases fr4 : freeE e5 vs = true
                case neg => rw [if_neg fr4] at qi; exact qi.elim
                rw [if_pos fr4] at qi
                have s7 := fin ((s4'.trans s5').trans s6') fr4
                have ap7 : Apart (wipeE e5 vs) (wipe σ vs) H0 F6 H6 Dl (.dK ((kd.map (·.1)).zip xs)) := ap6.moved (freeE_wipe _ _) fun j hj => ⟨offσ j hj, wipeE_out hj⟩
                obtain ⟨ys, p1, p2⟩ := putA_rp (k := k) hz' hnd (RpL.mono s7.same _ _ ra)
                obtain ⟨g8, ap8⟩ := s7.good.changeApart (o' := .dK (putK ((kd.map (·.1)).zip xs) k z)) ap7
                have s8 : Step c H0 F2 env2 (wipe σ vs) F6 (wipeE e5 vs) (upd H6 Dl (.dK (putK ((kd.map (·.1)).zip xs) k z))) := ⟨s7.same, s7.le, g8, s7.old⟩
                refine ⟨_, k, keyOf_rp hk hv, ap7.h, ?_, F6, wipeE e5 vs, putA k yv kd, ys, st.trans s8, by rw [← p1]; exact ap8, p2, (putA_keys hnd).1, wipeE_wipeE _ _, g8.le, Nat.le_trans (putA_len kd) (by omega), ?_⟩
                · rw [List.length_zip, List.length_map]
                  have : i < ds.length := hi
                  have := Nat.min_le_left kd.length xs.length
                  omega
                · exact Res.base s8 (qi.mono fun ys e5 F' H' s9 k s10 => k s10)
  · rintro H2 ⟨F2, env2, kd, xs, st, ap, ra, hnd, he2, sm, hl, qi⟩
    have hdrop : ds.drop ds.length = [] := List.drop_length
    rw [hdrop] at qi
    have := qi.ret st.good st
    refine this _ ⟨Dl, .dK ((kd.map (·.1)).zip xs), rfl, ?_, xs, ap.h, by simp, ra⟩
    refine ⟨ap.f, ap.h, ap.h0, fun i sv e so => ?_⟩
    by_cases hv : i ∈ vs
    · have hi : i < env2.length := by rw [← backE_len e1 env2 vs]; exact (List.getElem?_eq_some_iff.mp e).1
      rw [backE_in hv hi] at e
      have hi1 : i < e1.length := by rw [← wipeE_len e1 vs, ← st.le.len]; exact hi
      have e1' : e1[i]? = some (e1.getD i .un) := by rw [List.getD_eq_getElem?_getD]; simp [hi1]
      rw [Option.some.inj e] at e1'
      have := freeE_at fr hv e1'
      rw [so] at this; cases this
    · rw [backE_out hv] at e
      rw [← wipe_out hv]
      exact ap.no i sv e so
theorem gdc {kx vx tg iter : Expr} {ifs : List Expr} {scope : Scope} {sl : List Nat} {ri : Env → Out (List D)} {rg : D → Env → Option Env} {rt : Env → Out Bool} {rk rv : Env → Out D} (own : List (Str × Nat)) (hN : X.N.Nodup) (hi : PI X tg iter (tI c W ri)) (ok : blkC X.N X.env.scope scope own = true)
    (hg : ∀ (s : Shared) (H : Hp) (C : Addr) (cl : List (Str × Addr)) (fp : List Addr), PG (X.blk s H scope (compEnvC scope cl C X.env) fp) tg (tG c sl rg)) (ht : ∀ (s : Shared) (H : Hp) (C : Addr) (cl : List (Str × Addr)) (fp : List Addr), PTs (X.blk s H scope (compEnvC scope cl C X.env) fp) ifs (tT c W0 rt))
    (hk : ∀ (s : Shared) (H : Hp) (C : Addr) (cl : List (Str × Addr)) (fp : List Addr), PE (X.blk s H scope (compEnvC scope cl C X.env) fp) kx (tD c W0 rk)) (he : ∀ (s : Shared) (H : Hp) (C : Addr) (cl : List (Str × Addr)) (fp : List Addr), PE (X.blk s H scope (compEnvC scope cl C X.env) fp) vx (tD c W0 rv))
    (hsl : ∀ j, j ∈ sl → j ∈ own.map (·.2) := by decide) (hc : X.calm = true := by rfl) (hs : ∀ x, foldedSetIterable iter X.env x = pure x := by intro _; rfl) :
    PE X (.DictComp kx vx [⟨tg, iter, ifs, 0⟩] scope pos) (tNew c W (dcF (own.map (·.2)) ri rg rt rk rv)) := (pe_dc hc hN hi (blkOk_by ok) hg ht hk he hs).imp fun σ H Q q => dc_read hsl q
theorem NewO.hold {o : OV} {v : V} (g : c.Good H0 F env σ H) (n : NewO c H0 F env σ H o v) (hk : ∀ ks l, o ≠ .K ks l) : ∃ F', Step c H0 F env σ F' env H ∧ Rp c.K c.cm F' o.toD v := by
  obtain ⟨p, ho, rfl, ap, ro⟩ := n
  have st := g.hold ap
  refine ⟨_, st, ?_⟩
  have sm := st.same
  cases o with
  | L l =>
    obtain ⟨xs, h1, r⟩ := ro
    rw [ap.h] at h1; cases h1
    simp only [OV.toD, Rp]
    exact ⟨p, xs, rfl, upd_same, RpL.mono sm _ _ r⟩
  | K ks l => exact absurd rfl (hk ks l)
  | Kf ks l =>
    obtain ⟨xs, od, h1, hl, r⟩ := ro
    rw [ap.h] at h1; cases h1
    simp only [OV.toD, Rp]
    exact ⟨p, xs, od, rfl, upd_same, hl, RpL.mono sm _ _ r⟩
  | T ks l =>
    obtain ⟨bs, xs, y, h1, tk, hl, r⟩ := ro
    rw [ap.h] at h1; cases h1
    simp only [OV.toD, Rp]
    exact ⟨p, bs, xs, rfl, y, upd_same, tk.same sm, hl, RpL.mono sm _ _ r⟩
  | I cn ns l =>
    obtain ⟨dx, C, fs, hc, h1, k, z, r⟩ := ro
    rw [ap.h] at h1; cases h1
    simp only [OV.toD, Rp]
    exact ⟨p, dx, C, fs, rfl, hc, upd_same, sm _ _ k, z, RpL.mono sm _ _ r⟩
theorem NewO.holdK {ks : List Key} {l : List D} {v : V} (g : c.Good H0 F env σ H) (n : NewO c H0 F env σ H (.K ks l) v) :
    ∃ d u, v = .ref d ∧ H d = some u ∧ Mut (some u) ∧ ∀ od, ∃ F', Step c H0 F env σ F' env (upd H d (.frz od u)) ∧ Rp c.K c.cm F' (.dK ks l) v := by
  obtain ⟨p, ho, rfl, ap, xs, h1, hl, r⟩ := n
  rw [ap.h] at h1; cases h1
  refine ⟨p, _, rfl, ap.h, trivial, fun od => ?_⟩
  obtain ⟨g2, ap2⟩ := g.changeApart (o' := .frz od (.dK (ks.zip xs))) ap
  have st : Step c H0 F env σ F env (upd H p (.frz od (.dK (ks.zip xs)))) := ⟨Same.refl _, EnvLe.refl _, g2, fun _ _ _ e => e⟩
  have st2 := g2.hold ap2
  refine ⟨_, st.trans st2, ?_⟩
  simp only [Rp]
  exact ⟨p, xs, od, rfl, upd_same, hl, RpL.mono st2.same _ _ r⟩
theorem heldO_read {rn : Env → Out OV} {σ : L2.St} {H : Hp} {Q : VK} (h : tD c W (heldO rn) σ H Q) : tMl (tNew c W rn) σ H Q := by
  obtain ⟨H0, F, env, g, q⟩ := h
  refine ⟨H0, F, env, g, q.seq fun o e1 F1 H1 s1 q1 v n => ?_⟩
  by_cases hk : ∃ ks l, o = .K ks l
  · obtain ⟨ks, l, rfl⟩ := hk
    obtain ⟨d, u, rfl, hd, mu, z⟩ := n.holdK s1.good
    refine .inr ⟨d, u, rfl, hd, mu, fun od => ?_⟩
    obtain ⟨F2, st, rp⟩ := z od
    exact q1 F2 _ st _ rp
  · obtain ⟨F2, st, rp⟩ := n.hold s1.good (fun ks l z => hk ⟨ks, l, z⟩)
    exact .inl ((Res.base st q1).ret st.good v rp)
theorem gheldO {e : Expr} {rn : Env → Out OV} (h : PE X e (tNew c W rn)) : PE X e (tD c W (heldO rn)) := (pe_ml h).imp fun σ H Q q => heldO_read q
end
end DL
namespace DL
open PySem PySem.Spec PyProof.Rows L2
noncomputable def pairsOf : List D → Option (List (Str × Str))
  | [] => some []
  | .tup [.str a, .str b] :: r => (pairsOf r).map ((a, b) :: ·)
  | _ => none
noncomputable def keyP (flip : Bool) (p : Str × Str) : Str := if flip then p.2 else p.1
noncomputable def valP (flip : Bool) (p : Str × Str) : Str := if flip then p.1 else p.2
noncomputable def wakesL (flip : Bool) (ps : List (Str × Str)) (names : List Str) : List D := names.map fun a => .lst ((ps.filter fun p => decide (keyP flip p = a)).map fun p => .str (valP flip p))
noncomputable def wakesF (flip : Bool) (svs : List SV) : Out D := match svs with
  | [.dat (.obj cn ns [.tup bs, .tup ws])] => if cn = ("Web" : Str) ∧ ns = [("bells" : Str), ("wakes" : Str)] then (match asS bs, pairsOf ws with
    | some names, some ps => if (decide names.Nodup && decide (names.length ≤ 1000) && decide (ps.length ≤ 1000) && ps.all fun p => decide (keyP flip p ∈ names)) = true then .ok (.dK (names.map .inr) (wakesL flip ps names)) svs else .no
    | _, _ => .no) else .no
  | _ => .no
end DL
namespace DL
open PySem PySem.Spec PyProof.Rows L2
section
variable {c : Kc} {W : WX} {X : Cx} {a : Expr} {pos p : Pos} {x : Str} {rl rh : Env → Out (Option Int)}
noncomputable def ownCut (i : Nat) (rl rh : Env → Out (Option Int)) (e : Env) : Out (List D) := match lstOf e[i]? with
  | none => .no
  | some _ => (rl e).bind fun lo e1 => (rh e1).bind fun hi e2 => match lstOf e2[i]? with
    | some l => .ok (cutL l lo hi) e2
    | none => .no
noncomputable def ownLen (i : Nat) (e : Env) : Out D := match lstOf e[i]? with
  | some l => .ok (.int l.length) e
  | none => (match e[i]? with
    | some (.dat d) => (match lenF d with | some z => .ok z e | none => .no)
    | _ => .no)
theorem gownLen (i : Nat) (hm : X.mg "len" = none) (h : PE X a (tVar i)) (hg : Gl X "len" := by rfl) (he : starEach [a] X.env = (false, eval a X.env) :: starEach [] X.env := by rfl) (hpl : (backTo pos (starEach [] X.env)).any (·.1) = false := by rfl) (hK : X.K = c.K := by rfl) :
    PE X (.Call (.Name "len" p) [a] [] pos) (tD c W (ownLen i)) := (pe_callB cr_len hg hm vb_len (pa_cons h pa_nil he) (by decide) (by decide) he hpl).imp fun σ H Q ⟨H0, F, env, g, q⟩ => by
  unfold ownLen at q
  split at q
  · rename_i l el
    obtain ⟨ad, xs, ha, hH, r⟩ := own_list g el
    refine ⟨_, ha, .inl ⟨ad, xs, rfl, .inl (SqL.of hH), ?_⟩⟩
    exact q.ret g _ (by simp [Rp, r.len])
  · split at q
    · rename_i d ed
      obtain ⟨u, hu, ru⟩ := g.slot i _ ed
      refine ⟨u, hu, ?_⟩
      rw [hK]
      split at q
      · rename_i z ez
        refine prim_len H0 F H env σ [d] [u] z Q g (.cons ru .nil) (show one lenF [d] = some z from ez) fun F' H' st w hw => q F' H' st w hw
      · exact q.elim
    · exact q.elim
end
end DL
namespace DL
open PySem PySem.Spec PyProof.Rows L2
noncomputable def mulB (x y : D) : Option D := match x, y with
  | .tup l, .int k => if decide (l ≠ [] ∧ 2 ≤ k ∧ k ≤ 1000 ∧ l.length ≤ 1000) = true then some (.tup (List.replicate k.toNat l).flatten) else none
  | x, y => mulA x y
end DL
namespace DL
open PySem PySem.Spec PyProof.Rows L2
open PySem.SeqAt PySem.MeetsSeq PySem.MeetsSeq2 PySem.MeetsSeq3
noncomputable def revF : D → Option D
  | .tup l => some (.tup l.reverse)
  | _ => none
noncomputable def mulC (x y : D) : Option D := match x, y with
  | .tup [], .int k => if decide (0 ≤ k ∧ k ≤ 1000) = true then some (.tup []) else none
  | x, y => mulB x y
end DL
namespace DL
open PySem L2
/-- more turns than any while here takes -/
@[irreducible] noncomputable def fuel : Nat := 1000000
end DL
namespace PySem.W
open Lean Elab Tactic Meta PySem PySem.Spec PySem.Calls PyProof.Rows
end PySem.W
namespace DL
open PySem PySem.Spec PyProof.Rows L2
/-- str(x) of an instance of the class cn -/
noncomputable def strO (cn : Str) (fn : List SV → Out D) (ra : Env → Out (List D)) (e : Env) : Out D := (ra e).bind fun ds e1 => match ds with
  | [.obj c1 n1 l1] => if c1 = cn then (match fn [.dat (.obj c1 n1 l1)] with
      | .ok (.str z) _ => .ok (.str z) e1
      | _ => .no) else .no
  | _ => .no
noncomputable def splF (a : Str) : D → Option D
  | .str b => if (decide (b.length ≠ 0) && decide (a.length + 2 ≤ sizeLine)) = true then some (.lst ((Txt.split a b).map .str)) else none
  | _ => none
noncomputable def splitD (ra rb : Env → Out D) (e : Env) : Out D := (ra e).bind fun x e1 => match x with
  | .str a => (rb e1).bind (pur1 (splF a))
  | _ => .no
end DL
namespace DL
open PySem PySem.Spec PyProof.Rows L2
noncomputable def ownNil (n : Bool) (i : Nat) (e : Env) : Out D := match e[i]? with
  | some (.own (.L l)) => if okP (.lst l) = true then .ok (.bl (if n then !l.isEmpty else l.isEmpty)) e else .no
  | _ => .no
end DL
namespace DL
open PySem PySem.Spec PyProof.Rows L2
noncomputable def idxF (l : List D) (y : D) : Option D := if (okP (.lst l) && okP y) = true then (l.findIdx? fun z => PyData.eqv z.toP y.toP).map fun j => .int (j : Nat) else none
noncomputable def idxD (ra rb : Env → Out D) (e : Env) : Out D := (ra e).bind fun x e1 => match x with
  | .lst l => (rb e1).bind (pur1 (idxF l))
  | _ => .no
end DL
namespace DL
open PySem PySem.Spec PyProof.Rows L2
noncomputable def addI : D → D → Option D
  | .int i, .int j => some (.int (i + j))
  | _, _ => none
/-- name op= e -/
noncomputable def augS (f : D → D → Option D) (i : Nat) (ra : Env → Out D) (e : Env) : Out Fl := match e[i]? with
  | some (.dat d0) => asgS (fun e => (ra e).bind fun d e1 => pur2 f d0 d e1) (setD i) [i] e
  | _ => .no
end DL
namespace DL
open PySem PySem.Spec PyProof.Rows L2
open PySem.SeqAt PySem.MeetsSeq PySem.MeetsSeq2 PySem.MeetsSeq3
noncomputable def idxT (ra rb : Env → Out D) (e : Env) : Out D := (ra e).bind fun x e1 => match x with
  | .tup l => (rb e1).bind fun y e2 => match asS l, y with
    | some ys, .str z => (match ys.findIdx? fun w => decide (w = z) with
      | some j => .ok (.int (j : Nat)) e2
      | none => .no)
    | _, _ => .no
  | _ => .no
noncomputable def idxA (ra rb : Env → Out D) (e : Env) : Out D := match ra e with
  | .ok (.tup _) _ => idxT ra rb e
  | _ => idxD ra rb e
theorem pe_or {X : Cx} {e : Expr} {t t' : TE} (h : PE X e t) (h' : PE X e t') : PE X e (fun σ H Q => t σ H Q ∨ t' σ H Q) := ⟨fun pins s σ H Q I q => q.elim (h.run pins s σ H Q I) (h'.run pins s σ H Q I)⟩
end DL
namespace DZ
open PySem PySem.Spec PyProof.Rows
/-- one side: a tuple's walker (true) or a list's -/
noncomputable def Wk (b : Bool) (h : Heap) (j m : Addr) (n : Nat) : Prop := match b with
  | true => h.IsTupleIter j m n
  | false => h.IsListIter j m n
noncomputable def Sq (b : Bool) (h : Heap) (m : Addr) (A : Array Value) : Prop := match b with
  | true => h.IsTuple m A
  | false => h.IsList m A
theorem Wk.at {b : Bool} {h h' : Heap} {j m : Addr} {n : Nat} (x : Wk b h j m n) (k : ∀ o, h.get? j = some o → h'.get? j = some o) : Wk b h' j m n := by
  cases b with
  | true => exact Heap.IsTupleIter.at x k
  | false => exact Heap.IsListIter.at x k
theorem Sq.at {b : Bool} {h h' : Heap} {m : Addr} {A : Array Value} (x : Sq b h m A) (k : ∀ o, h.get? m = some o → h'.get? m = some o) : Sq b h' m A := by
  cases b with
  | true => exact PySem.Heap.IsTuple.at x k
  | false =>
    obtain ⟨o, e, r⟩ := x
    exact ⟨o, k o e, r⟩
theorem Wk.some {b : Bool} {h : Heap} {j m : Addr} {n : Nat} (x : Wk b h j m n) : ∃ o, h.get? j = some o := by
  cases b with
  | true => obtain ⟨o, e, _⟩ := x; exact ⟨o, e⟩
  | false => obtain ⟨o, e, _⟩ := x; exact ⟨o, e⟩
theorem Sq.some {b : Bool} {h : Heap} {m : Addr} {A : Array Value} (x : Sq b h m A) : ∃ o, h.get? m = some o := by
  cases b with
  | true => obtain ⟨o, e, _⟩ := x; exact ⟨o, e⟩
  | false => obtain ⟨o, e, _⟩ := x; exact ⟨o, e⟩
section
variable {prog : Program} {w : World} {A : Around} {E : Value → Shared → Prop} {s : Shared}
variable {q ti to_ T j1 j2 m1 m2 : Addr} {fl : Bool} {ot : Obj} {n1 n2 : Nat} {A1 A2 : Array Value} {x1 x2 : Value} {b1 b2 : Bool}
/-- both iterators and their tuples -/
structure Both (b1 b2 : Bool) (h : Heap) (ti j1 j2 m1 m2 : Addr) (n : Nat) (A1 A2 : Array Value) : Prop where
  p : IsPair h ti (.ref j1) (.ref j2)
  i1 : Wk b1 h j1 m1 n
  i2 : Wk b2 h j2 m2 n
  l1 : Sq b1 h m1 A1
  l2 : Sq b2 h m2 A2
theorem Both.at_ {h h' : Heap} {n : Nat} (b : Both b1 b2 h ti j1 j2 m1 m2 n A1 A2) (k : ∀ c, c = ti ∨ c = j1 ∨ c = j2 ∨ c = m1 ∨ c = m2 → ∀ o, h.get? c = some o → h'.get? c = some o) : Both b1 b2 h' ti j1 j2 m1 m2 n A1 A2 :=
  ⟨k ti (.inl rfl) _ b.p, b.i1.at fun o e => k j1 (.inr (.inl rfl)) o e, b.i2.at fun o e => k j2 (.inr (.inr (.inl rfl))) o e, b.l1.at fun o e => k m1 (.inr (.inr (.inr (.inl rfl)))) o e, b.l2.at fun o e => k m2 (.inr (.inr (.inr (.inr rfl)))) o e⟩
end
section
variable {prog : Program} {w : World} {A : Around} {E : Value → Shared → Prop} {s : Shared}
theorem Sq.push {b : Bool} {h : Heap} {m : Addr} {B : Array Value} (x : Sq b h m B) (o : Obj) : Sq b (h.push o) m B := x.at fun _ e => Heap.get?_push_of_some _ e
end
end DZ
namespace DL
open PySem PySem.Spec PyProof.Rows L2
section
variable {c : Kc} {W : WX} {X : Cx} {H0 F F' H H' : Hp} {env env' : Env} {σ : L2.St} {Q : VK} {a b e e2 : Expr} {es : List Expr} {kk : Nat} {pos pos2 p p2 : Pos} {ra rb : Env → Out D}
noncomputable def repF (ra rb : Env → Out D) (e : Env) : Out (List D) := (ra e).bind fun x e1 => (rb e1).bind fun y e2 => match x, y with
  | .lst l, .int k => if decide (-9223372036854775808 ≤ k ∧ k < 9223372036854775808 ∧ l.length * k.toNat ≤ sizeLine) = true then .ok (List.replicate k.toNat l).flatten e2 else .no
  | _, _ => .no
/-- the keys that data are -/
noncomputable def keysA : List D → Option (List Key)
  | [] => some []
  | d :: l => (keyOf d).bind fun k => (keysA l).bind fun ks => some (k :: ks)
/-- what is walked as a tuple or a list -/
noncomputable def seqZ : D → Option (List D)
  | .tup l => some l
  | .lst l => some l
  | _ => none
/-- a new dict of pairs side by side -/
noncomputable def zipK (rA : Env → Out (List D)) (e : Env) : Out OV := (rA e).bind fun ds e1 => match ds with
  | [x, y] => (match seqZ x, seqZ y with
    | some l, some m => (match keysA l with
      | some ks => if (decide (ks.length = m.length) && decide ks.Nodup) = true then .ok (.K ks m) e1 else .no
      | none => .no)
    | _, _ => .no)
  | _ => .no
noncomputable def mulE (x y : D) : Option D := match x, y with
  | .tup l, .int k => if k = 1 then some (.tup l) else mulC (.tup l) (.int k)
  | x, y => mulC x y
end
end DL
namespace DL
open PySem PySem.Spec PyProof.Rows L2
noncomputable def reprA (d : D) : Option D := match d with
  | .non => some (.str "None")
  | .bl b => some (.str (if b = true then "True" else "False"))
  | .int i => if i.natAbs.log2 < 1920 then some (.str (toString i)) else none
  | d => reprF d
noncomputable def rReprA (K : PySem.W.Frag) : List V → Hp → VK → Prop := fun xs H Q => rRepr K xs H Q ∨ (xs = [.non] ∧ Q (.str "None") H) ∨ (∃ b, xs = [.bl b] ∧ Q (.str (if b = true then "True" else "False")) H) ∨ ∃ i : Int, xs = [.int i] ∧ i.natAbs.log2 < 1920 ∧ Q (.str (toString i)) H
theorem cr_reprA {X : Cx} (gd : X.A.guards = some []) (hu : X.A.units + 62 < cLine) : CallR X (.builtin "repr") (rReprA X.K) := by
  intro pins s σ H xs us Q I r h
  rcases h with h | ⟨rfl, q⟩ | ⟨b, rfl, q⟩ | ⟨i, rfl, hi, q⟩
  · exact cr_repr gd hu pins s σ H xs us Q I r h
  · obtain ⟨u, rfl, ru⟩ := vals1 r
    cases ru
    exact P.repr_of_none ⟨.str "None", H, I.tok _, ⟨_, rfl⟩, q⟩
  · obtain ⟨u, rfl, ru⟩ := vals1 r
    cases ru
    refine P.repr_of_bool ⟨.str (if b = true then "True" else "False"), H, I.tok _, ⟨s.toks, ?_⟩, q⟩
    cases b <;> rfl
  · obtain ⟨u, rfl, t, rfl⟩ := vals1 r
    exact P.repr_of_int hi ⟨.str (toString i), H, I.tok _, ⟨_, rfl⟩, q⟩
section
variable {c : Kc} {W : WX} {X : Cx}
theorem prim_reprA : PrimC c (rReprA c.K) (one reprA) := primC1 fun H0 F H env σ x v d Q g hx e k => by
  have old : reprF x = some d → rReprA c.K [v] H Q := fun e => .inl (prim_repr H0 F H env σ [x] [v] d Q g (RpL.cons hx RpL.nil) e k)
  cases x with
  | non =>
    cases e
    simp only [Rp] at hx
    subst hx
    exact .inr (.inl ⟨rfl, k F H (Step.refl g) _ (by simp [Rp])⟩)
  | bl b =>
    cases e
    simp only [Rp] at hx
    subst hx
    exact .inr (.inr (.inl ⟨b, rfl, k F H (Step.refl g) _ (by simp [Rp])⟩))
  | int i =>
    unfold reprA at e
    dsimp only at e
    split at e
    · rename_i hi
      cases e
      simp only [Rp] at hx
      subst hx
      exact .inr (.inr (.inr ⟨i, rfl, hi, k F H (Step.refl g) _ (by simp [Rp])⟩))
    · cases e
  | str s => exact old e
  | tup l => exact old e
  | tu l => exact old e
  | lst l => exact old e
  | ro l => exact old e
  | dK ks l => exact old e
  | dT ks l => exact old e
  | obj c ns l => exact old e
theorem breprA (gd : X.A.guards = some []) (hu : X.A.units + 62 < cLine) (hK : X.K = c.K := by rfl) : BltOk c X "repr" (one reprA) := ⟨_, cr_reprA gd hu, by rw [hK]; exact prim_reprA⟩
end
end DL
namespace DL
open PySem L2
noncomputable instance memT (k : List Key) (ks : List (List Key)) : Decidable (k ∈ ks) := decidable_of_iff (ks.any (fun x => decide (x = k)) = true) (by simp)
section
variable {α : Type}
noncomputable def lookT (k : List Key) : List (List Key) → List α → Option α
  | k' :: ks, v :: vs => if k' = k then some v else lookT k ks vs
  | _, _ => none
noncomputable def setT (k : List Key) (v : α) : List (List Key) → List α → List α
  | k' :: ks, x :: vs => if k' = k then v :: vs else x :: setT k v ks vs
  | _, _ => [v]
noncomputable def putTks (k : List Key) (ks : List (List Key)) : List (List Key) := if k ∈ ks then ks else ks ++ [k]
end
noncomputable def tkD : D → Option (List Key)
  | .tup l => l.mapM keyOf
  | _ => none
noncomputable def ovT : Option SV → Option (List (List Key) × List D)
  | some (.own (.T ks l)) => some (ks, l)
  | some (.bor (.T ks l)) => some (ks, l)
  | some (.own (.K [] [])) => some ([], [])
  | some (.bor (.K [] [])) => some ([], [])
  | _ => none
section
variable {c : Kc} {W : WX} {X : Cx} {H0 F F' H H' : Hp} {env env' : Env} {σ : L2.St} {Q : VK} {E : XK} {a b e o : Expr} {pos p apos : Pos} {x : Str} {ra rb rc : Env → Out D}
/-- x in own -/
noncomputable def tInF (n : Bool) (k : List Key) (ks : List (List Key)) : Bool := if n then !decide (k ∈ ks) else decide (k ∈ ks)
noncomputable def ownInT (n : Bool) (i : Nat) (ra : Env → Out D) (e : Env) : Out D := (ra e).bind fun d e1 => match tkD d, ovT e1[i]? with
  | some k, some (ks, _) => .ok (.bl (tInF n k ks)) e1
  | _, _ => .no
/-- own[k] -/
noncomputable def ownIxT (i : Nat) (rb : Env → Out D) (e : Env) : Out D := match ovT e[i]? with
  | none => .no
  | some _ => (rb e).bind fun y e1 => match tkD y, ovT e1[i]? with
    | some k, some (ks, l) => (match lookT k ks l with
      | some d => .ok d e1
      | none => .no)
    | _, _ => .no
/-- own[k] = x -/
noncomputable def storeT (i : Nat) (rk rv : Env → Out D) (e : Env) : Out Fl := (rv e).bind fun d e1 => match ovT e1[i]? with
  | none => .no
  | some _ => (rk e1).bind fun y e2 => match tkD y, ovT e2[i]? with
    | some k, some (ks, l) => if ks.length < sizeLine then (match putOv i (.T (putTks k ks) (setT k d ks l)) e2 with
      | some e3 => .ok .nx e3
      | none => .no) else .no
    | _, _ => .no
end
end DL
namespace DL
open PySem PySem.Spec PyProof.Rows L2
noncomputable def keyD : Key → D
  | .inl i => .int i
  | .inr x => .str x
noncomputable def keyT (k : List Key) : D := .tup (k.map keyD)
noncomputable def sortT (i : Nat) (e : Env) : Out (List D) := match ovT e[i]? with
  | some (ks, _) => if sortOk (ks.map keyT) = true then .ok ((ks.map keyT).mergeSort leD) e else .no
  | none => .no
end DL
namespace DL
open PySem L2
section
variable {c : Kc} {W : WX} {X : Cx} {H0 F F' H H' : Hp} {env env' : Env} {σ : L2.St} {Q : VK} {E : XK} {a b e o : Expr} {pos p apos : Pos} {x : Str} {ra rb rc : Env → Out D}
noncomputable def ownInB (n : Bool) (i : Nat) (ra : Env → Out D) (e : Env) : Out D := (ra e).bind fun d e1 => match lstOf e1[i]? with
  | some l => (match inF n d (.lst l) with
    | some (.bl b) => .ok (.bl b) e1
    | _ => .no)
  | none => .no
end
end DL
namespace DL
open PySem PySem.Spec PyProof.Rows L2
noncomputable def stepL (ra rb : Env → Out D) (e : Env) : Out (List D) := (ra e).bind fun x e1 => (rb e1).bind fun y e2 => match x, y with
  | .lst l, .int i => if i = -1 then .ok l.reverse e2 else if i = 1 then .ok l e2 else .no
  | _, _ => .no
section
variable {c : Kc} {W : WX} {X : Cx} {H0 F F' H H' : Hp} {env env' : Env} {σ σ' : L2.St} {Q : VK} {e st : Expr} {p p3 pos : Pos} {ra rb : Env → Out D}
end
end DL
namespace DL
open PySem PySem.Spec PyProof.Rows L2
noncomputable def augO (i : Nat) (rk rv : Env → Out D) (e : Env) : Out Fl := match ovL e[i]? with
  | none => .no
  | some o0 => (rk e).bind fun y e1 => match ovL e1[i]? with
    | some o => if isL o = isL o0 then (match getO o y with
      | some x => (rv e1).bind fun d e2 => match ovL e2[i]? with
        | some o2 => if isL o2 = isL o0 then (match addI x d with
          | some z => (match putO o2 y z with
            | some o' => (match putOv i o' e2 with
              | some e3 => .ok .nx e3
              | none => .no)
            | none => .no)
          | none => .no) else .no
        | none => .no
      | none => .no) else .no
    | none => .no
end DL
namespace DL
open PySem PySem.Spec PyProof.Rows L2
noncomputable def CM.pinned (cm : CM) (P : Addr → Value → Option Addr → Prop) : CM := ⟨cm.at_, cm.hs, P⟩
noncomputable def Kc.pinned (c : Kc) (P : Addr → Value → Option Addr → Prop) : Kc := ⟨c.K, c.cm.pinned P⟩
section
variable {K : PySem.W.Frag} {cm : CM} {F : Hp} {P : Addr → Value → Option Addr → Prop}
mutual
theorem Rp.pin : ∀ (d : D) (v : V), Rp K (cm.pinned P) F d v = Rp K cm F d v
  | .non, v => by simp only [Rp]
  | .bl _, v => by simp only [Rp]
  | .int _, v => by simp only [Rp]
  | .str _, v => by simp only [Rp]
  | .tup l, v => by simp only [Rp, RpL.pin l]
  | .tu l, v => by simp only [Rp, RpL.pin l]
  | .lst l, v => by simp only [Rp, RpL.pin l]
  | .ro l, v => by simp only [Rp, RpL.pin l]
  | .dK ks l, v => by simp only [Rp, RpL.pin l]
  | .dT ks l, v => by simp only [Rp, RpL.pin l]; rfl
  | .obj cn ns l, v => by simp only [Rp, RpL.pin l]; rfl
theorem RpL.pin : ∀ (l : List D) (vs : List V), RpL K (cm.pinned P) F l vs = RpL K cm F l vs
  | [], vs => by simp only [RpL]
  | d :: l, vs => by simp only [RpL, Rp.pin d, RpL.pin l]
end
theorem RO.pin {H : Hp} {a : Addr} : ∀ (o : OV), RO K (cm.pinned P) F H a o = RO K cm F H a o
  | .L l => by simp only [RO, RpL.pin l]
  | .K ks l => by simp only [RO, RpL.pin l]
  | .T ks l => by simp only [RO, RpL.pin l]; rfl
  | .I cn ns l => by simp only [RO, RpL.pin l]; rfl
  | .Kf ks l => by simp only [RO, RpL.pin l]
theorem XRp.pin {x : Xc} {cl : Value} {dx : Option Addr} : XRp K (cm.pinned P) F x cl dx = XRp K cm F x cl dx := by
  obtain ⟨cls, fld⟩ := x
  cases fld with
  | none => rfl
  | some q => simp only [XRp, Rp.pin]; rfl
end
end DL
namespace DL
open PySem L2
noncomputable def k1D : Key → D
  | .inl i => .int i
  | .inr s => .str s
section
variable {c : Kc} {W : WX} {X : Cx} {H0 F F' H H' : Hp} {env env' : Env} {σ : L2.St} {Q : VK} {a b d e o tg : Expr} {pos cpos apos : Pos} {ra rb rc rx : Env → Out D}
noncomputable def itK (ra : Env → Out D) (e : Env) : Out (List D) := (ra e).bind fun x e1 => match x with
  | .dK ks _ => .ok (ks.map k1D) e1
  | _ => .no
noncomputable def itD (ra : Env → Out D) (e : Env) : Out (List D) := match ra e with
  | .ok (.dK _ _) _ => itK ra e
  | _ => itA ra e
noncomputable def hasK (k : Key) (ks : List Key) : Bool := ks.any fun q => decide (q = k)
noncomputable def keysOf : Option OV → Option (List Key)
  | some (.K ks _) => some ks
  | some (.Kf ks _) => some ks
  | _ => none
noncomputable def ownInD (n : Bool) (i : Nat) (ra : Env → Out D) (e : Env) : Out D := (ra e).bind fun x e1 => match keysOf (ovL e1[i]?), keyOf x with
  | some ks, some k => .ok (.bl (if n then !hasK k ks else hasK k ks)) e1
  | _, _ => .no
end
end DL
namespace DS
open PySem PySem.Spec PyProof.Rows L2
/-- a text more, where it isn't there -/
noncomputable def ins (L : List Str) (x : Str) : List Str := if x ∈ L then L else L ++ [x]
/-- each text once, as it comes first -/
noncomputable def nub (xs : List Str) : List Str := xs.foldl ins []
theorem ins_nd {L : List Str} {x : Str} (h : L.Nodup) : (ins L x).Nodup := by
  unfold ins
  split
  · exact h
  · rename_i n
    exact List.nodup_append.mpr ⟨h, by simp, fun a ma b mb e => by rw [List.mem_singleton.mp mb] at e; exact n (e ▸ ma)⟩
theorem ins_mem {L : List Str} {x y : Str} : y ∈ ins L x ↔ y ∈ L ∨ y = x := by
  unfold ins
  split
  · rename_i m
    exact ⟨.inl, fun h => h.elim id fun e => e ▸ m⟩
  · rw [List.mem_append, List.mem_singleton]
theorem fold_nd : ∀ (xs L : List Str), L.Nodup → (xs.foldl ins L).Nodup
  | [], _, h => h
  | x :: xs, L, h => fold_nd xs _ (ins_nd h)
theorem fold_mem {y : Str} : ∀ (xs L : List Str), y ∈ xs.foldl ins L ↔ y ∈ L ∨ y ∈ xs
  | [], L => by simp
  | x :: xs, L => by
    show y ∈ xs.foldl ins (ins L x) ↔ _
    rw [fold_mem xs, ins_mem, List.mem_cons, or_assoc]
theorem nub_nd (xs : List Str) : (nub xs).Nodup := fold_nd xs [] List.nodup_nil
theorem nub_mem {xs : List Str} {y : Str} : y ∈ nub xs ↔ y ∈ xs := by unfold nub; rw [fold_mem]; simp
noncomputable def txt (e : Int × Value) : Str := match e.2 with | .str x _ => x | _ => Str.empty
noncomputable def GoodS (w : World) (e : Int × Value) : Prop := ∃ x tk, e.2 = Value.str x tk ∧ e.1 = hashStr w x
/-- the set of texts at a; its table rises and can be walked -/
noncomputable def SetX (w : World) (h : Heap) (a : Addr) (L : List Str) : Prop :=
  ∃ o es ep t, h.get? a = some o ∧ o.ExactSet ∧ o.data = .set es ep t ∧ (∀ e ∈ es.toList, GoodS w e) ∧ (es.toList.map txt).Perm L ∧ L.Nodup ∧ es.size < scanBound ∧ t.fits es.size = true ∧ Ris t.place.toList ∧ (w.params.followText "set-order" = true ∨ t.led = true)
section
variable {P : Program} {w : World} {A : Around} {E : Value → Shared → Prop} {s : Shared} {a : Addr} {L : List Str}
theorem SetX.at {h h' : Heap} (R : SetX w h a L) (k : ∀ o, h.get? a = some o → h'.get? a = some o) : SetX w h' a L := by
  obtain ⟨o, es, ep, t, ho, r⟩ := R
  exact ⟨o, es, ep, t, k o ho, r⟩
end
end DS
namespace DL
open PySem L2
noncomputable def dP (p : Str × Str) : D := .tup [.str p.1, .str p.2]
theorem toPL_mapF {α : Type} {f : α → D} (l : List α) : toPL (l.map f) = l.map fun x => (f x).toP := by rw [toPL_map, List.map_map]; rfl
theorem eqvAll_map {α : Type} [DecidableEq α] {f : α → PyData} (h : ∀ x y, PyData.eqv (f x) (f y) = decide (x = y)) : ∀ l m : List α, PyData.eqvAll (l.map f) (m.map f) = decide (l = m)
  | [], [] => by simp [PyData.eqvAll]
  | [], _ :: _ => by simp [PyData.eqvAll]
  | _ :: _, [] => by simp [PyData.eqvAll]
  | x :: l, y :: m => by
    simp only [List.map_cons, PyData.eqvAll, h, eqvAll_map h l m]
    by_cases a : x = y <;> by_cases b : l = m <;> simp [a, b]
theorem eqv_str (a b : Str) : PyData.eqv (.str a) (.str b) = decide (a = b) := by
  simp only [PyData.eqv]
  by_cases h : a = b
  · subst h; simp
  · simp [h]
theorem eqv_dP (p q : Str × Str) : PyData.eqv (dP p).toP (dP q).toP = decide (p = q) := by
  obtain ⟨a, b⟩ := p
  obtain ⟨c, d⟩ := q
  simp only [dP, D.toP, toPL, PyData.eqv, PyData.eqvAll, eqv_str]
  by_cases h : a = c <;> by_cases h2 : b = d <;> simp [h, h2]
/-- what == asks of data: each of depth at most n -/
structure Ok (n : Nat) (d : D) : Prop where
  pu : d.pure = true
  ca : d.toP.canLay0 = true
  de : d.toP.depth ≤ n
theorem Ok.okP {n : Nat} {d : D} (h : Ok n d) (hn : n ≤ 64 := by decide) : okP d = true := by
  have h1 := h.de
  have h2 : d.toP.depth ≤ 64 := by omega
  simp [DL.okP, SeqAt.shaped, h.pu, h.ca, h2]
noncomputable def SOk (s : Str) : Prop := PyData.strOk s = true
theorem ok_str {s : Str} (h : SOk s) : Ok 0 (.str s) := ⟨rfl, h, Nat.le_refl _⟩
theorem ok_int {i : Int} : Ok 0 (.int i) := ⟨rfl, rfl, Nat.le_refl _⟩
theorem okL {n : Nat} : ∀ {l : List D}, (∀ d ∈ l, Ok n d) → pureL l = true ∧ PyData.canLayAll0 (toPL l) = true ∧ PyData.depthAll (toPL l) ≤ n
  | [], _ => ⟨rfl, rfl, Nat.zero_le _⟩
  | d :: l, h => by
    obtain ⟨a1, a2, a3⟩ := okL (l := l) fun x m => h x (List.mem_cons_of_mem _ m)
    have b := h d List.mem_cons_self
    refine ⟨by simp [pureL, b.pu, a1], by simp [toPL, PyData.canLayAll0, b.ca, a2], ?_⟩
    simp only [toPL, PyData.depthAll]
    exact Nat.max_le.mpr ⟨b.de, a3⟩
theorem ok_tup {n : Nat} {l : List D} (h : ∀ d ∈ l, Ok n d) : Ok (n + 1) (.tup l) := by
  obtain ⟨a1, a2, a3⟩ := okL h
  exact ⟨a1, a2, Nat.succ_le_succ a3⟩
theorem ok_lst {n : Nat} {l : List D} (h : ∀ d ∈ l, Ok n d) : Ok (n + 1) (.lst l) := by
  obtain ⟨a1, a2, a3⟩ := okL h
  exact ⟨a1, a2, Nat.succ_le_succ a3⟩
theorem ok_dP {p : Str × Str} (h1 : SOk p.1) (h2 : SOk p.2) : Ok 1 (dP p) := ok_tup fun d m => by
  simp at m
  rcases m with rfl | rfl
  · exact ok_str h1
  · exact ok_str h2
theorem ok_lS {l : List Str} (h : ∀ s ∈ l, SOk s) : Ok 1 (.lst (l.map .str)) := ok_lst fun d m => by
  obtain ⟨s, ms, rfl⟩ := List.mem_map.mp m
  exact ok_str (h s ms)
theorem ok_tP {l : List (Str × Str)} (h : ∀ p ∈ l, SOk p.1 ∧ SOk p.2) : Ok 2 (.tup (l.map dP)) := ok_tup fun d m => by
  obtain ⟨s, ms, rfl⟩ := List.mem_map.mp m
  exact ok_dP (h s ms).1 (h s ms).2
noncomputable def tst (n b : Bool) : Bool := if n then !b else b
theorem eqF_int (n : Bool) (i j : Int) : eqF n (.int i) (.int j) = some (.bl (tst n (decide (i = j)))) := by
  show eqO _ _ _ = _
  unfold eqO
  rw [ok_int.okP, ok_int.okP]
  have e : (i == j) = decide (i = j) := by
    by_cases h : i = j
    · subst h; simp
    · simp [h]
  simp only [D.toP, PyData.eqv, Bool.and_true, if_true, tst, e]
theorem eqF_s (n : Bool) (a b : Str) : eqF n (.str a) (.str b) = some (.bl (tst n (decide (a = b)))) := rfl
theorem eqF_str (n : Bool) {a b : Str} (ha : SOk a) (hb : SOk b) : eqF n (.str a) (.str b) = some (.bl (tst n (decide (a = b)))) := rfl
theorem eqF_lS (n : Bool) {l m : List Str} (hl : ∀ s ∈ l, SOk s) (hm : ∀ s ∈ m, SOk s) : eqF n (.lst (l.map .str)) (.lst (m.map .str)) = some (.bl (tst n (decide (l = m)))) := by
  show eqO _ _ _ = _
  unfold eqO
  rw [(ok_lS hl).okP, (ok_lS hm).okP]
  simp only [D.toP, PyData.eqv, toPL_mapF, Bool.and_true, if_true, tst]
  rw [eqvAll_map (f := fun x => PyData.str x) eqv_str]
theorem eqF_lI (n : Bool) (l m : List Int) : eqF n (.lst (l.map .int)) (.lst (m.map .int)) = some (.bl (tst n (decide (l = m)))) := by
  have ok : ∀ l : List Int, Ok 1 (.lst (l.map .int)) := fun l => ok_lst fun d m => by
    obtain ⟨s, ms, rfl⟩ := List.mem_map.mp m
    exact ok_int
  show eqO _ _ _ = _
  unfold eqO
  rw [(ok l).okP, (ok m).okP]
  simp only [D.toP, PyData.eqv, toPL_mapF, Bool.and_true, if_true, tst]
  rw [eqvAll_map (f := fun x => PyData.int x) fun i j => by
    simp only [PyData.eqv]
    by_cases h : i = j
    · subst h; simp
    · simp [h]]
theorem asV_S : ∀ l : List Str, asV (l.map .str) = some (l.map V.str)
  | [] => rfl
  | s :: l => by simp [asV, flatD, asV_S l]
theorem inV_S (a : Str) (l : List Str) : inV (.str a) (l.map V.str) = decide (a ∈ l) := by
  unfold inV
  rw [List.any_map]
  induction l with
  | nil => simp
  | cons b l ih =>
    rw [List.any_cons, ih]
    have e : eqV (V.str b) (V.str a) = decide (b = a) := by
      show (b == a) = _
      by_cases h : b = a
      · subst h; simp
      · simp [h]
    show (eqV (V.str b) (V.str a) || _) = _
    rw [e]
    by_cases h : b = a
    · subst h; simp
    · have : ¬ a = b := fun z => h z.symm
      simp [h, this]
theorem flat_S (l : List Str) : (l.map V.str).all flatV = true := by
  rw [List.all_map]
  simp [flatV]
theorem inF_tS (n : Bool) (a : Str) (l : List Str) : inF n (.str a) (.tup (l.map .str)) = some (.bl (tst n (decide (a ∈ l)))) := by
  have := flat_S l
  simp only [inF, seqOf, flatD, asV_S, flatV, this, inV_S, Bool.true_and, Bool.and_true, if_true, tst]
theorem inF_lS (n : Bool) (a : Str) (l : List Str) : inF n (.str a) (.lst (l.map .str)) = some (.bl (tst n (decide (a ∈ l)))) := by
  have := flat_S l
  simp only [inF, seqOf, flatD, asV_S, flatV, this, inV_S, Bool.true_and, Bool.and_true, if_true, tst]
theorem inF_tP (n : Bool) {p : Str × Str} {l : List (Str × Str)} (h : SOk p.1 ∧ SOk p.2) (hl : ∀ p ∈ l, SOk p.1 ∧ SOk p.2) : inF n (dP p) (.tup (l.map dP)) = some (.bl (tst n (decide (p ∈ l)))) := by
  have e : flatD (dP p) = none := rfl
  simp only [inF, seqOf, e, (ok_dP h.1 h.2).okP, (ok_tP hl).okP, Bool.and_true, if_true, tst]
  have k : (toPL (l.map dP)).any (fun z => PyData.eqv z (dP p).toP) = decide (p ∈ l) := by
    rw [toPL_mapF, List.any_map]
    induction l with
    | nil => simp
    | cons q l ih =>
      simp only [List.any_cons, Function.comp, eqv_dP, ih fun x m => hl x (List.mem_cons_of_mem _ m)]
      by_cases hq : q = p
      · subst hq; simp
      · have : ¬ p = q := fun z => hq z.symm
        simp [hq, this]
  rw [k]
theorem ltS_irr (a : Str) : ltS a a = false := by simp [ltS]
theorem ltS_trans {a b c : Str} (h : ltS a b = true) (k : ltS b c = true) : ltS a c = true := by
  simp only [ltS, decide_eq_true_eq] at *
  exact List.lt_trans h k
theorem ltS_tri (a b : Str) : ltS a b = true ∨ a = b ∨ ltS b a = true := by
  simp only [ltS, decide_eq_true_eq]
  rcases Nat.lt_trichotomy 0 0 with h | h | h
  · omega
  · by_cases h1 : a.cps.toList < b.cps.toList
    · exact .inl h1
    · by_cases h2 : b.cps.toList < a.cps.toList
      · exact .inr (.inr h2)
      · refine .inr (.inl ?_)
        have e : a.cps.toList = b.cps.toList := List.le_antisymm (List.not_lt.mp h2) (List.not_lt.mp h1)
        exact PySem.W.str_of_cps e
  · omega
noncomputable def ltP (p q : Str × Str) : Bool := ltS p.1 q.1 || (decide (p.1 = q.1) && ltS p.2 q.2)
theorem ltP_irr (a : Str × Str) : ltP a a = false := by simp [ltP, ltS_irr]
theorem ltP_trans {a b c : Str × Str} (h : ltP a b = true) (k : ltP b c = true) : ltP a c = true := by
  simp only [ltP, Bool.or_eq_true, Bool.and_eq_true, decide_eq_true_eq] at *
  rcases h with h | ⟨h1, h2⟩
  · rcases k with k | ⟨k1, k2⟩
    · exact .inl (ltS_trans h k)
    · rw [k1] at h; exact .inl h
  · rcases k with k | ⟨k1, k2⟩
    · rw [← h1] at k; exact .inl k
    · exact .inr ⟨h1.trans k1, ltS_trans h2 k2⟩
theorem ltP_tri (a b : Str × Str) : ltP a b = true ∨ a = b ∨ ltP b a = true := by
  obtain ⟨a1, a2⟩ := a
  obtain ⟨b1, b2⟩ := b
  simp only [ltP, Bool.or_eq_true, Bool.and_eq_true, decide_eq_true_eq]
  rcases ltS_tri a1 b1 with h | h | h
  · exact .inl (.inl h)
  · subst h
    rcases ltS_tri a2 b2 with h | h | h
    · exact .inl (.inr ⟨rfl, h⟩)
    · subst h; exact .inr (.inl rfl)
    · exact .inr (.inr (.inr ⟨rfl, h⟩))
  · exact .inr (.inr (.inl h))
theorem dec_lt (a b : Str) : decide (a.cps.toList < b.cps.toList) = ltS a b := rfl
theorem leD_str (a b : Str) : leD (.str a) (.str b) = !ltS b a := by
  show (!PyProof.Rows.lexLt PyProof.Rows.itemOrd _ _) = _
  simp only [D.toP, PySem.W.keyToks, PyProof.Rows.lexLt, PyProof.Rows.itemOrd, PyProof.Rows.itemLt]
  simp only [dec_lt, Bool.and_false, Bool.or_false]
theorem leD_dP (p q : Str × Str) : leD (dP p) (dP q) = !ltP q p := by
  show (!PyProof.Rows.lexLt PyProof.Rows.itemOrd _ _) = _
  simp only [dP, D.toP, toPL, PySem.W.keyToks, PySem.W.keyToksAll, List.cons_append, List.nil_append, PyProof.Rows.lexLt, PyProof.Rows.itemOrd, PyProof.Rows.itemLt]
  simp only [dec_lt, Nat.lt_irrefl, decide_false, Bool.false_or, Bool.not_false, Bool.true_and, Bool.and_false, Bool.or_false, Int.lt_irrefl]
  unfold ltP
  rcases ltS_tri q.1 p.1 with h | h | h
  · simp [h]
  · rw [h]; simp [ltS_irr]
  · have h2 : ltS q.1 p.1 = false := by
      cases e : ltS q.1 p.1 with
      | false => rfl
      | true => have := ltS_trans h e; rw [ltS_irr] at this; cases this
    have h3 : ¬ q.1 = p.1 := fun z => by rw [z, ltS_irr] at h; cases h
    simp [h, h2, h3]
theorem leA_str (a b : Str) : leA (.str a) (.str b) = some (.bl (!ltS b a)) := rfl
theorem leA_dP (p q : Str × Str) : leA (dP p) (dP q) = some (.bl (!ltP q p)) := by
  have : leA (dP p) (dP q) = some (.bl (lexS [p.1, p.2] [q.1, q.2])) := rfl
  rw [this]
  have e : lexS [p.1, p.2] [q.1, q.2] = (if p.1 = q.1 then (if p.2 = q.2 then true else !ltS q.2 p.2) else !ltS q.1 p.1) := by
    simp [lexS, Ob.lexAt]
  rw [e]
  congr 2
  unfold ltP
  by_cases h : p.1 = q.1
  · rw [if_pos h, h]
    by_cases h2 : p.2 = q.2
    · rw [if_pos h2, h2]; simp [ltS_irr]
    · rw [if_neg h2]; simp [ltS_irr]
  · rw [if_neg h]
    have : ¬ q.1 = p.1 := fun z => h z.symm
    simp [this]
end DL
namespace DL
open PySem L2
structure Ord {α : Type} (lt : α → α → Bool) : Prop where
  irr : ∀ a, lt a a = false
  trans : ∀ {a b c}, lt a b = true → lt b c = true → lt a c = true
  tri : ∀ a b, lt a b = true ∨ a = b ∨ lt b a = true
theorem ordS : Ord ltS := ⟨ltS_irr, ltS_trans, ltS_tri⟩
theorem ordP : Ord ltP := ⟨ltP_irr, ltP_trans, ltP_tri⟩
noncomputable def Ri {α : Type} (lt : α → α → Bool) (l : List α) : Prop := l.Pairwise fun a b => lt a b = true
noncomputable def srt {α : Type} (lt : α → α → Bool) (l : List α) : List α := l.mergeSort fun a b => !lt b a
section
variable {α : Type} {lt : α → α → Bool}
theorem Ord.asym (o : Ord lt) {a b : α} (h : lt a b = true) : lt b a = false := by
  cases e : lt b a with
  | false => rfl
  | true => have := o.trans h e; rw [o.irr] at this; cases this
theorem Ord.nle (o : Ord lt) {a b : α} (h : lt b a = false) : lt a b = true ∨ a = b := by
  rcases o.tri a b with k | k | k
  · exact .inl k
  · exact .inr k
  · rw [h] at k; cases k
theorem Ri.nodup (o : Ord lt) {l : List α} (h : Ri lt l) : l.Nodup := h.imp fun {a b} k e => by subst e; rw [o.irr] at k; cases k
theorem Ri.eq (o : Ord lt) : ∀ {l m : List α}, Ri lt l → Ri lt m → (∀ x, x ∈ l ↔ x ∈ m) → l = m
  | [], [], _, _, _ => rfl
  | [], y :: m, _, _, h => by have := (h y).mpr List.mem_cons_self; simp at this
  | x :: l, [], _, _, h => by have := (h x).mp List.mem_cons_self; simp at this
  | x :: l, y :: m, hl, hm, h => by
    have hl' := List.pairwise_cons.mp hl
    have hm' := List.pairwise_cons.mp hm
    have e : x = y := by
      rcases List.mem_cons.mp ((h x).mp List.mem_cons_self) with e | e
      · exact e
      · rcases List.mem_cons.mp ((h y).mpr List.mem_cons_self) with e2 | e2
        · exact e2.symm
        · have a := hm'.1 x e
          have b := hl'.1 y e2
          rw [o.asym a] at b; cases b
    subst e
    refine congrArg (x :: ·) (Ri.eq o hl'.2 hm'.2 fun z => ?_)
    have ne1 : ∀ z ∈ l, z ≠ x := fun z mz e => by subst e; have := hl'.1 z mz; rw [o.irr] at this; cases this
    have ne2 : ∀ z ∈ m, z ≠ x := fun z mz e => by subst e; have := hm'.1 z mz; rw [o.irr] at this; cases this
    constructor
    · intro mz
      rcases List.mem_cons.mp ((h z).mp (List.mem_cons_of_mem _ mz)) with e | e
      · exact absurd e (ne1 z mz)
      · exact e
    · intro mz
      rcases List.mem_cons.mp ((h z).mpr (List.mem_cons_of_mem _ mz)) with e | e
      · exact absurd e (ne2 z mz)
      · exact e
theorem srt_mem {l : List α} {x : α} : x ∈ srt lt l ↔ x ∈ l := by unfold srt; exact List.mem_mergeSort
theorem srt_perm (l : List α) : (srt lt l).Perm l := List.mergeSort_perm _ _
theorem srt_len (l : List α) : (srt lt l).length = l.length := (srt_perm l).length_eq
theorem srt_ri (o : Ord lt) {l : List α} (h : l.Nodup) : Ri lt (srt lt l) := by
  have tr : ∀ a b c : α, (!lt b a) = true → (!lt c b) = true → (!lt c a) = true := fun a b c h1 h2 => by
    simp only [Bool.not_eq_true'] at *
    cases e : lt c a with
    | false => rfl
    | true =>
      rcases o.nle h1 with k | k
      · have := o.trans e k; rw [h2] at this; cases this
      · subst k; rw [h2] at e; cases e
  have to : ∀ a b : α, ((!lt b a) || !lt a b) = true := fun a b => by
    cases e : lt b a with
    | false => rfl
    | true => simp [o.asym e]
  have p := List.pairwise_mergeSort tr to l
  have n : (srt lt l).Nodup := (srt_perm l).nodup_iff.mpr h
  refine (List.Pairwise.and p n).imp fun {a b} k => ?_
  have k1 : lt b a = false := by simpa using k.1
  rcases o.nle k1 with e | e
  · exact e
  · exact absurd e k.2
theorem Ri.filter {l : List α} (p : α → Bool) (h : Ri lt l) : Ri lt (l.filter p) := List.Pairwise.filter p h
theorem srt_map {f : α → D} (hf : ∀ a b, leD (f a) (f b) = !lt b a) (l : List α) : (l.map f).mergeSort leD = (srt lt l).map f := by
  unfold srt
  exact (List.map_mergeSort fun a _ b _ => (hf a b).symm).symm
end
theorem sortOk_S (l : List Str) : sortOk (l.map .str) = true := by
  unfold sortOk
  have h1 : pureL (l.map .str) = true := pureL_iff.mpr fun d m => by
    obtain ⟨s, _, rfl⟩ := List.mem_map.mp m
    rfl
  simp only [h1, Bool.true_and, Bool.and_eq_true, Bool.or_eq_true, List.all_eq_true]
  refine ⟨⟨fun a ma b mb => ?_, .inr fun a ma => ?_⟩, fun a ma => ?_⟩
  · obtain ⟨s, _, rfl⟩ := List.mem_map.mp ma
    obtain ⟨t, _, rfl⟩ := List.mem_map.mp mb
    rfl
  · obtain ⟨s, _, rfl⟩ := List.mem_map.mp ma
    rfl
  · obtain ⟨s, _, rfl⟩ := List.mem_map.mp ma
    rfl
theorem sortOk_P (l : List (Str × Str)) : sortOk (l.map dP) = true := by
  unfold sortOk
  have h1 : pureL (l.map dP) = true := pureL_iff.mpr fun d m => by
    obtain ⟨s, _, rfl⟩ := List.mem_map.mp m
    rfl
  simp only [h1, Bool.true_and, Bool.and_eq_true, Bool.or_eq_true, List.all_eq_true]
  refine ⟨⟨fun a ma b mb => ?_, .inl fun a ma => ?_⟩, fun a ma => ?_⟩
  · obtain ⟨s, _, rfl⟩ := List.mem_map.mp ma
    obtain ⟨t, _, rfl⟩ := List.mem_map.mp mb
    rfl
  · obtain ⟨s, _, rfl⟩ := List.mem_map.mp ma
    rfl
  · obtain ⟨s, _, rfl⟩ := List.mem_map.mp ma
    rfl
section
variable {e e1 : Env} {ra : Env → Out (List D)}
theorem sort_S {l : List Str} (h : ra e = .ok [.lst (l.map .str)] e1) : sortF ra e = .ok ((srt ltS l).map .str) e1 := by
  unfold sortF
  rw [h]
  simp only [bind_ok, lrOf, sortOk_S, if_true]
  rw [srt_map leD_str]
theorem sort_P {l : List (Str × Str)} (h : ra e = .ok [.lst (l.map dP)] e1) : sortF ra e = .ok ((srt ltP l).map dP) e1 := by
  unfold sortF
  rw [h]
  simp only [bind_ok, lrOf, sortOk_P, if_true]
  rw [srt_map leD_dP]
end
theorem compL_map {α : Type} {f g : α → D} {p : α → Bool} {vs : List Nat} {rg : D → Env → Option Env} {rt : Env → Out Bool} {re : Env → Out D} {e : Env} : ∀ {l : List α},
    (∀ a ∈ l, ∃ e2, rg (f a) e = some e2 ∧ freeE e2 vs = true ∧ wipeE e2 vs = e ∧ rt e2 = .ok (p a) e2 ∧ (p a = true → re e2 = .ok (g a) e2)) → compL vs rg rt re (l.map f) e = .ok ((l.filter p).map g) e
  | [], _ => rfl
  | d :: ds, h => by
    obtain ⟨e2, h1, h2, h3, h4, h5⟩ := h d List.mem_cons_self
    have ih := compL_map (l := ds) fun x m => h x (List.mem_cons_of_mem _ m)
    rw [List.map_cons]
    unfold compL
    rw [h1]
    simp only [h2, if_true, h4, noEx, bind_ok]
    cases hp : p d with
    | true =>
      rw [if_pos rfl, h5 hp]
      simp only [bind_ok, h2, if_true, h3, ih, List.filter_cons, hp, List.map_cons]
    | false =>
      rw [if_neg Bool.false_ne_true]
      simp only [h3, ih, List.filter_cons, hp]
      rfl
theorem compF_map {α : Type} {f g : α → D} {p : α → Bool} {vs : List Nat} {ri : Env → Out (List D)} {rg : D → Env → Option Env} {rt : Env → Out Bool} {re : Env → Out D} {env : Env} {l : List α}
    (hi : ri env = .ok (l.map f) env) (fr : freeE env vs = true) (hl : l.length ≤ sizeLine) (hb : backE env (wipeE env vs) vs = env)
    (h : ∀ a ∈ l, ∃ e2, rg (f a) (wipeE env vs) = some e2 ∧ freeE e2 vs = true ∧ wipeE e2 vs = wipeE env vs ∧ rt e2 = .ok (p a) e2 ∧ (p a = true → re e2 = .ok (g a) e2)) : compF vs ri rg rt re env = .ok ((l.filter p).map g) env := by
  unfold compF
  rw [hi]
  have hl' : (l.map f).length ≤ sizeLine := by simpa using hl
  simp only [bind_ok, fr, hl', decide_true, Bool.and_true, if_true, compL_map h, noEx, hb]
/-- a walk whose body goes on -/
theorem loopS_inv {rg : D → Env → Option Env} {sl : List Nat} {rb : Env → Out Fl} (P : Nat → Env → Prop) : ∀ {ds : List D} {n : Nat} {e : Env},
    (∀ i d e, ds[i]? = some d → P (n + i) e → ∃ e2 e3, rg d e = some e2 ∧ (keepsB e e2 && freeE e2 sl) = true ∧ rb e2 = .ok .nx e3 ∧ P (n + i + 1) e3) → P n e → ∃ e', loopS rg sl rb ds e = .ok .nx e' ∧ P (n + ds.length) e'
  | [], n, e, _, p => ⟨e, rfl, p⟩
  | d :: ds, n, e, h, p => by
    obtain ⟨e2, e3, h1, h2, h3, h4⟩ := h 0 d e rfl p
    obtain ⟨e', k1, k2⟩ := loopS_inv P (ds := ds) (n := n + 1) (e := e3) (fun i d e q r => by
      have := h (i + 1) d e (by simpa using q) (by rw [show n + (i + 1) = n + 1 + i by omega]; exact r)
      rwa [show n + (i + 1) + 1 = n + 1 + i + 1 by omega] at this) h4
    refine ⟨e', ?_, by rw [List.length_cons, show n + (ds.length + 1) = n + 1 + ds.length by omega]; exact k2⟩
    unfold loopS
    rw [h1]
    simp only [h2, if_true, h3, bind_ok]
    exact k1
theorem asB_map {α : Type} (f : α → Bool) : ∀ l : List α, asB (l.map fun a => .bl (f a)) = some (l.map f)
  | [] => rfl
  | a :: l => by simp [asB, asB_map f l]
theorem asI_map {α : Type} (f : α → Int) : ∀ l : List α, asI (l.map fun a => .int (f a)) = some (l.map f)
  | [] => rfl
  | a :: l => by simp [asI, asI_map f l]
theorem allF_map {α : Type} (f : α → Bool) (l : List α) : allF (.lst (l.map fun a => .bl (f a))) = some (.bl (l.all f)) := by
  simp [allF, lrOf, asB_map, List.all_map]
theorem anyF_map {α : Type} (f : α → Bool) (l : List α) : anyF (.lst (l.map fun a => .bl (f a))) = some (.bl (l.any f)) := by
  simp [anyF, lrOf, asB_map, List.any_map]
theorem sumF_map {α : Type} (f : α → Int) (l : List α) : sumF (.lst (l.map fun a => .int (f a))) = some (.int (l.map f).sum) := by
  simp [sumF, lrOf, asI_map]
theorem atI_nat {α : Type} {l : List α} {k : Nat} {d : α} (h : l[k]? = some d) : atI l (k : Int) = some d := by
  have : k < l.length := (List.getElem?_eq_some_iff.mp h).1
  have e : ixN l.length (k : Int) = some k := by
    unfold ixN
    rw [if_pos (by omega), if_pos (by omega)]
    simp
  unfold atI
  rw [e]
  exact h
theorem ix_tup {l : List D} {k : Nat} {d : D} (h : l[k]? = some d) : ixF (.tup l) (.int (k : Int)) = some d := by
  show (seqOf (.tup l)).bind (fun l => atI l (k : Int)) = _
  exact atI_nat h
theorem ix_lst {l : List D} {k : Nat} {d : D} (h : l[k]? = some d) : ixF (.lst l) (.int (k : Int)) = some d := by
  show (seqOf (.lst l)).bind (fun l => atI l (k : Int)) = _
  exact atI_nat h
theorem ix_ro {l : List D} {k : Nat} {d : D} (h : l[k]? = some d) : ixF (.ro l) (.int (k : Int)) = some d := by
  show (seqOf (.ro l)).bind (fun l => atI l (k : Int)) = _
  exact atI_nat h
theorem enL_at {l : List D} {i : Nat} {d : D} (h : (enL l)[i]? = some d) : ∃ x, l[i]? = some x ∧ d = .tu [.int (i : Nat), x] := by
  unfold enL at h
  rw [List.getElem?_map] at h
  cases e : l[i]? with
  | none => simp [e] at h
  | some x => simp [e] at h; exact ⟨x, rfl, h.symm⟩
end DL
namespace DL
open PySem PySem.Spec PyProof.Rows L2
section
variable {X : Cx} {a : Expr} {p p2 q pos : Pos}
noncomputable def strsD : List D → Option (List Str)
  | [] => some []
  | .str x :: l => (strsD l).map fun r => x :: r
  | _ => none
theorem strsD_map (xs : List Str) : strsD (xs.map .str) = some xs := by
  induction xs with
  | nil => rfl
  | cons x xs ih =>
    show (strsD (xs.map .str)).map (fun r => x :: r) = _
    rw [ih]; rfl
noncomputable def setTx (x : D) : Option (List Str) := (seqZ x).bind fun l => (strsD l).bind fun xs => if decide (xs.length < 4000) = true then some (DS.nub xs) else none
theorem setTx_lst {xs : List Str} (h : xs.length < 4000) : setTx (.lst (xs.map .str)) = some (DS.nub xs) := by
  show (strsD (xs.map .str)).bind _ = _
  rw [strsD_map]
  exact if_pos (decide_eq_true h)
variable {c : Kc} {W : WX} {ra : Env → Out D}
noncomputable def sortSetF (ra : Env → Out D) (e : Env) : Out (List D) := (ra e).bind fun x e1 => match setTx x with
  | some ys => .ok ((srt ltS ys).map .str) e1
  | none => .no
end
end DL
namespace DL
open PySem PySem.Spec PyProof.Rows L2
open PySem.W (minD AlikeAll min_list_data min_tuple_data dataLt dataLt_str)
noncomputable def minS (x : Str) (xs : List Str) : Str := xs.foldl (fun a y => if ltS y a = true then y else a) x
noncomputable def minXF (x : D) : Option D := match (seqZ x).bind strsD with
  | some (s :: t) => some (.str (minS s t))
  | _ => minLF x
end DL
namespace DL
open PySem PySem.Spec PyProof.Rows L2
section
variable {c : Kc} {W : WX} {X : Cx} {a b : Expr} {pos : Pos} {ra rb : Env → Out D}
noncomputable abbrev shrF := intF (fun _ j => decide (0 ≤ j)) fun i j => .int (i / 2 ^ j.toNat)
theorem prim_shr : Prim2 c (rI (fun _ j => 0 ≤ j) fun i j => .int (i / 2 ^ j.toNat)) (pur2 shrF) := prim_int (fun _ _ h => of_decide_eq_true h) fun _ _ => rfl
noncomputable abbrev bandF := intF yes2 fun i j => .int (Builtin.bitAnd i j)
theorem prim_band : Prim2 c (rI (fun _ _ => True) fun i j => .int (Builtin.bitAnd i j)) (pur2 bandF) := prim_int (fun _ _ _ => trivial) fun _ _ => rfl
theorem gshr (h1 : PE X a (tD c W ra)) (h2 : PE X b (tD c W rb)) : PE X (.BinOp a .RShift b pos) (tD c W (bin2 (pur2 shrF) ra rb)) := dl_bin (pe_op op_shr h1 h2) prim_shr
theorem gband (h1 : PE X a (tD c W ra)) (h2 : PE X b (tD c W rb)) : PE X (.BinOp a .BitAnd b pos) (tD c W (bin2 (pur2 bandF) ra rb)) := dl_bin (pe_op (op_i0 op_and) h1 h2) prim_band
end
end DL
namespace DL
open PySem PySem.Spec PyProof.Rows L2
section
variable {c : Kc} {W : WX} {X : Cx} {a b : Expr} {pos p q : Pos} {ra rb : Env → Out D}
noncomputable abbrev shlF := intF (fun i j => decide (0 ≤ j ∧ j ≤ 1000000 ∧ i.natAbs < 18446744073709551616)) fun i j => .int (i * 2 ^ j.toNat)
theorem prim_shl : Prim2 c (rI CPow fun i j => .int (i * 2 ^ j.toNat)) (pur2 shlF) := prim_int (fun _ _ h => by have := of_decide_eq_true h; exact ⟨this.1, this.2.1, by simpa using this.2.2⟩) fun _ _ => rfl
theorem gshl (h1 : PE X a (tD c W ra)) (h2 : PE X b (tD c W rb)) : PE X (.BinOp a .LShift b pos) (tD c W (bin2 (pur2 shlF) ra rb)) := dl_bin (pe_op op_shl h1 h2) prim_shl
noncomputable def listRgF (ra : Env → Out D) (e : Env) : Out (List D) := (ra e).bind fun d e1 => match d with
  | .int j => if decide (0 ≤ j ∧ j ≤ 16777216) = true then .ok (rgL 0 j.toNat) e1 else .no
  | _ => .no
theorem rpl_rg {K : PySem.W.Frag} {cm : CM} {F : Hp} (l : List Nat) : RpL K cm F (l.map fun (i : Nat) => D.int (0 + (i : Int))) (l.map fun (i : Nat) => V.int (0 + (i : Int))) := by
  induction l with
  | nil => exact .nil
  | cons k l ih => exact .cons (by simp only [Rp]) ih
theorem glistRg (hm : X.mg "list" = none) (hm2 : X.mg "range" = none) (h1 : PE X a (tD c W ra)) (hc : X.calm = true := by rfl) (hg : Gl X "list" := by rfl) (hg2 : Gl X "range" := by rfl)
    (na : starEach [a] X.env = (false, eval a X.env) :: starEach [] X.env := by rfl) (na2 : starEach [.Call (.Name "range" p) [a] [] q] X.env = (false, eval (.Call (.Name "range" p) [a] [] q) X.env) :: starEach [] X.env := by rfl) {p2 : Pos} :
    PE X (.Call (.Name "list" p2) [.Call (.Name "range" p) [a] [] q] [] pos) (tF c W (listRgF ra)) :=
  (pe_listRg hc hg hm (prg_1 hg2 hm2 h1 na) na2).imp fun σ H Q ⟨H0, F, env, g, q⟩ => ⟨H0, F, env, g, q.seq fun d e1 F1 H1 s1 q1 v hv => by
    split at q1
    · rename_i j
      split at q1
      · rename_i hz
        have hz := of_decide_eq_true hz
        simp only [Rp] at hv
        subst hv
        refine ⟨j, rfl, RgOk.of_le (Int.le_refl _) hz.2 (by decide) hz.1, fun l hl => ?_⟩
        obtain ⟨g2, ap⟩ := s1.good.lay (o := .lst (rgV 0 j)) hl
        refine q1 F1 _ ⟨Same.refl _, EnvLe.refl _, g2, fun _ _ _ e => e⟩ _ ⟨l, _, rfl, ap, ?_⟩
        unfold rgL rgV
        rw [Int.sub_zero]
        exact rpl_rg _
      · exact q1.elim
    · exact q1.elim⟩
end
end DL
namespace DL.K04
open PySem L2
noncomputable def b_law_purse : Env → Out (Option (List D)) := (seqL (asgS (bin2 (pur2 ixF) (bin2 (pur2 addF) (cutA (nameD 0) (someO (nameD 1)) (someO (bin2 (pur2 addF) (nameD 1) (constD (.int 1))))) (heldD (lstF (consA (constD (.int 0)) nilA)))) (constD (.int 0))) (setD 2) [2]) (thenL (ifL (orT (valT (bin2 (pur2 geF) (nameD 2) (bin2 (pur2 powF) (constD (.int 10)) (constD (.int 18))))) (valT (bin2 (pur2 ltF) (nameD 2) (constD (.int 0))))) (thenL (retL (lstF (consA (callD max2F (consA (nameD 2) (consA (bin2 (pur2 subF) (un1 (pur1 negF) (constD (.int 1))) (nameD 2)) nilA))) (consA (constD (.int 0)) nilA)))) nilL) nilL) (thenL (retL (lstF (consA (constD (.int 0)) (consA (bin2 (pur2 addF) (constD (.int 1)) (bin2 (pur2 modF) (bin2 (pur2 addF) (bin2 (pur2 mulA) (nameD 2) (constD (.int 48271))) (bin2 (pur2 mulA) (bin2 (pur2 mulA) (bin2 (pur2 addF) (nameD 1) (constD (.int 1))) (constD (.int 69621))) (bin2 (pur2 addF) (nameD 1) (constD (.int 7))))) (constD (.int 2147483629)))) nilA)))) nilL)))
noncomputable def f_law_purse : List SV → Out (List D) := fnOfL 2 3 b_law_purse
noncomputable def b_is_name : Env → Out Fl := (seqS (ifS (orT (notT (valT (isiD (kbTy "str") (fun _ => none) (nameD 0)))) (notT (valT (chainD (pur2 leF) (pur2 leF) (constD (.int 1)) (callD (one lenF) (consA (nameD 0) nilA)) (constD (.int 8)))))) (seqS (retS (constD (.bl false)))
  nextS) nextS)
  (seqS (retS (callD (one allF) (consA (heldD (compF [1] (itA (nameD 0)) (setD 1) yesT (bin2 (pur2 (inF false)) (nameD 1) (constD (.str ("abcdefghijklmnopqrstuvwxyz" : Str)))))) nilA)))
  nextS))
noncomputable def f_is_name : List SV → Out D := fnOf 1 2 b_is_name
noncomputable def b_check_bells : Env → Out Fl := (seqS (ifS (orT (notT (valT (isiD (kbTy "tuple") (fun _ => none) (nameD 0)))) (notT (valT (chainD (pur2 leF) (pur2 leF) (constD (.int 1)) (callD (one lenF) (consA (nameD 0) nilA)) (constD (.int 12)))))) (seqS neverS
  nextS) nextS)
  (seqS (forS (itEA (consA (nameD 0) nilA)) (setTup 2 (setCons (setD 1) (setCons (setD 2) setNil))) ([1] ++ ([2] ++ [])) (seqS (ifS (orT (notT (valT (callS (fnCall K04.f_is_name) (posA []) (consRd (nameD 2) nilR) nilR))) (andT (valT (bin2 (pur2 gtF) (nameD 1) (constD (.int 0)))) (valT (bin2 (pur2 leA) (nameD 2) (bin2 (pur2 ixF) (nameD 0) (bin2 (pur2 subF) (nameD 1) (constD (.int 1)))))))) (seqS neverS
  nextS) nextS)
  nextS))
  nextS))
noncomputable def f_check_bells : List SV → Out D := fnOf 1 3 b_check_bells
noncomputable def b_is_wake : Env → Out Fl := (seqS (ifS (orT (notT (valT (isiD (kbTy "tuple") (fun _ => none) (nameD 0)))) (valT (bin2 (pur2 (eqF true)) (callD (one lenF) (consA (nameD 0) nilA)) (constD (.int 2))))) (seqS (retS (constD (.bl false)))
  nextS) nextS)
  (seqS (retS (callD (one allF) (consA (heldD (compF [2] (itA (nameD 0)) (setD 2) yesT (andD (callS (fnCall K04.f_is_name) (posA []) (consRd (nameD 2) nilR) nilR) (bin2 (pur2 (inF false)) (nameD 2) (nameD 1))))) nilA)))
  nextS))
noncomputable def f_is_wake : List SV → Out D := fnOf 2 3 b_is_wake
noncomputable def b_check_wakes : Env → Out Fl := (seqS (ifS (notT (valT (isiD (kbTy "tuple") (fun _ => none) (nameD 0)))) (seqS neverS
  nextS) nextS)
  (seqS (forS (itEA (consA (nameD 0) nilA)) (setTup 2 (setCons (setD 2) (setCons (setD 3) setNil))) ([2] ++ ([3] ++ [])) (seqS (ifS (orT (notT (valT (callS (fnCall K04.f_is_wake) (posA []) (consRd (nameD 3) (consRd (nameD 1) nilR)) nilR))) (andT (valT (bin2 (pur2 gtF) (nameD 2) (constD (.int 0)))) (valT (bin2 (pur2 leA) (nameD 3) (bin2 (pur2 ixF) (nameD 0) (bin2 (pur2 subF) (nameD 2) (constD (.int 1)))))))) (seqS neverS
  nextS) nextS)
  nextS))
  nextS))
noncomputable def f_check_wakes : List SV → Out D := fnOf 2 4 b_check_wakes
noncomputable def b_Web_init : Env → List (Str × D) → Out (List (Str × D)) := (seqN (doN (callS (fnCall K04.f_check_bells) (posA []) (consRd (nameD 1) nilR) nilR)) (seqN (doN (callS (fnCall K04.f_check_wakes) (posA []) (consRd (nameD 2) (consRd (nameD 1) nilR)) nilR)) (seqN (fldN ("bells" : Str) (nameD 1)) (seqN (fldN ("wakes" : Str) (nameD 2)) nilN))))
noncomputable def f_Web_init : List SV → Out (List (Str × D)) := fnN 3 3 b_Web_init
noncomputable def b_Web_turned : Env → Out Fl := (seqS (retS (callS (mkCall ("Web" : Str) K04.f_Web_init) kwA (consRd (fldD ("Web" : Str) ("bells" : Str) (nameD 0)) nilR) (consRd (callD (one tupleF) (consA (heldD (sortF (consA (heldD (compF [1, 2] (itA (fldD ("Web" : Str) ("wakes" : Str) (nameD 0))) (setTup 2 (setCons (setD 1) (setCons (setD 2) setNil))) yesT (tupD (consA (nameD 2) (consA (nameD 1) nilA))))) nilA))) nilA)) nilR)))
  nextS)
noncomputable def f_Web_turned : List SV → Out D := fnOf 1 3 b_Web_turned
noncomputable def b_law_take : Env → Out Fl := (seqS (ifS (valT (bin2 (pur2 (eqF false)) (ownIx 0 (constD (.int 1))) (constD (.int 0)))) (seqS (asgS (bin2 (pur2 modF) (ownIx 0 (constD (.int 0))) (nameD 1)) (setD 2) [2])
  (seqS (storeS 0 (constD (.int 0)) (bin2 (pur2 fdivF) (ownIx 0 (constD (.int 0))) (nameD 1)))
  (seqS (retS (nameD 2))
  nextS))) nextS)
  (seqS (storeS 0 (constD (.int 1)) (bin2 (pur2 addF) (constD (.int 1)) (bin2 (pur2 modF) (bin2 (pur2 addF) (bin2 (pur2 mulA) (ownIx 0 (constD (.int 1))) (constD (.int 39373))) (constD (.int 7919))) (constD (.int 2147483587)))))
  (seqS (retS (bin2 (pur2 modF) (bin2 (pur2 fdivF) (bin2 (pur2 modF) (bin2 (pur2 mulA) (ownIx 0 (constD (.int 1))) (constD (.int 30269))) (constD (.int 2147483563))) (constD (.int 11))) (nameD 1)))
  nextS)))
noncomputable def f_law_take : List SV → Out D := fnOf 2 3 b_law_take
noncomputable def b_law_calls : Env → Out Fl := (seqS (asgS (constD (.str ("abcdefghijklmnopqrstuvwxyz" : Str))) (setD 2) [2])
  (seqS (asgS (heldD (lstF (consA (constD (.str ("pull" : Str))) (consA (constD (.str ("put" : Str))) (consA (constD (.str ("strike" : Str))) (consA (constD (.str ("wake" : Str))) (consA (constD (.str ("unwake" : Str))) (consA (constD (.str ("back" : Str))) (consA (constD (.str ("web" : Str))) (consA (constD (.str ("pulls" : Str))) (consA (constD (.str ("heard" : Str))) (consA (constD (.str ("live" : Str))) (consA (constD (.str ("rung" : Str))) (consA (constD (.str ("can" : Str))) (consA (constD (.str ("most" : Str))) (consA (constD (.str ("end" : Str))) (consA (constD (.str ("round" : Str))) (consA (constD (.str ("paper" : Str))) (consA (constD (.str ("none" : Str))) (consA (constD (.str ("a" : Str))) (consA (constD (.str ("b" : Str))) (consA (constD (.str ("ab" : Str))) nilA)))))))))))))))))))))) (setD 3) [3])
  (seqS (parT [4, 5] (consMd (callS (fnCall K04.f_law_take) (posA []) (consRr 0 (consRd (constD (.int 20)) nilR)) nilR) (consMd (callS (fnCall K04.f_law_take) (posA []) (consRr 0 (consRd (constD (.int 4)) nilR)) nilR) nilM)))
  (seqS (ifS (valT (bin2 (pur2 (eqF false)) (nameD 5) (constD (.int 0)))) (seqS (retS (heldD (sortF (consA (heldD (compF [9] (itR1 (consA (nameD 1) nilA)) (setD 9) yesT (bin2 (pur2 ixF) (nameD 3) (bin2 (pur2 modF) (bin2 (pur2 addF) (nameD 4) (bin2 (pur2 mulA) (constD (.int 3)) (nameD 9))) (constD (.int 20)))))) nilA))))
  nextS) nextS)
  (seqS (asgS (joinD (constD (.str ("" : Str))) (heldD (compF [9] (itR1 (consA (callS (fnCall K04.f_law_take) (posA []) (consRr 0 (consRd (constD (.int 8)) nilR)) nilR) nilA)) (setD 9) yesT (bin2 (pur2 ixF) (nameD 2) (callS (fnCall K04.f_law_take) (posA []) (consRr 0 (consRd (constD (.int 26)) nilR)) nilR))))) (setD 6) [6])
  (seqS (parT [7, 8] (consMd (callS (fnCall K04.f_law_take) (posA []) (consRr 0 (consRd (bin2 (pur2 addF) (callD (one lenF) (consA (nameD 6) nilA)) (constD (.int 1))) nilR)) nilR) (consMd (callS (fnCall K04.f_law_take) (posA []) (consRr 0 (consRd (constD (.int 26)) nilR)) nilR) nilM)))
  (seqS (retS (heldD (sortF (consA (heldD (compF [9] (itR1 (consA (nameD 1) nilA)) (setD 9) yesT (bin2 (pur2 addF) (bin2 (pur2 addF) (cutA (nameD 6) noO (someO (nameD 7))) (bin2 (pur2 ixF) (nameD 2) (bin2 (pur2 modF) (bin2 (pur2 addF) (nameD 8) (bin2 (pur2 mulA) (constD (.int 5)) (nameD 9))) (constD (.int 26))))) (cutA (nameD 6) (someO (nameD 7)) noO)))) nilA))))
  nextS)))))))
noncomputable def f_law_calls : List SV → Out D := fnOf 2 10 b_law_calls
noncomputable def b_law_links : Env → Out Fl := (seqS (parS [2, 3, 4] (consMd (callS (fnCall K04.f_law_take) (posA []) (consRr 0 (consRd (constD (.int 8)) nilR)) nilR) (consMd (bin2 (pur2 addF) (constD (.int 1)) (callS (fnCall K04.f_law_take) (posA []) (consRr 0 (consRd (constD (.int 3)) nilR)) nilR)) (consMf (newL (lstF nilA)) nilM))))
  (seqS (forS (itEA (consA (nameD 1) nilA)) (setTup 2 (setCons (setD 5) (setCons (setD 6) setNil))) ([5] ++ ([6] ++ [])) (seqS (forS (itEA (consA (nameD 1) nilA)) (setTup 2 (setCons (setD 7) (setCons (setD 8) setNil))) ([7] ++ ([8] ++ [])) (seqS (parS [9, 10] (consMd (andD (bin2 (pur2 gtF) (nameD 2) (constD (.int 4))) (bin2 (pur2 ltF) (callS (fnCall K04.f_law_take) (posA []) (consRr 0 (consRd (constD (.int 6)) nilR)) nilR) (nameD 3))) (consMd (bin2 (pur2 (eqF false)) (bin2 (pur2 modF) (bin2 (pur2 addF) (nameD 5) (constD (.int 1))) (callD (one lenF) (consA (nameD 1) nilA))) (nameD 7)) nilM)))
  (seqS (asgS (orD (nameD 10) (bin2 (pur2 (eqF false)) (bin2 (pur2 modF) (bin2 (pur2 addF) (nameD 7) (constD (.int 1))) (callD (one lenF) (consA (nameD 1) nilA))) (nameD 5))) (setD 11) [11])
  (seqS (ifS (valT (bin2 (pur2 ixF) (heldD (lstF (consA (constD (.bl false)) (consA (nameD 10) (consA (nameD 11) (consA (bin2 (pur2 (eqF false)) (nameD 5) (nameD 7)) (consA (constD (.bl true)) (consA (nameD 9) (consA (nameD 9) (consA (orD (nameD 10) (nameD 9)) nilA)))))))))) (nameD 2))) (seqS (appS 4 (tupD (consA (nameD 6) (consA (nameD 8) nilA))))
  nextS) nextS)
  nextS))))
  nextS))
  (seqS (retS (nameD 4))
  nextS)))
noncomputable def f_law_links : List SV → Out D := fnOf 2 12 b_law_links
noncomputable def b_Web_eq : Env → Out Fl := (seqS (retS (andD (isiD (fun _ => none) (fun n => if n = ("Web" : Str) then some true else none) (nameD 1)) (andD (bin2 (pur2 (eqF false)) (fldD ("Web" : Str) ("bells" : Str) (nameD 0)) (fldD ("Web" : Str) ("bells" : Str) (nameD 1))) (bin2 (pur2 (eqF false)) (fldD ("Web" : Str) ("wakes" : Str) (nameD 0)) (fldD ("Web" : Str) ("wakes" : Str) (nameD 1))))))
  nextS)
noncomputable def f_Web_eq : List SV → Out D := fnOf 2 2 b_Web_eq
noncomputable def b_Web_only : Env → Out Fl := (seqS (ifS (orT (notT (valT (isiD (kbTy "tuple") (fun _ => none) (nameD 1)))) (notT (valT (chainD (pur2 leF) (pur2 leF) (constD (.int 1)) (callD (one lenF) (consA (nameD 1) nilA)) (constD (.int 12)))))) (seqS neverS
  nextS) nextS)
  (seqS (forS (itEA (consA (nameD 1) nilA)) (setTup 2 (setCons (setD 2) (setCons (setD 3) setNil))) ([2] ++ ([3] ++ [])) (seqS (ifS (orT (notT (valT (callS (fnCall K04.f_is_name) (posA []) (consRd (nameD 3) nilR) nilR))) (orT (valT (bin2 (pur2 (inF true)) (nameD 3) (fldD ("Web" : Str) ("bells" : Str) (nameD 0)))) (andT (valT (bin2 (pur2 gtF) (nameD 2) (constD (.int 0)))) (valT (bin2 (pur2 leA) (nameD 3) (bin2 (pur2 ixF) (nameD 1) (bin2 (pur2 subF) (nameD 2) (constD (.int 1))))))))) (seqS neverS
  nextS) nextS)
  nextS))
  (seqS (retS (callS (mkCall ("Web" : Str) K04.f_Web_init) kwA (consRd (nameD 1) nilR) (consRd (callD (one tupleF) (consA (heldD (compF [4] (itA (fldD ("Web" : Str) ("wakes" : Str) (nameD 0))) (setD 4) (andT (valT (bin2 (pur2 (inF false)) (bin2 (pur2 ixF) (nameD 4) (constD (.int 0))) (nameD 1))) (valT (bin2 (pur2 (inF false)) (bin2 (pur2 ixF) (nameD 4) (constD (.int 1))) (nameD 1)))) (nameD 4))) nilA)) nilR)))
  nextS)))
noncomputable def f_Web_only : List SV → Out D := fnOf 2 5 b_Web_only
noncomputable def b_law_some : Env → Out Fl := (seqS (asgS (heldD (compF [3] (itA (nameD 1)) (setD 3) (valT (bin2 (pur2 gtF) (callS (fnCall K04.f_law_take) (posA []) (consRr 0 (consRd (constD (.int 3)) nilR)) nilR) (constD (.int 0)))) (nameD 3))) (setD 2) [2])
  (seqS (retS (ifD (valT (bin2 (pur2 (eqF true)) (nameD 2) (heldD (lstF nilA)))) (nameD 2) (heldD (lstF (consA (bin2 (pur2 ixF) (nameD 1) (callS (fnCall K04.f_law_take) (posA []) (consRr 0 (consRd (callD (one lenF) (consA (nameD 1) nilA)) nilR)) nilR)) nilA)))))
  nextS))
noncomputable def f_law_some : List SV → Out D := fnOf 2 4 b_law_some
noncomputable def b_check_bell : Env → Out Fl := (seqS (ifS (orT (notT (valT (isiD (kbTy "str") (fun _ => none) (nameD 1)))) (valT (bin2 (pur2 (inF true)) (nameD 1) (fldD ("Web" : Str) ("bells" : Str) (nameD 0))))) (seqS neverS
  nextS) nextS)
  nextS)
noncomputable def f_check_bell : List SV → Out D := fnOf 2 2 b_check_bell
noncomputable def b_Web_wakers : Env → Out Fl := (seqS (dropS (callS (fnCall K04.f_check_bell) (posA []) (consRd (nameD 0) (consRd (nameD 1) nilR)) nilR))
  (seqS (retS (callD (one tupleF) (consA (heldD (compF [2, 3] (itA (fldD ("Web" : Str) ("wakes" : Str) (nameD 0))) (setTup 2 (setCons (setD 2) (setCons (setD 3) setNil))) (valT (bin2 (pur2 (eqF false)) (nameD 3) (nameD 1))) (nameD 2))) nilA)))
  nextS))
noncomputable def f_Web_wakers : List SV → Out D := fnOf 2 4 b_Web_wakers
noncomputable def b_Web_woken : Env → Out Fl := (seqS (dropS (callS (fnCall K04.f_check_bell) (posA []) (consRd (nameD 0) (consRd (nameD 1) nilR)) nilR))
  (seqS (retS (callD (one tupleF) (consA (heldD (compF [2, 3] (itA (fldD ("Web" : Str) ("wakes" : Str) (nameD 0))) (setTup 2 (setCons (setD 2) (setCons (setD 3) setNil))) (valT (bin2 (pur2 (eqF false)) (nameD 2) (nameD 1))) (nameD 3))) nilA)))
  nextS))
noncomputable def f_Web_woken : List SV → Out D := fnOf 2 4 b_Web_woken
noncomputable def b_law_sums_right : Env → Out Fl := (seqS (asgS (methS ("Web" : Str) ("turned" : Str) K04.f_Web_turned [] (nameD 0) nilR) (setD 1) [1])
  (seqS (ifS (orT (notT (valT (bin2 (eqA ("Web" : Str) K04.f_Web_eq false) (methS ("Web" : Str) ("turned" : Str) K04.f_Web_turned [] (nameD 1) nilR) (nameD 0)))) (orT (valT (bin2 (eqA ("Web" : Str) K04.f_Web_eq true) (methS ("Web" : Str) ("turned" : Str) K04.f_Web_turned [] (nameD 1) nilR) (nameD 0))) (valT (bin2 (eqA ("Web" : Str) K04.f_Web_eq true) (methS ("Web" : Str) ("only" : Str) K04.f_Web_only [] (nameD 0) (consRd (fldD ("Web" : Str) ("bells" : Str) (nameD 0)) nilR)) (nameD 0))))) (seqS (retS (constD (.bl false)))
  nextS) nextS)
  (seqS (forS (itA (fldD ("Web" : Str) ("bells" : Str) (nameD 0))) (setD 2) [2] (seqS (ifS (orT (valT (bin2 (pur2 (eqF true)) (methS ("Web" : Str) ("woken" : Str) K04.f_Web_woken [] (nameD 0) (consRd (nameD 2) nilR)) (methS ("Web" : Str) ("wakers" : Str) K04.f_Web_wakers [] (nameD 1) (consRd (nameD 2) nilR)))) (valT (bin2 (pur2 (eqF true)) (methS ("Web" : Str) ("wakers" : Str) K04.f_Web_wakers [] (nameD 0) (consRd (nameD 2) nilR)) (methS ("Web" : Str) ("woken" : Str) K04.f_Web_woken [] (nameD 1) (consRd (nameD 2) nilR))))) (seqS (retS (constD (.bl false)))
  nextS) nextS)
  (seqS (ifS (notT (valT (callD (one allF) (consA (heldD (compF [5] (itA (methS ("Web" : Str) ("woken" : Str) K04.f_Web_woken [] (nameD 0) (consRd (nameD 2) nilR))) (setD 5) yesT (bin2 (pur2 (inF false)) (nameD 2) (methS ("Web" : Str) ("wakers" : Str) K04.f_Web_wakers [] (nameD 0) (consRd (nameD 5) nilR))))) nilA)))) (seqS (retS (constD (.bl false)))
  nextS) nextS)
  (seqS (ifS (notT (valT (callD (one allF) (consA (heldD (compF [5] (itA (methS ("Web" : Str) ("wakers" : Str) K04.f_Web_wakers [] (nameD 0) (consRd (nameD 2) nilR))) (setD 5) yesT (bin2 (pur2 (inF false)) (nameD 2) (methS ("Web" : Str) ("woken" : Str) K04.f_Web_woken [] (nameD 0) (consRd (nameD 5) nilR))))) nilA)))) (seqS (retS (constD (.bl false)))
  nextS) nextS)
  (seqS (asgS (callD (one int1F) (consA (bin2 (pur2 (inF false)) (tupD (consA (nameD 2) (consA (nameD 2) nilA))) (fldD ("Web" : Str) ("wakes" : Str) (nameD 0))) nilA)) (setD 4) [4])
  (seqS (ifS (orT (valT (bin2 (pur2 (eqF true)) (callD (one lenF) (consA (fldD ("Web" : Str) ("wakes" : Str) (methS ("Web" : Str) ("only" : Str) K04.f_Web_only [] (nameD 0) (consRd (tupD (consA (nameD 2) nilA)) nilR))) nilA)) (nameD 4))) (valT (bin2 (pur2 (eqF true)) (bin2 (pur2 (inF false)) (nameD 2) (methS ("Web" : Str) ("woken" : Str) K04.f_Web_woken [] (nameD 0) (consRd (nameD 2) nilR))) (bin2 (pur2 (eqF false)) (nameD 4) (constD (.int 1)))))) (seqS (retS (constD (.bl false)))
  nextS) nextS)
  nextS))))))
  (seqS (asgS (heldD (lstF (consA (callD (one sumF) (consA (heldD (compF [2] (itA (fldD ("Web" : Str) ("bells" : Str) (nameD 0))) (setD 2) yesT (callD (one lenF) (consA (methS ("Web" : Str) ("woken" : Str) K04.f_Web_woken [] (nameD 0) (consRd (nameD 2) nilR)) nilA)))) nilA)) (consA (callD (one sumF) (consA (heldD (compF [2] (itA (fldD ("Web" : Str) ("bells" : Str) (nameD 0))) (setD 2) yesT (callD (one lenF) (consA (methS ("Web" : Str) ("wakers" : Str) K04.f_Web_wakers [] (nameD 0) (consRd (nameD 2) nilR)) nilA)))) nilA)) nilA)))) (setD 3) [3])
  (seqS (retS (bin2 (pur2 (eqF false)) (nameD 3) (bin2 (pur2 mulA) (heldD (lstF (consA (callD (one lenF) (consA (fldD ("Web" : Str) ("wakes" : Str) (nameD 0)) nilA)) nilA))) (constD (.int 2)))))
  nextS)))))
noncomputable def f_law_sums_right : List SV → Out D := fnOf 1 6 b_law_sums_right
noncomputable def b_law_parts_right : Env → Out Fl := (seqS (asgS (callS (fnCall K04.f_law_some) (posA []) (consRr 0 (consRd (heldD (listF (consA (fldD ("Web" : Str) ("bells" : Str) (nameD 1)) nilA))) nilR)) nilR) (setD 2) [2])
  (seqS (asgS (callS (fnCall K04.f_law_some) (posA []) (consRr 0 (consRd (nameD 2) nilR)) nilR) (setD 3) [3])
  (seqS (asgS (heldD (compF [8] (itA (fldD ("Web" : Str) ("bells" : Str) (nameD 1))) (setD 8) (valT (bin2 (pur2 (inF true)) (nameD 8) (nameD 2))) (nameD 8))) (setD 4) [4])
  (seqS (asgS (methS ("Web" : Str) ("only" : Str) K04.f_Web_only [] (nameD 1) (consRd (callD (one tupleF) (consA (nameD 2) nilA)) nilR)) (setD 5) [5])
  (seqS (ifS (orT (valT (bin2 (eqA ("Web" : Str) K04.f_Web_eq true) (methS ("Web" : Str) ("only" : Str) K04.f_Web_only [] (nameD 5) (consRd (callD (one tupleF) (consA (nameD 3) nilA)) nilR)) (methS ("Web" : Str) ("only" : Str) K04.f_Web_only [] (nameD 1) (consRd (callD (one tupleF) (consA (nameD 3) nilA)) nilR)))) (valT (bin2 (eqA ("Web" : Str) K04.f_Web_eq true) (methS ("Web" : Str) ("turned" : Str) K04.f_Web_turned [] (nameD 5) nilR) (methS ("Web" : Str) ("only" : Str) K04.f_Web_only [] (methS ("Web" : Str) ("turned" : Str) K04.f_Web_turned [] (nameD 1) nilR) (consRd (callD (one tupleF) (consA (nameD 2) nilA)) nilR))))) (seqS (retS (constD (.bl false)))
  nextS) nextS)
  (seqS (asgS (heldD (compF [9] (itA (fldD ("Web" : Str) ("wakes" : Str) (nameD 1))) (setD 9) (valT (bin2 (pur2 (eqF true)) (bin2 (pur2 (inF false)) (bin2 (pur2 ixF) (nameD 9) (constD (.int 0))) (nameD 2)) (bin2 (pur2 (inF false)) (bin2 (pur2 ixF) (nameD 9) (constD (.int 1))) (nameD 2)))) (nameD 9))) (setD 6) [6])
  (seqS (asgS (heldD (lstF nilA)) (setD 7) [7])
  (seqS (ifS (valT (bin2 (pur2 (eqF true)) (nameD 4) (heldD (lstF nilA)))) (seqS (asgS (heldD (listF (consA (fldD ("Web" : Str) ("wakes" : Str) (methS ("Web" : Str) ("only" : Str) K04.f_Web_only [] (nameD 1) (consRd (callD (one tupleF) (consA (nameD 4) nilA)) nilR))) nilA))) (setD 7) [7])
  nextS) nextS)
  (seqS (retS (andD (bin2 (pur2 (eqF false)) (callD (one tupleF) (consA (heldD (sortF (consA (bin2 (pur2 addF) (bin2 (pur2 addF) (heldD (listF (consA (fldD ("Web" : Str) ("wakes" : Str) (nameD 5)) nilA))) (nameD 7)) (nameD 6)) nilA))) nilA)) (fldD ("Web" : Str) ("wakes" : Str) (nameD 1))) (callS (fnCall K04.f_law_sums_right) (posA []) (consRd (nameD 5) nilR) nilR)))
  nextS)))))))))
noncomputable def f_law_parts_right : List SV → Out D := fnOf 2 10 b_law_parts_right
noncomputable def b_law_size : Env → Out Fl := (seqS (retS (bin2 (pur2 ixF) (heldD (lstF (consA (bin2 (pur2 addF) (constD (.int 1)) (callS (fnCall K04.f_law_take) (posA []) (consRr 0 (consRd (nameD 1) nilR)) nilR)) (consA (constD (.int 12)) nilA)))) (callD (one int1F) (consA (bin2 (pur2 (eqF false)) (callS (fnCall K04.f_law_take) (posA []) (consRr 0 (consRd (constD (.int 8)) nilR)) nilR) (constD (.int 3))) nilA))))
  nextS)
noncomputable def f_law_size : List SV → Out D := fnOf 2 2 b_law_size
noncomputable def b_law_web : Env → Out Fl := (seqS (retS (callS (mkCall ("Web" : Str) K04.f_Web_init) kwA (consRd (callD (one tupleF) (consA (nameD 0) nilA)) nilR) (consRd (callD (one tupleF) (consA (nameD 1) nilA)) nilR)))
  nextS)
noncomputable def f_law_web : List SV → Out D := fnOf 2 2 b_law_web
noncomputable def b_law_right : Env → Out Fl := (seqS (asgS (callS (fnCall K04.f_law_calls) (posA []) (consRr 0 (consRd (callS (fnCall K04.f_law_size) (posA []) (consRr 0 (consRd (constD (.int 7)) nilR)) nilR) nilR)) nilR) (setD 1) [1])
  (seqS (asgS (callS (fnCall K04.f_law_web) (posA []) (consRd (nameD 1) (consRd (callS (fnCall K04.f_law_links) (posA []) (consRr 0 (consRd (nameD 1) nilR)) nilR) nilR)) nilR) (setD 2) [2])
  (seqS (ifS (notT (valT (callD (one allF) (consA (heldD (compF [3] (itR1 (consA (constD (.int 4)) nilA)) (setD 3) yesT (callS (fnCall K04.f_law_parts_right) (posA []) (consRr 0 (consRd (nameD 2) nilR)) nilR))) nilA)))) (seqS (retS (constD (.bl false)))
  nextS) nextS)
  (seqS (retS (andD (callS (fnCall K04.f_law_sums_right) (posA []) (consRd (nameD 2) nilR) nilR) (callS (fnCall K04.f_law_sums_right) (posA []) (consRd (methS ("Web" : Str) ("turned" : Str) K04.f_Web_turned [] (nameD 2) nilR) nilR) nilR)))
  nextS))))
noncomputable def f_law_right : List SV → Out D := fnOf 1 4 b_law_right
noncomputable def b_law : Env → Out Fl := (seqS (retS (callD (one allF) (consA (heldD (compF [1] (itR1 (consA (callD max2F (consA (constD (.int 2)) (consA (callD min2F (consA (callD (one lenF) (consA (nameD 0) nilA)) (consA (constD (.int 8)) nilA))) nilA))) nilA)) (setD 1) yesT (callFS K04.f_law_right (newL (callLS K04.f_law_purse (consRd (nameD 0) (consRd (nameD 1) nilR)))) nilR))) nilA)))
  nextS)
noncomputable def f_law : List SV → Out D := fnOf 1 2 b_law
end DL.K04
namespace DL.K14
open PySem L2
noncomputable def b_law_cell : Env → Out Fl := (seqS (ifS (valT (bin2 (pur2 ltF) (nameD 1) (callD (one lenF) (consA (nameD 0) nilA)))) (seqS (retS (bin2 (pur2 ixA) (nameD 0) (nameD 1)))
  nextS) nextS)
  (seqS (asgS (bin2 (pur2 modF) (bin2 (pur2 mulA) (constD (.int 80021)) (bin2 (pur2 addF) (bin2 (pur2 addF) (bin2 (pur2 mulA) (nameD 1) (nameD 1)) (bin2 (pur2 mulA) (constD (.int 7)) (nameD 1))) (constD (.int 3)))) (constD (.int 1000000123))) (setD 2) [2])
  (seqS (forS (itA (cutA (nameD 0) noO (someO (constD (.int 3))))) (setD 3) [3] (seqS (asgS (bin2 (pur2 modF) (bin2 (pur2 addF) (bin2 (pur2 mulA) (nameD 2) (constD (.int 50021))) (nameD 3)) (constD (.int 1000000123))) (setD 2) [2])
  nextS))
  (seqS (retS (nameD 2))
  nextS))))
noncomputable def f_law_cell : List SV → Out D := fnOf 2 4 b_law_cell
noncomputable def b_law_purse : Env → Out (Option (List D)) := (seqL (asgS (ifD (orT (valT (bin2 (pur2 ltF) (nameD 0) (constD (.int 0)))) (valT (bin2 (pur2 geF) (nameD 0) (bin2 (pur2 powF) (constD (.int 10)) (constD (.int 18)))))) (callD (one absF) (consA (nameD 0) nilA)) (constD (.int 0))) (setD 1) [1]) (thenL (retL (lstF (consA (nameD 1) (consA (bin2 (pur2 addF) (bin2 (pur2 mulA) (bin2 (pur2 modF) (nameD 0) (constD (.int 1000000123))) (constD (.int 7001))) (constD (.int 3007))) (consA (constD (.int 0)) nilA))))) nilL))
noncomputable def f_law_purse : List SV → Out (List D) := fnOfL 1 2 b_law_purse
noncomputable def b_law_draw : Env → Out Fl := (seqS (storeS 0 (constD (.int 2)) (bin2 (pur2 addF) (ownIx 0 (constD (.int 2))) (constD (.int 1))))
  (seqS (ifS (valT (bin2 (pur2 gtF) (ownIx 0 (constD (.int 0))) (constD (.int 0)))) (seqS (splitS 0 3 (callD divF (consA (ownIx 0 (constD (.int 0))) (consA (nameD 1) nilA))) (constD (.int 0)))
  (seqS (retS (nameD 3))
  nextS)) nextS)
  (seqS (asgS (bin2 (pur2 modF) (ownIx 0 (constD (.int 1))) (constD (.int 1000000123))) (setD 2) [2])
  (seqS (storeS 0 (constD (.int 1)) (bin2 (pur2 addF) (bin2 (pur2 mulA) (nameD 2) (bin2 (pur2 addF) (bin2 (pur2 modF) (nameD 2) (constD (.int 48017))) (constD (.int 20011)))) (bin2 (pur2 mulA) (constD (.int 90001)) (ownIx 0 (constD (.int 2))))))
  (seqS (retS (bin2 (pur2 modF) (bin2 (pur2 fdivF) (bin2 (pur2 modF) (ownIx 0 (constD (.int 1))) (constD (.int 1000000123))) (constD (.int 16))) (nameD 1)))
  nextS)))))
noncomputable def f_law_draw : List SV → Out D := fnOf 2 4 b_law_draw
noncomputable def b_check_row : Env → Out Fl := (seqS (ifS (orT (notT (valT (isiD (kbTy "tuple") (fun _ => none) (nameD 1)))) (valT (bin2 (pur2 gtF) (callD (one lenF) (consA (nameD 1) nilA)) (constD (.int 400))))) (seqS neverS
  nextS) nextS)
  (seqS (forS (itEA (consA (nameD 1) nilA)) (setTup 2 (setCons (setD 2) (setCons (setD 3) setNil))) ([2] ++ ([3] ++ [])) (seqS (ifS (orT (notT (valT (isiD (kbTy "str") (fun _ => none) (nameD 3)))) (valT (bin2 (pur2 (inF true)) (nameD 3) (fldD ("Web" : Str) ("bells" : Str) (nameD 0))))) (seqS neverS
  nextS) nextS)
  nextS))
  nextS))
noncomputable def f_check_row : List SV → Out D := fnOf 2 4 b_check_row
noncomputable def b_check_web : Env → Out Fl := (seqS (ifS (notT (valT (isiD (fun _ => none) (fun n => if n = ("Web" : Str) then some true else none) (nameD 0)))) (seqS neverS
  nextS) nextS)
  nextS)
noncomputable def f_check_web : List SV → Out D := fnOf 1 1 b_check_web
noncomputable def b_is_lot : Env → Out Fl := (seqS (ifS (orT (notT (valT (isiD (kbTy "tuple") (fun _ => none) (nameD 1)))) (notT (valT (callD (one allF) (consA (heldD (compF [3] (itA (nameD 1)) (setD 3) yesT (andD (isiD (kbTy "str") (fun _ => none) (nameD 3)) (bin2 (pur2 (inF false)) (nameD 3) (fldD ("Web" : Str) ("bells" : Str) (nameD 0)))))) nilA))))) (seqS (retS (constD (.bl false)))
  nextS) nextS)
  (seqS (retS (callD (one allF) (consA (heldD (compF [2] (itR1 (consA (bin2 (pur2 subF) (callD (one lenF) (consA (nameD 1) nilA)) (constD (.int 1))) nilA)) (setD 2) yesT (bin2 (pur2 ltF) (bin2 (pur2 ixA) (nameD 1) (nameD 2)) (bin2 (pur2 ixF) (nameD 1) (bin2 (pur2 addF) (nameD 2) (constD (.int 1))))))) nilA)))
  nextS))
noncomputable def f_is_lot : List SV → Out D := fnOf 2 4 b_is_lot
noncomputable def b_stand_of : Env → Out Fl := (seqS (ifS (valT (bin2 (pur2 (isF false)) (nameD 1) (constD .non))) (seqS (retS (fldD ("Web" : Str) ("bells" : Str) (nameD 0)))
  nextS) nextS)
  (seqS (ifS (notT (valT (callS (fnCall K14.f_is_lot) (posA []) (consRd (nameD 0) (consRd (nameD 1) nilR)) nilR))) (seqS neverS
  nextS) nextS)
  (seqS (retS (nameD 1))
  nextS)))
noncomputable def f_stand_of : List SV → Out D := fnOf 2 2 b_stand_of
noncomputable def b_rung : Env → Out Fl := (seqS (storeA 0 (nameD 2) (constD (.bl false)))
  (seqS (forS (itA (bin2 (pur2 ixA) (nameD 1) (nameD 2))) (setD 3) [3] (seqS (storeA 0 (nameD 3) (constD (.bl true)))
  nextS))
  nextS))
noncomputable def f_rung : List SV → Out D := fnOf 3 4 b_rung
noncomputable def f_wakes_of : List SV → Out D := wakesF false
noncomputable def b_walked : Env → Out Fl := (seqS (parS [3, 4] (consMd (callS (fnCall K14.f_wakes_of) (posA []) (consRd (nameD 0) nilR) nilR) (consMf (newL (lstF nilA)) nilM)))
  (seqS (asgOV 5 (dcF [6] (itA (fldD ("Web" : Str) ("bells" : Str) (nameD 0))) (setD 6) yesT (nameD 6) (bin2 (pur2 (inF false)) (nameD 6) (nameD 2))))
  (seqS (forS (itA (nameD 1)) (setD 6) [6] (seqS (appS 4 (ownIxA 5 (nameD 6)))
  (seqS (ifS (valT (ownIxA 5 (nameD 6))) (seqS (dropS (callS (fnCall K14.f_rung) (posA []) (consRr 5 (consRd (nameD 3) (consRd (nameD 6) nilR))) nilR))
  nextS) nextS)
  nextS)))
  (seqS (retS (tupD (consA (nameD 4) (consA (nameD 5) nilA))))
  nextS))))
noncomputable def f_walked : List SV → Out D := fnOf 3 7 b_walked
noncomputable def b_behind : Env → Out Fl := (seqS (dropS (callS (fnCall K14.f_check_web) (posA []) (consRd (nameD 0) nilR) nilR))
  (seqS (dropS (callS (fnCall K14.f_check_row) (posA []) (consRd (nameD 0) (consRd (nameD 1) nilR)) nilR))
  (seqS (asgS (callS (fnCall K14.f_walked) (posA []) (consRd (nameD 0) (consRd (nameD 1) (consRd (callS (fnCall K14.f_stand_of) (posA []) (consRd (nameD 0) (consRd (nameD 2) nilR)) nilR) nilR))) nilR) (setTup 2 (setCons (setD 3) (setCons (setD 4) setNil))) ([3] ++ ([4] ++ [])))
  (seqS (retS (callD (one tupleF) (consA (heldD (compF [5] (itA (fldD ("Web" : Str) ("bells" : Str) (nameD 0))) (setD 5) (valT (bin2 (pur2 ixA) (nameD 4) (nameD 5))) (nameD 5))) nilA)))
  nextS))))
noncomputable def f_behind : List SV → Out D := fnOf 3 6 b_behind
noncomputable def b_marks : Env → Out Fl := (seqS (dropS (callS (fnCall K14.f_check_web) (posA []) (consRd (nameD 0) nilR) nilR))
  (seqS (dropS (callS (fnCall K14.f_check_row) (posA []) (consRd (nameD 0) (consRd (nameD 1) nilR)) nilR))
  (seqS (asgS (callS (fnCall K14.f_walked) (posA []) (consRd (nameD 0) (consRd (nameD 1) (consRd (callS (fnCall K14.f_stand_of) (posA []) (consRd (nameD 0) (consRd (nameD 2) nilR)) nilR) nilR))) nilR) (setTup 2 (setCons (setD 3) (setCons (setD 4) setNil))) ([3] ++ ([4] ++ [])))
  (seqS (retS (callD (one tupleF) (consA (nameD 3) nilA)))
  nextS))))
noncomputable def f_marks : List SV → Out D := fnOf 3 5 b_marks
noncomputable def b_law_less_right : Env → Out Fl := (seqS (parS [4, 5] (consMd (callS (fnCall K14.f_marks) kwA (consRd (nameD 0) (consRd (nameD 1) nilR)) (consRd (nameD 2) nilR)) (consMd (callS (fnCall K14.f_marks) kwA (consRd (nameD 0) (consRd (nameD 1) nilR)) (consRd (nameD 3) nilR)) nilM)))
  (seqS (ifS (valT (callD (one anyF) (consA (heldD (compF [7, 8] (itZA (consA (nameD 4) (consA (nameD 5) nilA))) (setTup 2 (setCons (setD 7) (setCons (setD 8) setNil))) yesT (andD (nameD 7) (notD (nameD 8))))) nilA))) (seqS (retS (constD (.bl false)))
  nextS) nextS)
  (seqS (asgS (callS (fnCall K14.f_behind) kwA (consRd (nameD 0) (consRd (nameD 1) nilR)) (consRd (nameD 3) nilR)) (setD 6) [6])
  (seqS (retS (callD (one allF) (consA (heldD (compF [9] (itA (callS (fnCall K14.f_behind) kwA (consRd (nameD 0) (consRd (nameD 1) nilR)) (consRd (nameD 2) nilR))) (setD 9) yesT (bin2 (pur2 (inF false)) (nameD 9) (nameD 6)))) nilA)))
  nextS))))
noncomputable def f_law_less_right : List SV → Out D := fnOf 4 10 b_law_less_right
noncomputable def b_law_links : Env → Out Fl := (seqS (parS [2, 3] (consMd (callS (fnCall K14.f_law_draw) (posA []) (consRr 0 (consRd (constD (.int 9)) nilR)) nilR) (consMf (newL (lstF nilA)) nilM)))
  (seqS (asgS (bin2 (pur2 ixF) (heldD (lstF (consA (constD (.int 3)) (consA (constD (.int 2)) (consA (constD (.int 6)) (consA (constD (.int 4)) (consA (constD (.int 2)) (consA (constD (.int 5)) (consA (constD (.int 1)) (consA (constD (.int 3)) (consA (constD (.int 4)) nilA))))))))))) (nameD 2)) (setD 4) [4])
  (seqS (forS (itR1 (consA (callD (one lenF) (consA (nameD 1) nilA)) nilA)) (setD 5) [5] (seqS (forS (itR1 (consA (callD (one lenF) (consA (nameD 1) nilA)) nilA)) (setD 6) [6] (seqS (asgS (bin2 (pur2 (eqF false)) (callS (fnCall K14.f_law_draw) (posA []) (consRr 0 (consRd (nameD 4) nilR)) nilR) (constD (.int 0))) (setD 7) [7])
  (seqS (parS [8, 9] (consMd (bin2 (pur2 (eqF false)) (nameD 5) (nameD 6)) (consMd (andD (bin2 (pur2 (inF false)) (nameD 2) (heldD (lstF (consA (constD (.int 2)) (consA (constD (.int 3)) (consA (constD (.int 7)) nilA)))))) (bin2 (pur2 (eqF false)) (bin2 (pur2 modF) (bin2 (pur2 addF) (nameD 5) (constD (.int 1))) (callD (one lenF) (consA (nameD 1) nilA))) (nameD 6))) nilM)))
  (seqS (asgS (bin2 (pur2 ixF) (heldD (lstF (consA (constD (.bl true)) (consA (constD (.bl true)) (consA (constD (.bl true)) (consA (constD (.bl false)) (consA (bin2 (pur2 ltF) (nameD 5) (nameD 6)) (consA (constD (.bl true)) (consA (notD (nameD 8)) (consA (nameD 8) (consA (constD (.bl false)) nilA))))))))))) (nameD 2)) (setD 10) [10])
  (seqS (ifS (orT (valT (nameD 9)) (orT (andT (valT (bin2 (pur2 (eqF false)) (nameD 2) (constD (.int 5)))) (valT (nameD 8))) (andT (valT (nameD 7)) (valT (nameD 10))))) (seqS (appS 3 (tupD (consA (bin2 (pur2 ixA) (nameD 1) (nameD 5)) (consA (bin2 (pur2 ixA) (nameD 1) (nameD 6)) nilA))))
  nextS) nextS)
  nextS)))))
  nextS))
  (seqS (retS (callD (one tupleF) (consA (nameD 3) nilA)))
  nextS))))
noncomputable def f_law_links : List SV → Out D := fnOf 2 11 b_law_links
noncomputable def b_law_names : Env → Out Fl := (seqS (asgS (heldD (lstF (consA (constD (.str ("pull" : Str))) (consA (constD (.str ("put" : Str))) (consA (constD (.str ("strike" : Str))) (consA (constD (.str ("wake" : Str))) (consA (constD (.str ("unwake" : Str))) (consA (constD (.str ("back" : Str))) (consA (constD (.str ("web" : Str))) (consA (constD (.str ("heard" : Str))) (consA (constD (.str ("live" : Str))) (consA (constD (.str ("rung" : Str))) (consA (constD (.str ("can" : Str))) nilA))))))))))))) (setD 2) [2])
  (seqS (asgS (bin2 (pur2 addF) (nameD 2) (heldD (lstF (consA (constD (.str ("most" : Str))) (consA (constD (.str ("end" : Str))) nilA))))) (setD 2) [2])
  (seqS (parT [3, 4] (consMd (callS (fnCall K14.f_law_draw) (posA []) (consRr 0 (consRd (constD (.int 13)) nilR)) nilR) (consMd (bin2 (pur2 ixF) (heldD (lstF (consA (constD (.int 1)) (consA (constD (.int 5)) (consA (constD (.int 7)) (consA (constD (.int 11)) nilA)))))) (callS (fnCall K14.f_law_draw) (posA []) (consRr 0 (consRd (constD (.int 4)) nilR)) nilR)) nilM)))
  (seqS (ifS (valT (bin2 (pur2 (eqF false)) (callS (fnCall K14.f_law_draw) (posA []) (consRr 0 (consRd (constD (.int 4)) nilR)) nilR) (constD (.int 1)))) (seqS (retS (callD (one tupleF) (consA (heldD (sortF (consA (heldD (compF [9] (itR1 (consA (nameD 1) nilA)) (setD 9) yesT (bin2 (pur2 ixF) (nameD 2) (bin2 (pur2 modF) (bin2 (pur2 addF) (nameD 3) (bin2 (pur2 mulA) (nameD 4) (nameD 9))) (constD (.int 13)))))) nilA))) nilA)))
  nextS) nextS)
  (seqS (asgS (constD (.str ("abcdefghijklmnopqrstuvwxyz" : Str))) (setD 5) [5])
  (seqS (asgS (joinD (constD (.str ("" : Str))) (heldD (compF [9] (itR1 (consA (callS (fnCall K14.f_law_draw) (posA []) (consRr 0 (consRd (constD (.int 8)) nilR)) nilR) nilA)) (setD 9) yesT (bin2 (pur2 ixF) (nameD 5) (callS (fnCall K14.f_law_draw) (posA []) (consRr 0 (consRd (constD (.int 26)) nilR)) nilR))))) (setD 6) [6])
  (seqS (parS [7, 8] (consMd (callS (fnCall K14.f_law_draw) (posA []) (consRr 0 (consRd (bin2 (pur2 addF) (callD (one lenF) (consA (nameD 6) nilA)) (constD (.int 1))) nilR)) nilR) (consMf (newL (lstF nilA)) nilM)))
  (seqS (forS (itR1 (consA (nameD 1) nilA)) (setD 9) [9] (seqS (asgS (bin2 (pur2 ixF) (nameD 5) (bin2 (pur2 modF) (bin2 (pur2 addF) (bin2 (pur2 mulA) (constD (.int 2)) (nameD 3)) (bin2 (pur2 mulA) (nameD 4) (nameD 9))) (constD (.int 26)))) (setD 10) [10])
  (seqS (appS 8 (bin2 (pur2 addF) (bin2 (pur2 addF) (cutA (nameD 6) noO (someO (nameD 7))) (nameD 10)) (cutA (nameD 6) (someO (nameD 7)) noO)))
  nextS)))
  (seqS (retS (callD (one tupleF) (consA (heldD (sortF (consA (nameD 8) nilA))) nilA)))
  nextS)))))))))
noncomputable def f_law_names : List SV → Out D := fnOf 2 11 b_law_names
noncomputable def b_law_walk : Env → Out Fl := (seqS (parT [3, 4] (consMf (newL (listF (consA (nameD 2) nilA))) (consMf (newL (lstF nilA)) nilM)))
  (seqS (forS (itA (nameD 1)) (setD 5) [5] (seqS (appS 4 (ownIn false 3 (nameD 5)))
  (seqS (ifS (valT (ownIn false 3 (nameD 5))) (seqS (remS 3 (nameD 5))
  (seqS (asgOS 3 (catF (nameD 3) (heldD (compF [6] (itA (nameD 0)) (setD 6) (andT (valT (bin2 (pur2 (eqF false)) (bin2 (pur2 ixF) (nameD 6) (constD (.int 0))) (nameD 5))) (valT (ownIn true 3 (bin2 (pur2 ixF) (nameD 6) (constD (.int 1)))))) (bin2 (pur2 ixF) (nameD 6) (constD (.int 1)))))))
  nextS)) nextS)
  nextS)))
  (seqS (retS (heldD (lstF (consA (callD (one tupleF) (consA (nameD 4) nilA)) (consA (callD (one tupleF) (consA (heldD (sortF (consA (nameD 3) nilA))) nilA)) nilA)))))
  nextS)))
noncomputable def f_law_walk : List SV → Out D := fnOf 3 7 b_law_walk
noncomputable def b_law_pulls : Env → Out Fl := (seqS (parS [5, 6] (consMf (newL (lstF nilA)) (consMd (heldD (listF (consA (nameD 3) nilA))) nilM)))
  (seqS (forS (itR1 (consA (callS (fnCall K14.f_law_draw) (posA []) (consRr 0 (consRd (bin2 (pur2 addF) (nameD 4) (constD (.int 1))) nilR)) nilR) nilA)) (setD 7) [7] (seqS (asgS (ifD (andT (valT (bin2 (pur2 (eqF true)) (nameD 6) (heldD (lstF nilA)))) (valT (bin2 (pur2 gtF) (callS (fnCall K14.f_law_draw) (posA []) (consRr 0 (consRd (constD (.int 3)) nilR)) nilR) (constD (.int 0))))) (nameD 6) (heldD (listF (consA (nameD 1) nilA)))) (setD 8) [8])
  (seqS (appS 5 (bin2 (pur2 ixF) (nameD 8) (callS (fnCall K14.f_law_draw) (posA []) (consRr 0 (consRd (callD (one lenF) (consA (nameD 8) nilA)) nilR)) nilR)))
  (seqS (asgS (heldD (listF (consA (bin2 (pur2 ixF) (callS (fnCall K14.f_law_walk) (posA []) (consRd (nameD 2) (consRd (heldD (ownCut 5 (someO (un1 (pur1 negF) (constD (.int 1)))) noO)) (consRd (nameD 6) nilR))) nilR) (constD (.int 1))) nilA))) (setD 6) [6])
  nextS))))
  (seqS (retS (callD (one tupleF) (consA (nameD 5) nilA)))
  nextS)))
noncomputable def f_law_pulls : List SV → Out D := fnOf 5 9 b_law_pulls
noncomputable def b_law_together : Env → Out Fl := (seqS (retS (callD (one tupleF) (consA (heldD (compF [2] (itA (nameD 0)) (setD 2) (valT (callD (one anyF) (consA (heldD (compF [3] (itA (nameD 1)) (setD 3) yesT (bin2 (pur2 (inF false)) (nameD 2) (nameD 3)))) nilA))) (nameD 2))) nilA)))
  nextS)
noncomputable def f_law_together : List SV → Out D := fnOf 2 4 b_law_together
noncomputable def b_law_put_right : Env → Out Fl := (seqS (asgS (callS (fnCall K14.f_law_together) (posA []) (consRd (nameD 1) (consRd (nameD 3) nilR)) nilR) (setD 4) [4])
  (seqS (asgS (heldD (compF [7] (itR1 (consA (callD (one lenF) (consA (nameD 2) nilA)) nilA)) (setD 7) yesT (callD (one anyF) (consA (heldD (compF [8] (itA (nameD 3)) (setD 8) yesT (bin2 (pur2 ixF) (callS (fnCall K14.f_marks) kwA (consRd (nameD 0) (consRd (nameD 2) nilR)) (consRd (nameD 8) nilR)) (nameD 7)))) nilA)))) (setD 5) [5])
  (seqS (ifS (valT (bin2 (pur2 (eqF true)) (callS (fnCall K14.f_marks) kwA (consRd (nameD 0) (consRd (nameD 2) nilR)) (consRd (nameD 4) nilR)) (callD (one tupleF) (consA (nameD 5) nilA)))) (seqS (retS (constD (.bl false)))
  nextS) nextS)
  (seqS (asgS (heldD (compF [8] (itA (nameD 3)) (setD 8) yesT (callS (fnCall K14.f_behind) kwA (consRd (nameD 0) (consRd (nameD 2) nilR)) (consRd (nameD 8) nilR)))) (setD 6) [6])
  (seqS (retS (bin2 (pur2 (eqF false)) (callS (fnCall K14.f_behind) kwA (consRd (nameD 0) (consRd (nameD 2) nilR)) (consRd (nameD 4) nilR)) (callS (fnCall K14.f_law_together) (posA []) (consRd (nameD 1) (consRd (nameD 6) nilR)) nilR)))
  nextS)))))
noncomputable def f_law_put_right : List SV → Out D := fnOf 4 9 b_law_put_right
noncomputable def b_law_stand : Env → Out Fl := (seqS (parS [2, 3] (consMd (callS (fnCall K14.f_law_draw) (posA []) (consRr 0 (consRd (constD (.int 4)) nilR)) nilR) (consMd (heldD (compF [4] (itA (nameD 1)) (setD 4) (valT (bin2 (pur2 gtF) (callS (fnCall K14.f_law_draw) (posA []) (consRr 0 (consRd (constD (.int 3)) nilR)) nilR) (constD (.int 0)))) (nameD 4))) nilM)))
  (seqS (retS (bin2 (pur2 ixF) (heldD (lstF (consA (nameD 1) (consA (tupD nilA) (consA (callD (one tupleF) (consA (nameD 3) nilA)) (consA (callD (one tupleF) (consA (nameD 3) nilA)) nilA)))))) (nameD 2)))
  nextS))
noncomputable def f_law_stand : List SV → Out D := fnOf 2 5 b_law_stand
noncomputable def b_law_right : Env → Out Fl := (seqS (asgS (callS (fnCall K14.f_law_names) (posA []) (consRr 0 (consRd (bin2 (pur2 addF) (constD (.int 1)) (callS (fnCall K14.f_law_draw) (posA []) (consRr 0 (consRd (constD (.int 6)) nilR)) nilR)) nilR)) nilR) (setD 1) [1])
  (seqS (asgS (callS (fnCall K14.f_law_links) (posA []) (consRr 0 (consRd (nameD 1) nilR)) nilR) (setD 2) [2])
  (seqS (asgS (callS (mkCall ("Web" : Str) K04.f_Web_init) kwA (consRd (nameD 1) nilR) (consRd (nameD 2) nilR)) (setD 3) [3])
  (seqS (forS (itR1 (consA (constD (.int 3)) nilA)) (setD 4) [4] (seqS (asgS (callS (fnCall K14.f_law_pulls) (posA []) (consRr 0 (consRd (nameD 1) (consRd (nameD 2) (consRd (nameD 1) (consRd (constD (.int 16)) nilR))))) nilR) (setD 5) [5])
  (seqS (parS [6, 7] (consMd (callS (fnCall K14.f_law_stand) (posA []) (consRr 0 (consRd (nameD 1) nilR)) nilR) (consMd (callS (fnCall K14.f_law_stand) (posA []) (consRr 0 (consRd (nameD 1) nilR)) nilR) nilM)))
  (seqS (ifS (notT (valT (callS (fnCall K14.f_law_put_right) (posA []) (consRd (nameD 3) (consRd (nameD 1) (consRd (nameD 5) (consRd (heldD (lstF (consA (nameD 6) (consA (nameD 7) nilA)))) nilR)))) nilR))) (seqS (retS (constD (.bl false)))
  nextS) nextS)
  (seqS (asgS (heldD (compF [9] (itA (nameD 6)) (setD 9) yesT (tupD (consA (nameD 9) nilA)))) (setD 8) [8])
  (seqS (ifS (andT (valT (bin2 (pur2 (eqF true)) (nameD 8) (heldD (lstF nilA)))) (notT (valT (callS (fnCall K14.f_law_put_right) (posA []) (consRd (nameD 3) (consRd (nameD 1) (consRd (nameD 5) (consRd (nameD 8) nilR)))) nilR)))) (seqS (retS (constD (.bl false)))
  nextS) nextS)
  (seqS (ifS (notT (valT (callS (fnCall K14.f_law_less_right) (posA []) (consRd (nameD 3) (consRd (nameD 5) (consRd (nameD 6) (consRd (callS (fnCall K14.f_law_together) (posA []) (consRd (nameD 1) (consRd (heldD (lstF (consA (nameD 6) (consA (nameD 7) nilA)))) nilR)) nilR) nilR)))) nilR))) (seqS (retS (constD (.bl false)))
  nextS) nextS)
  (seqS (ifS (notT (valT (callS (fnCall K14.f_law_less_right) (posA []) (consRd (nameD 3) (consRd (nameD 5) (consRd (nameD 7) (consRd (nameD 1) nilR)))) nilR))) (seqS (retS (constD (.bl false)))
  nextS) nextS)
  (seqS (ifS (orT (valT (bin2 (pur2 (eqF true)) (callS (fnCall K14.f_behind) kwA (consRd (nameD 3) (consRd (nameD 5) nilR)) (consRd (tupD nilA) nilR)) (tupD nilA))) (valT (bin2 (pur2 (inF false)) (constD (.bl true)) (callS (fnCall K14.f_marks) kwA (consRd (nameD 3) (consRd (nameD 5) nilR)) (consRd (tupD nilA) nilR))))) (seqS (retS (constD (.bl false)))
  nextS) nextS)
  nextS)))))))))
  (seqS (retS (constD (.bl true)))
  nextS)))))
noncomputable def f_law_right : List SV → Out D := fnOf 1 10 b_law_right
noncomputable def b_law : Env → Out Fl := (seqS (retS (callD (one allF) (consA (heldD (compF [1] (itR1 (consA (callD max2F (consA (constD (.int 2)) (consA (callD min2F (consA (callD (one lenF) (consA (nameD 0) nilA)) (consA (constD (.int 8)) nilA))) nilA))) nilA)) (setD 1) yesT (callFS K14.f_law_right (newL (callLS K14.f_law_purse (consRd (callS (fnCall K14.f_law_cell) (posA []) (consRd (nameD 0) (consRd (nameD 1) nilR)) nilR) nilR))) nilR))) nilA)))
  nextS)
noncomputable def f_law : List SV → Out D := fnOf 1 2 b_law
end DL.K14
namespace DL.K08
open PySem L2
noncomputable def b_heard : Env → Out Fl := (seqS (retS (callD (one tupleF) (consA (heldD (compF [3, 4] (itZA (consA (nameD 1) (consA (callS (fnCall K14.f_marks) kwA (consRd (nameD 0) (consRd (nameD 1) nilR)) (consRd (nameD 2) nilR)) nilA))) (setTup 2 (setCons (setD 3) (setCons (setD 4) setNil))) (valT (nameD 4)) (nameD 3))) nilA)))
  nextS)
noncomputable def f_heard : List SV → Out D := fnOf 3 5 b_heard
noncomputable def b_law_first_right : Env → Out Fl := (seqS (asgS (callD (one reprF) (consA (heldD (lstF (consA (callS (fnCall K14.f_marks) kwA (consRd (nameD 0) (consRd (nameD 2) nilR)) (consRd (nameD 1) nilR)) (consA (callS (fnCall K08.f_heard) kwA (consRd (nameD 0) (consRd (nameD 2) nilR)) (consRd (nameD 1) nilR)) (consA (callS (fnCall K14.f_behind) kwA (consRd (nameD 0) (consRd (nameD 2) nilR)) (consRd (nameD 1) nilR)) nilA))))) nilA)) (setD 3) [3])
  (seqS (asgS (heldD (lstF (consA (callS (fnCall K14.f_marks) (layL (.d .non) (.d .non) [none]) (consRd (nameD 0) (consRd (nameD 2) nilR)) nilR) (consA (callS (fnCall K08.f_heard) (layL (.d .non) (.d .non) [none]) (consRd (nameD 0) (consRd (nameD 2) nilR)) nilR) (consA (callS (fnCall K14.f_behind) (layL (.d .non) (.d .non) [none]) (consRd (nameD 0) (consRd (nameD 2) nilR)) nilR) nilA))))) (setD 4) [4])
  (seqS (asgS (heldD (lstF (consA (callS (fnCall K14.f_marks) kwA (consRd (nameD 0) (consRd (nameD 2) nilR)) (consRd (constD .non) nilR)) (consA (callS (fnCall K08.f_heard) kwA (consRd (nameD 0) (consRd (nameD 2) nilR)) (consRd (constD .non) nilR)) (consA (callS (fnCall K14.f_behind) kwA (consRd (nameD 0) (consRd (nameD 2) nilR)) (consRd (constD .non) nilR)) nilA))))) (setD 5) [5])
  (seqS (retS (andD (bin2 (pur2 (eqF false)) (callD (one reprF) (consA (nameD 4) nilA)) (nameD 3)) (bin2 (pur2 (eqF false)) (callD (one reprF) (consA (nameD 5) nilA)) (nameD 3))))
  nextS))))
noncomputable def f_law_first_right : List SV → Out D := fnOf 3 6 b_law_first_right
noncomputable def b_law_parts_right : Env → Out Fl := (seqS (parS [4, 5] (consMd (cutA (nameD 1) noO (someO (nameD 3))) (consMd (cutA (nameD 1) (someO (nameD 3)) noO) nilM)))
  (seqS (asgS (callS (fnCall K14.f_behind) kwA (consRd (nameD 0) (consRd (nameD 4) nilR)) (consRd (nameD 2) nilR)) (setD 6) [6])
  (seqS (ifS (valT (bin2 (pur2 (eqF true)) (callS (fnCall K14.f_marks) kwA (consRd (nameD 0) (consRd (nameD 1) nilR)) (consRd (nameD 2) nilR)) (bin2 (pur2 addF) (callS (fnCall K14.f_marks) kwA (consRd (nameD 0) (consRd (nameD 4) nilR)) (consRd (nameD 2) nilR)) (callS (fnCall K14.f_marks) kwA (consRd (nameD 0) (consRd (nameD 5) nilR)) (consRd (nameD 6) nilR))))) (seqS (retS (constD (.bl false)))
  nextS) nextS)
  (seqS (retS (bin2 (pur2 (eqF false)) (callS (fnCall K14.f_behind) kwA (consRd (nameD 0) (consRd (nameD 1) nilR)) (consRd (nameD 2) nilR)) (callS (fnCall K14.f_behind) kwA (consRd (nameD 0) (consRd (nameD 5) nilR)) (consRd (nameD 6) nilR))))
  nextS))))
noncomputable def f_law_parts_right : List SV → Out D := fnOf 4 7 b_law_parts_right
noncomputable def b_law_told_right : Env → Out Fl := (seqS (asgS (callS (fnCall K14.f_law_walk) (posA []) (consRd (nameD 1) (consRd (nameD 2) (consRd (nameD 3) nilR))) nilR) (setUnl 2 (setCons (setD 4) (setCons (setD 5) setNil))) ([4] ++ ([5] ++ [])))
  (seqS (asgS (callD (one tupleF) (consA (heldD (compF [8, 9] (itZA (consA (nameD 2) (consA (nameD 4) nilA))) (setTup 2 (setCons (setD 8) (setCons (setD 9) setNil))) (valT (nameD 9)) (nameD 8))) nilA)) (setD 6) [6])
  (seqS (asgS (heldD (lstF (consA (callS (fnCall K14.f_marks) kwA (consRd (nameD 0) (consRd (nameD 2) nilR)) (consRd (nameD 3) nilR)) (consA (callS (fnCall K08.f_heard) kwA (consRd (nameD 0) (consRd (nameD 2) nilR)) (consRd (nameD 3) nilR)) (consA (callS (fnCall K14.f_behind) kwA (consRd (nameD 0) (consRd (nameD 2) nilR)) (consRd (nameD 3) nilR)) nilA))))) (setD 7) [7])
  (seqS (ifS (valT (bin2 (pur2 (eqF true)) (callD (one reprF) (consA (nameD 7) nilA)) (callD (one reprF) (consA (heldD (lstF (consA (nameD 4) (consA (nameD 6) (consA (nameD 5) nilA))))) nilA)))) (seqS (retS (constD (.bl false)))
  nextS) nextS)
  (seqS (asgS (heldD (lstF (consA (callS (fnCall K14.f_marks) (layL (.d .non) (.d .non) [some 2, some 1, some 0]) nilR (consRd (nameD 3) (consRd (nameD 2) (consRd (nameD 0) nilR)))) (consA (callS (fnCall K08.f_heard) (layL (.d .non) (.d .non) [some 0, some 2, some 1]) nilR (consRd (nameD 0) (consRd (nameD 3) (consRd (nameD 2) nilR)))) nilA)))) (setD 7) [7])
  (seqS (retS (bin2 (pur2 (eqF false)) (callD (one reprF) (consA (bin2 (pur2 addF) (nameD 7) (heldD (lstF (consA (callS (fnCall K14.f_behind) (layL (.d .non) (.d .non) [some 2, some 0, some 1]) nilR (consRd (nameD 2) (consRd (nameD 3) (consRd (nameD 0) nilR)))) nilA)))) nilA)) (callD (one reprF) (consA (heldD (lstF (consA (nameD 4) (consA (nameD 6) (consA (nameD 5) nilA))))) nilA))))
  nextS))))))
noncomputable def f_law_told_right : List SV → Out D := fnOf 4 10 b_law_told_right
noncomputable def b_law_right : Env → Out Fl := (seqS (asgS (callS (fnCall K14.f_law_names) (posA []) (consRr 0 (consRd (bin2 (pur2 addF) (nameD 1) (callS (fnCall K14.f_law_draw) (posA []) (consRr 0 (consRd (nameD 2) nilR)) nilR)) nilR)) nilR) (setD 3) [3])
  (seqS (asgS (callS (fnCall K14.f_law_links) (posA []) (consRr 0 (consRd (nameD 3) nilR)) nilR) (setD 4) [4])
  (seqS (parS [5, 6] (consMd (callS (mkCall ("Web" : Str) K04.f_Web_init) kwA (consRd (nameD 3) nilR) (consRd (nameD 4) nilR)) (consMd (bin2 (pur2 (eqF false)) (callS (fnCall K14.f_law_draw) (posA []) (consRr 0 (consRd (constD (.int 8)) nilR)) nilR) (constD (.int 5))) nilM)))
  (seqS (forS (itR1 (consA (constD (.int 4)) nilA)) (setD 7) [7] (seqS (asgS (callS (fnCall K14.f_law_stand) (posA []) (consRr 0 (consRd (nameD 3) nilR)) nilR) (setD 8) [8])
  (seqS (asgS (callS (fnCall K14.f_law_pulls) (posA []) (consRr 0 (consRd (nameD 3) (consRd (nameD 4) (consRd (nameD 8) (consRd (constD (.int 14)) nilR))))) nilR) (setD 9) [9])
  (seqS (ifS (andT (valT (nameD 6)) (valT (bin2 (pur2 (eqF true)) (nameD 9) (tupD nilA)))) (seqS (asgS (cutA (bin2 (pur2 mulB) (nameD 9) (constD (.int 400))) noO (someO (constD (.int 400)))) (setD 9) [9])
  nextS) nextS)
  (seqS (ifS (orT (notT (valT (callS (fnCall K08.f_law_told_right) (posA []) (consRd (nameD 5) (consRd (nameD 4) (consRd (nameD 9) (consRd (nameD 8) nilR)))) nilR))) (notT (valT (callS (fnCall K08.f_law_first_right) (posA []) (consRd (nameD 5) (consRd (nameD 3) (consRd (nameD 9) nilR))) nilR)))) (seqS (retS (constD (.bl false)))
  nextS) nextS)
  (seqS (ifS (notT (valT (callS (fnCall K08.f_law_parts_right) (posA []) (consRd (nameD 5) (consRd (nameD 9) (consRd (nameD 8) (consRd (callS (fnCall K14.f_law_draw) (posA []) (consRr 0 (consRd (bin2 (pur2 addF) (callD (one lenF) (consA (nameD 9) nilA)) (constD (.int 1))) nilR)) nilR) nilR)))) nilR))) (seqS (retS (constD (.bl false)))
  nextS) nextS)
  nextS))))))
  (seqS (retS (andD (callS (fnCall K08.f_law_told_right) (posA []) (consRd (nameD 5) (consRd (nameD 4) (consRd (tupD nilA) (consRd (nameD 3) nilR)))) nilR) (callS (fnCall K08.f_law_told_right) (posA []) (consRd (nameD 5) (consRd (nameD 4) (consRd (nameD 3) (consRd (tupD nilA) nilR)))) nilR)))
  nextS)))))
noncomputable def f_law_right : List SV → Out D := fnOf 3 10 b_law_right
noncomputable def b_law : Env → Out Fl := (seqS (ifS (valT (bin2 (pur2 (eqF true)) (callD (one reprF) (consA (heldD (lstF (consA (constD (.int 1000000000000000000000000000000)) (consA (constD (.int 400)) (consA (constD (.int 12)) (consA (constD (.int 8)) nilA)))))) nilA)) (callD (one reprF) (consA (heldD (lstF (consA (bin2 (pur2 powF) (constD (.int 10)) (constD (.int 30))) (consA (constD (.int 400)) (consA (constD (.int 12)) (consA (constD (.int 8)) nilA)))))) nilA)))) (seqS (retS (constD (.bl false)))
  nextS) nextS)
  (seqS (ifS (notT (valT (callD (one allF) (consA (heldD (compF [1] (itR1 (consA (callD max2F (consA (constD (.int 2)) (consA (callD min2F (consA (callD (one lenF) (consA (nameD 0) nilA)) (consA (constD (.int 8)) nilA))) nilA))) nilA)) (setD 1) yesT (callFS K08.f_law_right (newL (callLS K14.f_law_purse (consRd (callS (fnCall K14.f_law_cell) (posA []) (consRd (nameD 0) (consRd (nameD 1) nilR)) nilR) nilR))) (consRd (constD (.int 1)) (consRd (constD (.int 6)) nilR))))) nilA)))) (seqS (retS (constD (.bl false)))
  nextS) nextS)
  (seqS (retS (callFS K08.f_law_right (newL (callLS K14.f_law_purse (consRd (callS (fnCall K14.f_law_cell) (posA []) (consRd (nameD 0) (consRd (constD (.int 8)) nilR)) nilR) nilR))) (consRd (constD (.int 7)) (consRd (constD (.int 6)) nilR))))
  nextS)))
noncomputable def f_law : List SV → Out D := fnOf 1 2 b_law
end DL.K08
namespace DL.K13
open PySem L2
noncomputable def b_law_bent : Env → Out Fl := (seqS (parS [3, 4] (consMd (callS (fnCall K14.f_law_draw) (posA []) (consRr 0 (consRd (constD (.int 6)) nilR)) nilR) (consMd (callS (fnCall K14.f_law_draw) (posA []) (consRr 0 (consRd (bin2 (pur2 addF) (callD (one lenF) (consA (nameD 2) nilA)) (constD (.int 1))) nilR)) nilR) nilM)))
  (seqS (asgS (bin2 (pur2 ixF) (nameD 1) (callS (fnCall K14.f_law_draw) (posA []) (consRr 0 (consRd (callD (one lenF) (consA (nameD 1) nilA)) nilR)) nilR)) (setD 5) [5])
  (seqS (ifS (valT (bin2 (pur2 (eqF false)) (nameD 3) (constD (.int 0)))) (seqS (retS (bin2 (pur2 addF) (bin2 (pur2 addF) (cutA (nameD 2) noO (someO (nameD 4))) (bin2 (pur2 mulC) (cutA (nameD 2) (someO (nameD 4)) (someO (bin2 (pur2 addF) (nameD 4) (constD (.int 1))))) (constD (.int 2)))) (cutA (nameD 2) (someO (bin2 (pur2 addF) (nameD 4) (constD (.int 1)))) noO)))
  nextS) nextS)
  (seqS (ifS (valT (bin2 (pur2 (eqF false)) (nameD 3) (constD (.int 1)))) (seqS (retS (bin2 (pur2 addF) (bin2 (pur2 addF) (cutA (nameD 2) noO (someO (nameD 4))) (tupD (consA (nameD 5) nilA))) (cutA (nameD 2) (someO (nameD 4)) noO)))
  nextS) nextS)
  (seqS (ifS (valT (bin2 (pur2 (eqF false)) (nameD 3) (constD (.int 2)))) (seqS (retS (bin2 (pur2 addF) (cutA (nameD 2) noO (someO (nameD 4))) (cutA (nameD 2) (someO (bin2 (pur2 addF) (nameD 4) (constD (.int 1)))) noO)))
  nextS) nextS)
  (seqS (ifS (valT (bin2 (pur2 (eqF false)) (nameD 3) (constD (.int 3)))) (seqS (retS (bin2 (pur2 addF) (bin2 (pur2 addF) (cutA (nameD 2) noO (someO (nameD 4))) (un1 (pur1 revF) (cutA (nameD 2) (someO (nameD 4)) (someO (bin2 (pur2 addF) (nameD 4) (constD (.int 2))))))) (cutA (nameD 2) (someO (bin2 (pur2 addF) (nameD 4) (constD (.int 2)))) noO)))
  nextS) nextS)
  (seqS (ifS (valT (bin2 (pur2 (eqF false)) (nameD 3) (constD (.int 4)))) (seqS (retS (bin2 (pur2 addF) (nameD 2) (tupD (consA (nameD 5) nilA))))
  nextS) nextS)
  (seqS (retS (callD (one tupleF) (consA (heldD (compF [6] (itR1 (consA (callS (fnCall K14.f_law_draw) (posA []) (consRr 0 (consRd (constD (.int 7)) nilR)) nilR) nilA)) (setD 6) yesT (bin2 (pur2 ixF) (nameD 1) (callS (fnCall K14.f_law_draw) (posA []) (consRr 0 (consRd (callD (one lenF) (consA (nameD 1) nilA)) nilR)) nilR)))) nilA)))
  nextS))))))))
noncomputable def f_law_bent : List SV → Out D := fnOf 3 7 b_law_bent
noncomputable def b_heard_apart : Env → Out Fl := (seqS (dropS (callS (fnCall K14.f_check_web) (posA []) (consRd (nameD 0) nilR) nilR))
  (seqS (dropS (callS (fnCall K14.f_check_row) (posA []) (consRd (nameD 0) (consRd (nameD 1) nilR)) nilR))
  (seqS (dropS (callS (fnCall K14.f_check_row) (posA []) (consRd (nameD 0) (consRd (nameD 2) nilR)) nilR))
  (seqS (parS [3, 4] (consMd (callS (fnCall K08.f_heard) (layL (.d .non) (.d .non) [none]) (consRd (nameD 0) (consRd (nameD 1) nilR)) nilR) (consMd (callS (fnCall K08.f_heard) (layL (.d .non) (.d .non) [none]) (consRd (nameD 0) (consRd (nameD 2) nilR)) nilR) nilM)))
  (seqS (forS (itR1 (consA (callD min2F (consA (callD (one lenF) (consA (nameD 3) nilA)) (consA (callD (one lenF) (consA (nameD 4) nilA)) nilA))) nilA)) (setD 5) [5] (seqS (ifS (valT (bin2 (pur2 (eqF true)) (bin2 (pur2 ixA) (nameD 3) (nameD 5)) (bin2 (pur2 ixA) (nameD 4) (nameD 5)))) (seqS (retS (nameD 5))
  nextS) nextS)
  nextS))
  (seqS (retS (ifD (valT (bin2 (pur2 (eqF false)) (callD (one lenF) (consA (nameD 3) nilA)) (callD (one lenF) (consA (nameD 4) nilA)))) (constD .non) (callD min2F (consA (callD (one lenF) (consA (nameD 3) nilA)) (consA (callD (one lenF) (consA (nameD 4) nilA)) nilA)))))
  nextS))))))
noncomputable def f_heard_apart : List SV → Out D := fnOf 3 6 b_heard_apart
noncomputable def b_law_pair_right : Env → Out Fl := (seqS (asgS (heldD (compF [7] (itA (nameD 1)) (setD 7) yesT (callS (fnCall K08.f_heard) kwA (consRd (nameD 0) (consRd (nameD 2) nilR)) (consRd (nameD 7) nilR)))) (setD 4) [4])
  (seqS (asgS (heldD (compF [7] (itA (nameD 1)) (setD 7) yesT (callS (fnCall K08.f_heard) kwA (consRd (nameD 0) (consRd (nameD 3) nilR)) (consRd (nameD 7) nilR)))) (setD 5) [5])
  (seqS (ifS (valT (bin2 (pur2 (eqF true)) (bin2 (pur2 (eqF false)) (nameD 4) (nameD 5)) (bin2 (pur2 (isF false)) (callS (fnCall K13.f_heard_apart) (posA []) (consRd (nameD 0) (consRd (nameD 2) (consRd (nameD 3) nilR))) nilR) (constD .non)))) (seqS (retS (constD (.bl false)))
  nextS) nextS)
  (seqS (ifS (valT (bin2 (pur2 (isF false)) (callS (fnCall K13.f_heard_apart) (posA []) (consRd (nameD 0) (consRd (nameD 2) (consRd (nameD 3) nilR))) nilR) (constD .non))) (seqS (asgS (heldD (compF [7] (itA (nameD 1)) (setD 7) yesT (callS (fnCall K14.f_behind) kwA (consRd (nameD 0) (consRd (nameD 2) nilR)) (consRd (nameD 7) nilR)))) (setD 6) [6])
  (seqS (retS (bin2 (pur2 (eqF false)) (nameD 6) (heldD (compF [7] (itA (nameD 1)) (setD 7) yesT (callS (fnCall K14.f_behind) kwA (consRd (nameD 0) (consRd (nameD 3) nilR)) (consRd (nameD 7) nilR))))))
  nextS)) nextS)
  (seqS (retS (constD (.bl true)))
  nextS)))))
noncomputable def f_law_pair_right : List SV → Out D := fnOf 4 8 b_law_pair_right
noncomputable def b_law_stands : Env → Out Fl := (seqS (asgS (heldD (lstF (consA (tupD nilA) nilA))) (setD 1) [1])
  (seqS (forS (itA (nameD 0)) (setD 2) [2] (seqS (asgS (bin2 (pur2 addF) (nameD 1) (heldD (compF [3] (itA (nameD 1)) (setD 3) yesT (bin2 (pur2 addF) (nameD 3) (tupD (consA (nameD 2) nilA)))))) (setD 1) [1])
  nextS))
  (seqS (retS (nameD 1))
  nextS)))
noncomputable def f_law_stands : List SV → Out D := fnOf 1 4 b_law_stands
noncomputable def b_may_be : Env → Out Fl := (seqS (asgS (methS ("Web" : Str) ("wakers" : Str) K04.f_Web_wakers [] (nameD 0) (consRd (bin2 (pur2 ixA) (nameD 1) (nameD 2)) nilR)) (setD 3) [3])
  (seqS (ifS (valT (bin2 (pur2 (inF false)) (bin2 (pur2 ixA) (nameD 1) (nameD 2)) (nameD 3))) (seqS (retS (constD (.bl false)))
  nextS) nextS)
  (seqS (forS (itA (un1 (pur1 revF) (cutA (nameD 1) noO (someO (nameD 2))))) (setD 4) [4] (seqS (ifS (valT (bin2 (pur2 (eqF false)) (nameD 4) (bin2 (pur2 ixA) (nameD 1) (nameD 2)))) (seqS (retS (constD (.bl true)))
  nextS) nextS)
  (seqS (ifS (valT (bin2 (pur2 (inF false)) (nameD 4) (nameD 3))) (seqS (retS (constD (.bl false)))
  nextS) nextS)
  nextS)))
  (seqS (retS (constD (.bl false)))
  nextS))))
noncomputable def f_may_be : List SV → Out D := fnOf 3 5 b_may_be
noncomputable def b_strikes : Env → Out Fl := (seqS (dropS (callS (fnCall K14.f_check_web) (posA []) (consRd (nameD 0) nilR) nilR))
  (seqS (dropS (callS (fnCall K14.f_check_row) (posA []) (consRd (nameD 0) (consRd (nameD 1) nilR)) nilR))
  (seqS (retS (callD (one tupleF) (consA (heldD (compF [2] (itR1 (consA (callD (one lenF) (consA (nameD 1) nilA)) nilA)) (setD 2) (valT (callS (fnCall K13.f_may_be) (posA []) (consRd (nameD 0) (consRd (nameD 1) (consRd (nameD 2) nilR))) nilR)) (nameD 2))) nilA)))
  nextS)))
noncomputable def f_strikes : List SV → Out D := fnOf 2 3 b_strikes
noncomputable def b_is_whole : Env → Out Fl := (seqS (retS (andD (isiD (kbTy "int") (fun _ => none) (nameD 0)) (notD (isiD (kbTy "bool") (fun _ => none) (nameD 0)))))
  nextS)
noncomputable def f_is_whole : List SV → Out D := fnOf 1 1 b_is_whole
noncomputable def b_struck : Env → Out Fl := (seqS (dropS (callS (fnCall K14.f_check_web) (posA []) (consRd (nameD 0) nilR) nilR))
  (seqS (dropS (callS (fnCall K14.f_check_row) (posA []) (consRd (nameD 0) (consRd (nameD 1) nilR)) nilR))
  (seqS (ifS (orT (notT (valT (callS (fnCall K13.f_is_whole) (posA []) (consRd (nameD 2) nilR) nilR))) (orT (notT (valT (chainD (pur2 leF) (pur2 ltF) (constD (.int 0)) (nameD 2) (callD (one lenF) (consA (nameD 1) nilA))))) (notT (valT (callS (fnCall K13.f_may_be) (posA []) (consRd (nameD 0) (consRd (nameD 1) (consRd (nameD 2) nilR))) nilR))))) (seqS neverS
  nextS) nextS)
  (seqS (retS (bin2 (pur2 addF) (cutA (nameD 1) noO (someO (nameD 2))) (cutA (nameD 1) (someO (bin2 (pur2 addF) (nameD 2) (constD (.int 1)))) noO)))
  nextS))))
noncomputable def f_struck : List SV → Out D := fnOf 3 3 b_struck
noncomputable def b_law_right : Env → Out Fl := (seqS (asgS (callS (fnCall K14.f_law_names) (posA []) (consRr 0 (consRd (bin2 (pur2 addF) (constD (.int 1)) (callS (fnCall K14.f_law_draw) (posA []) (consRr 0 (consRd (constD (.int 5)) nilR)) nilR)) nilR)) nilR) (setD 1) [1])
  (seqS (asgS (callS (fnCall K14.f_law_links) (posA []) (consRr 0 (consRd (nameD 1) nilR)) nilR) (setD 2) [2])
  (seqS (parS [3, 4] (consMd (callS (mkCall ("Web" : Str) K04.f_Web_init) kwA (consRd (nameD 1) nilR) (consRd (nameD 2) nilR)) (consMd (callS (fnCall K13.f_law_stands) (posA []) (consRd (nameD 1) nilR) nilR) nilM)))
  (seqS (asgS (callS (fnCall K14.f_law_pulls) (posA []) (consRr 0 (consRd (nameD 1) (consRd (nameD 2) (consRd (nameD 1) (consRd (constD (.int 9)) nilR))))) nilR) (setD 5) [5])
  (seqS (forS (itR1 (consA (constD (.int 5)) nilA)) (setD 6) [6] (seqS (ifS (notT (valT (callS (fnCall K13.f_law_pair_right) (posA []) (consRd (nameD 3) (consRd (nameD 4) (consRd (nameD 5) (consRd (callS (fnCall K13.f_law_bent) (posA []) (consRr 0 (consRd (nameD 1) (consRd (nameD 5) nilR))) nilR) nilR)))) nilR))) (seqS (retS (constD (.bl false)))
  nextS) nextS)
  nextS))
  (seqS (asgS (callS (fnCall K08.f_heard) (layL (.d .non) (.d .non) [none]) (consRd (nameD 3) (consRd (nameD 5) nilR)) nilR) (setD 7) [7])
  (seqS (forS (itA (nameD 4)) (setD 8) [8] (seqS (ifS (valT (bin2 (pur2 (eqF true)) (callS (fnCall K08.f_heard) kwA (consRd (nameD 3) (consRd (nameD 5) nilR)) (consRd (nameD 8) nilR)) (callS (fnCall K08.f_heard) kwA (consRd (nameD 3) (consRd (nameD 7) nilR)) (consRd (nameD 8) nilR)))) (seqS (retS (constD (.bl false)))
  nextS) nextS)
  nextS))
  (seqS (forS (itA (callS (fnCall K13.f_strikes) (posA []) (consRd (nameD 3) (consRd (nameD 5) nilR)) nilR)) (setD 9) [9] (seqS (ifS (valT (bin2 (pur2 (isF true)) (callS (fnCall K13.f_heard_apart) (posA []) (consRd (nameD 3) (consRd (nameD 5) (consRd (callS (fnCall K13.f_struck) (posA []) (consRd (nameD 3) (consRd (nameD 5) (consRd (nameD 9) nilR))) nilR) nilR))) nilR) (constD .non))) (seqS (retS (constD (.bl false)))
  nextS) nextS)
  nextS))
  (seqS (retS (callS (fnCall K13.f_law_pair_right) (posA []) (consRd (nameD 3) (consRd (nameD 4) (consRd (nameD 5) (consRd (nameD 7) nilR)))) nilR))
  nextS)))))))))
noncomputable def f_law_right : List SV → Out D := fnOf 1 10 b_law_right
noncomputable def b_law : Env → Out Fl := (seqS (retS (callD (one allF) (consA (heldD (compF [1] (itR1 (consA (callD max2F (consA (constD (.int 2)) (consA (callD min2F (consA (callD (one lenF) (consA (nameD 0) nilA)) (consA (constD (.int 8)) nilA))) nilA))) nilA)) (setD 1) yesT (callFS K13.f_law_right (newL (callLS K14.f_law_purse (consRd (callS (fnCall K14.f_law_cell) (posA []) (consRd (nameD 0) (consRd (nameD 1) nilR)) nilR) nilR))) nilR))) nilA)))
  nextS)
noncomputable def f_law : List SV → Out D := fnOf 1 2 b_law
end DL.K13
namespace DL.K25
open PySem L2
noncomputable def b_law_come : Env → Out Fl := (seqS (asgOS 4 (compF [7] (itA (nameD 3)) (setD 7) (valT (bin2 (pur2 gtF) (bin2 (pur2 ixF) (nameD 2) (idxA (nameD 0) (nameD 7))) (constD (.int 0)))) (nameD 7)))
  (seqS (forS (itR1 (consA (callD (one lenF) (consA (nameD 0) nilA)) nilA)) (setD 5) [5] (seqS (forS (itA (nameD 1)) (setD 6) [6] (seqS (ifS (andT (valT (ownIn false 4 (bin2 (pur2 ixF) (nameD 6) (constD (.int 0))))) (andT (valT (ownIn true 4 (bin2 (pur2 ixF) (nameD 6) (constD (.int 1))))) (valT (bin2 (pur2 gtF) (bin2 (pur2 ixF) (nameD 2) (idxA (nameD 0) (bin2 (pur2 ixF) (nameD 6) (constD (.int 1))))) (constD (.int 0)))))) (seqS (appS 4 (bin2 (pur2 ixF) (nameD 6) (constD (.int 1))))
  nextS) nextS)
  nextS))
  nextS))
  (seqS (retS (nameD 4))
  nextS)))
noncomputable def f_law_come : List SV → Out D := fnOf 4 8 b_law_come
noncomputable def b_law_let : Env → Out Fl := (seqS (asgS (callD (one int1F) (consA (bin2 (pur2 (inF false)) (nameD 4) (nameD 3)) nilA)) (setD 5) [5])
  (seqS (forS (itA (nameD 1)) (setD 6) [6] (seqS (ifS (valT (bin2 (pur2 (eqF false)) (bin2 (pur2 ixF) (nameD 6) (constD (.int 1))) (nameD 4))) (seqS (asgS (bin2 (pur2 addF) (nameD 5) (bin2 (pur2 ixF) (nameD 2) (idxA (nameD 0) (bin2 (pur2 ixF) (nameD 6) (constD (.int 0)))))) (setD 5) [5])
  nextS) nextS)
  nextS))
  (seqS (retS (nameD 5))
  nextS)))
noncomputable def f_law_let : List SV → Out D := fnOf 5 7 b_law_let
noncomputable def b_law_bar : Env → Out Fl := (seqS (forS (itR1 (consA (callD (one lenF) (consA (nameD 0) nilA)) nilA)) (setD 4) [4] (seqS (ifS (valT (bin2 (pur2 gtF) (bin2 (pur2 ixA) (nameD 2) (nameD 4)) (callS (fnCall K25.f_law_let) (posA []) (consRd (nameD 0) (consRd (nameD 1) (consRd (nameD 2) (consRd (nameD 3) (consRd (bin2 (pur2 ixA) (nameD 0) (nameD 4)) nilR))))) nilR))) (seqS (retS (tupD (consA (constD (.str ("bell" : Str))) (consA (bin2 (pur2 ixA) (nameD 0) (nameD 4)) nilA))))
  nextS) nextS)
  nextS))
  (seqS (asgS (callS (fnCall K25.f_law_come) (posA []) (consRd (nameD 0) (consRd (nameD 1) (consRd (nameD 2) (consRd (nameD 3) nilR)))) nilR) (setD 5) [5])
  (seqS (asgS (callD (one tupleF) (consA (heldD (compF [4] (itR1 (consA (callD (one lenF) (consA (nameD 0) nilA)) nilA)) (setD 4) (andT (valT (bin2 (pur2 gtF) (bin2 (pur2 ixA) (nameD 2) (nameD 4)) (constD (.int 0)))) (valT (bin2 (pur2 (inF true)) (bin2 (pur2 ixA) (nameD 0) (nameD 4)) (nameD 5)))) (bin2 (pur2 ixA) (nameD 0) (nameD 4)))) nilA)) (setD 6) [6])
  (seqS (retS (ifD (valT (bin2 (pur2 (eqF true)) (nameD 6) (tupD nilA))) (tupD (consA (constD (.str ("shut" : Str))) (consA (nameD 6) nilA))) (constD .non)))
  nextS))))
noncomputable def f_law_bar : List SV → Out D := fnOf 4 7 b_law_bar
noncomputable def b_law_wished : Env → Out Fl := (seqS (parT [4, 5] (consMd (callS (fnCall K14.f_law_draw) (posA []) (consRr 0 (consRd (constD (.int 6)) nilR)) nilR) (consMf (newL (repF (heldD (lstF (consA (constD (.int 0)) nilA))) (callD (one lenF) (consA (nameD 1) nilA)))) nilM)))
  (seqS (ifS (valT (bin2 (pur2 ltF) (nameD 4) (constD (.int 2)))) (seqS (retS (callD (one tupleF) (consA (heldD (compF [7] (itA (nameD 1)) (setD 7) yesT (callS (fnCall K14.f_law_draw) (posA []) (consRr 0 (consRd (bin2 (pur2 ixF) (heldD (lstF (consA (constD (.int 3)) (consA (constD (.int 6)) nilA)))) (nameD 4)) nilR)) nilR))) nilA)))
  nextS) nextS)
  (seqS (ifS (valT (bin2 (pur2 (eqF false)) (nameD 4) (constD (.int 2)))) (seqS (retS (callD (one tupleF) (consA (heldD (compF [7] (itA (nameD 1)) (setD 7) yesT (bin2 (pur2 ixF) (heldD (lstF (consA (constD (.int 0)) (consA (constD (.int 1)) (consA (callS (fnCall K14.f_law_draw) (posA []) (consRr 0 (consRd (bin2 (pur2 powF) (constD (.int 10)) (constD (.int 30))) nilR)) nilR) (consA (bin2 (pur2 powF) (constD (.int 10)) (constD (.int 30))) nilA)))))) (callS (fnCall K14.f_law_draw) (posA []) (consRr 0 (consRd (constD (.int 4)) nilR)) nilR)))) nilA)))
  nextS) nextS)
  (seqS (asgS (callS (fnCall K14.f_law_pulls) (posA []) (consRr 0 (consRd (nameD 1) (consRd (nameD 2) (consRd (nameD 3) (consRd (constD (.int 24)) nilR))))) nilR) (setD 6) [6])
  (seqS (forS (itZA (consA (nameD 6) (consA (bin2 (pur2 ixF) (callS (fnCall K14.f_law_walk) (posA []) (consRd (nameD 2) (consRd (nameD 6) (consRd (nameD 3) nilR))) nilR) (constD (.int 0))) nilA))) (setTup 2 (setCons (setD 7) (setCons (setD 8) setNil))) ([7] ++ ([8] ++ [])) (seqS (asgS (idxA (nameD 1) (nameD 7)) (setD 9) [9])
  (seqS (storeA 5 (nameD 9) (bin2 (pur2 addF) (ownIxA 5 (nameD 9)) (callD (one int1F) (consA (nameD 8) nilA))))
  nextS)))
  (seqS (ifS (valT (bin2 (pur2 gtF) (nameD 4) (constD (.int 3)))) (seqS (asgS (callS (fnCall K14.f_law_draw) (posA []) (consRr 0 (consRd (callD (one lenF) (consA (nameD 1) nilA)) nilR)) nilR) (setD 9) [9])
  (seqS (storeA 5 (nameD 9) (callD max2F (consA (constD (.int 0)) (consA (bin2 (pur2 addF) (ownIxA 5 (nameD 9)) (bin2 (pur2 ixF) (heldD (lstF (consA (constD (.int 1)) (consA (constD (.int 2)) (consA (un1 (pur1 negF) (constD (.int 1))) nilA))))) (callS (fnCall K14.f_law_draw) (posA []) (consRr 0 (consRd (constD (.int 3)) nilR)) nilR))) nilA))))
  nextS)) nextS)
  (seqS (retS (callD (one tupleF) (consA (nameD 5) nilA)))
  nextS)))))))
noncomputable def f_law_wished : List SV → Out D := fnOf 4 10 b_law_wished
noncomputable def b_is_within : Env → Out Fl := (seqS (retS (andD (callS (fnCall K13.f_is_whole) (posA []) (consRd (nameD 0) nilR) nilR) (chainD (pur2 leA) (pur2 leA) (nameD 1) (nameD 0) (nameD 2))))
  nextS)
noncomputable def f_is_within : List SV → Out D := fnOf 3 3 b_is_within
noncomputable def b_check_counts : Env → Out Fl := (seqS (ifS (orT (notT (valT (isiD (kbTy "tuple") (fun _ => none) (nameD 1)))) (valT (bin2 (pur2 (eqF true)) (callD (one lenF) (consA (nameD 1) nilA)) (callD (one lenF) (consA (fldD ("Web" : Str) ("bells" : Str) (nameD 0)) nilA))))) (seqS neverS
  nextS) nextS)
  (seqS (forS (itEA (consA (nameD 1) nilA)) (setTup 2 (setCons (setD 2) (setCons (setD 3) setNil))) ([2] ++ ([3] ++ [])) (seqS (ifS (notT (valT (callS (fnCall K25.f_is_within) (posA []) (consRd (nameD 3) (consRd (constD (.int 0)) (consRd (constD (.int 1000000000000000000000000000000)) nilR))) nilR))) (seqS neverS
  nextS) nextS)
  nextS))
  nextS))
noncomputable def f_check_counts : List SV → Out D := fnOf 2 4 b_check_counts
noncomputable def b_come_by : Env → Out Fl := (seqS (asgS (callS (fnCall K14.f_wakes_of) (posA []) (consRd (nameD 0) nilR) nilR) (setD 3) [3])
  (seqS (asgOS 4 (compF [6] (itA (fldD ("Web" : Str) ("bells" : Str) (nameD 0))) (setD 6) (andT (valT (bin2 (pur2 (inF false)) (nameD 6) (nameD 1))) (valT (bin2 (pur2 gtF) (bin2 (pur2 ixA) (nameD 2) (nameD 6)) (constD (.int 0))))) (nameD 6)))
  (seqS (asgS (constD (.int 0)) (setD 5) [5])
  (seqS (whileS (valT (bin2 (pur2 ltF) (nameD 5) (ownLen 4))) (seqS (forS (itA (bin2 (pur2 ixA) (nameD 3) (ownIxA 4 (nameD 5)))) (setD 6) [6] (seqS (ifS (andT (valT (bin2 (pur2 gtF) (bin2 (pur2 ixA) (nameD 2) (nameD 6)) (constD (.int 0)))) (valT (ownIn true 4 (nameD 6)))) (seqS (appS 4 (nameD 6))
  nextS) nextS)
  nextS))
  (seqS (augS addI 5 (constD (.int 1)))
  nextS)) fuel)
  (seqS (retS (nameD 4))
  nextS)))))
noncomputable def f_come_by : List SV → Out D := fnOf 3 7 b_come_by
noncomputable def b_in_order : Env → Out Fl := (seqS (retS (callD (one tupleF) (consA (heldD (compF [2] (itA (fldD ("Web" : Str) ("bells" : Str) (nameD 0))) (setD 2) (valT (bin2 (pur2 (inF false)) (nameD 2) (nameD 1))) (nameD 2))) nilA)))
  nextS)
noncomputable def f_in_order : List SV → Out D := fnOf 2 3 b_in_order
noncomputable def b_let : Env → Out Fl := (seqS (retS (bin2 (pur2 addF) (callD (one int1F) (consA (nameD 3) nilA)) (callD (one sumF) (consA (heldD (compF [4] (itA (bin2 (pur2 ixA) (nameD 1) (nameD 2))) (setD 4) yesT (bin2 (pur2 ixA) (nameD 0) (nameD 4)))) nilA))))
  nextS)
noncomputable def f_let : List SV → Out D := fnOf 4 5 b_let
noncomputable def f_wakers_of : List SV → Out D := wakesF true
noncomputable def b_why_not : Env → Out Fl := (seqS (asgS (callS (fnCall K25.f_wakers_of) (posA []) (consRd (nameD 0) nilR) nilR) (setD 3) [3])
  (seqS (forS (itA (fldD ("Web" : Str) ("bells" : Str) (nameD 0))) (setD 4) [4] (seqS (ifS (valT (bin2 (pur2 gtF) (bin2 (pur2 ixA) (nameD 1) (nameD 4)) (callS (fnCall K25.f_let) (posA []) (consRd (nameD 1) (consRd (nameD 3) (consRd (nameD 4) (consRd (bin2 (pur2 (inF false)) (nameD 4) (nameD 2)) nilR)))) nilR))) (seqS (retS (tupD (consA (constD (.str ("bell" : Str))) (consA (nameD 4) nilA))))
  nextS) nextS)
  nextS))
  (seqS (asgS (callS (fnCall K25.f_come_by) (posA []) (consRd (nameD 0) (consRd (nameD 2) (consRd (nameD 1) nilR))) nilR) (setD 5) [5])
  (seqS (asgS (callS (fnCall K25.f_in_order) (posA []) (consRd (nameD 0) (consRd (heldD (compF [4] (itA (fldD ("Web" : Str) ("bells" : Str) (nameD 0))) (setD 4) (andT (valT (bin2 (pur2 gtF) (bin2 (pur2 ixA) (nameD 1) (nameD 4)) (constD (.int 0)))) (valT (bin2 (pur2 (inF true)) (nameD 4) (nameD 5)))) (nameD 4))) nilR)) nilR) (setD 6) [6])
  (seqS (retS (ifD (valT (bin2 (pur2 (eqF true)) (nameD 6) (tupD nilA))) (tupD (consA (constD (.str ("shut" : Str))) (consA (nameD 6) nilA))) (constD .non)))
  nextS)))))
noncomputable def f_why_not : List SV → Out D := fnOf 3 7 b_why_not
noncomputable def b_bars : Env → Out Fl := (seqS (dropS (callS (fnCall K14.f_check_web) (posA []) (consRd (nameD 0) nilR) nilR))
  (seqS (dropS (callS (fnCall K25.f_check_counts) (posA []) (consRd (nameD 0) (consRd (nameD 1) nilR)) nilR))
  (seqS (retS (callS (fnCall K25.f_why_not) (posA []) (consRd (nameD 0) (consRd (heldO (zipK (consA (fldD ("Web" : Str) ("bells" : Str) (nameD 0)) (consA (nameD 1) nilA)))) (consRd (callS (fnCall K14.f_stand_of) (posA []) (consRd (nameD 0) (consRd (nameD 2) nilR)) nilR) nilR))) nilR))
  nextS)))
noncomputable def f_bars : List SV → Out D := fnOf 3 3 b_bars
noncomputable def b_law_right : Env → Out Fl := (seqS (asgS (callS (fnCall K14.f_law_names) (posA []) (consRr 0 (consRd (bin2 (pur2 addF) (nameD 1) (callS (fnCall K14.f_law_draw) (posA []) (consRr 0 (consRd (nameD 2) nilR)) nilR)) nilR)) nilR) (setD 3) [3])
  (seqS (asgS (callS (fnCall K14.f_law_links) (posA []) (consRr 0 (consRd (nameD 3) nilR)) nilR) (setD 4) [4])
  (seqS (asgS (callS (mkCall ("Web" : Str) K04.f_Web_init) kwA (consRd (nameD 3) nilR) (consRd (nameD 4) nilR)) (setD 5) [5])
  (seqS (forS (itR1 (consA (constD (.int 6)) nilA)) (setD 6) [6] (seqS (asgS (callS (fnCall K14.f_law_stand) (posA []) (consRr 0 (consRd (nameD 3) nilR)) nilR) (setD 8) [8])
  (seqS (asgS (callS (fnCall K25.f_law_wished) (posA []) (consRr 0 (consRd (nameD 3) (consRd (nameD 4) (consRd (nameD 8) nilR)))) nilR) (setD 9) [9])
  (seqS (asgS (callD (one reprA) (consA (callS (fnCall K25.f_law_bar) (posA []) (consRd (nameD 3) (consRd (nameD 4) (consRd (nameD 9) (consRd (nameD 8) nilR)))) nilR) nilA)) (setD 10) [10])
  (seqS (ifS (orT (valT (bin2 (pur2 (eqF true)) (callD (one reprA) (consA (callS (fnCall K25.f_bars) kwA (consRd (nameD 5) (consRd (nameD 9) nilR)) (consRd (nameD 8) nilR)) nilA)) (nameD 10))) (valT (bin2 (pur2 (eqF true)) (callD (one reprA) (consA (callS (fnCall K25.f_bars) (layL (.d .non) (.d .non) [some 2, some 1, some 0]) nilR (consRd (nameD 8) (consRd (nameD 9) (consRd (nameD 5) nilR)))) nilA)) (nameD 10)))) (seqS (retS (constD (.bl false)))
  nextS) nextS)
  (seqS (asgS (callD (one reprA) (consA (callS (fnCall K25.f_law_bar) (posA []) (consRd (nameD 3) (consRd (nameD 4) (consRd (nameD 9) (consRd (nameD 3) nilR)))) nilR) nilA)) (setD 10) [10])
  (seqS (ifS (orT (valT (bin2 (pur2 (eqF true)) (callD (one reprA) (consA (callS (fnCall K25.f_bars) (layL (.d .non) (.d .non) [none]) (consRd (nameD 5) (consRd (nameD 9) nilR)) nilR) nilA)) (nameD 10))) (valT (bin2 (pur2 (eqF true)) (callD (one reprA) (consA (callS (fnCall K25.f_bars) kwA (consRd (nameD 5) (consRd (nameD 9) nilR)) (consRd (constD .non) nilR)) nilA)) (nameD 10)))) (seqS (retS (constD (.bl false)))
  nextS) nextS)
  nextS)))))))
  (seqS (asgS (bin2 (pur2 mulE) (tupD (consA (constD (.int 0)) nilA)) (callD (one lenF) (consA (nameD 3) nilA))) (setD 7) [7])
  (seqS (retS (andD (bin2 (pur2 (isF false)) (callS (fnCall K25.f_bars) (layL (.d .non) (.d .non) [none]) (consRd (nameD 5) (consRd (nameD 7) nilR)) nilR) (constD .non)) (bin2 (pur2 (isF false)) (callS (fnCall K25.f_bars) kwA (consRd (nameD 5) (consRd (nameD 7) nilR)) (consRd (tupD nilA) nilR)) (constD .non))))
  nextS))))))
noncomputable def f_law_right : List SV → Out D := fnOf 3 11 b_law_right
noncomputable def b_law : Env → Out Fl := (seqS (ifS (notT (valT (callD (one allF) (consA (heldD (compF [1] (itR1 (consA (callD max2F (consA (constD (.int 2)) (consA (callD min2F (consA (callD (one lenF) (consA (nameD 0) nilA)) (consA (constD (.int 8)) nilA))) nilA))) nilA)) (setD 1) yesT (callFS K25.f_law_right (newL (callLS K14.f_law_purse (consRd (callS (fnCall K14.f_law_cell) (posA []) (consRd (nameD 0) (consRd (nameD 1) nilR)) nilR) nilR))) (consRd (constD (.int 1)) (consRd (constD (.int 6)) nilR))))) nilA)))) (seqS (retS (constD (.bl false)))
  nextS) nextS)
  (seqS (retS (callFS K25.f_law_right (newL (callLS K14.f_law_purse (consRd (callS (fnCall K14.f_law_cell) (posA []) (consRd (nameD 0) (consRd (constD (.int 8)) nilR)) nilR) nilR))) (consRd (constD (.int 9)) (consRd (constD (.int 4)) nilR))))
  nextS))
noncomputable def f_law : List SV → Out D := fnOf 1 2 b_law
end DL.K25
namespace DL.K18
open PySem L2
noncomputable def b_law_alive : Env → Out Fl := (seqS (parS [2, 3] (consMd (callS (fnCall K04.f_law_take) (posA []) (consRr 0 (consRd (constD (.int 4)) nilR)) nilR) (consMd (heldD (compF [5] (itA (fldD ("Web" : Str) ("bells" : Str) (nameD 1))) (setD 5) (valT (bin2 (pur2 (eqF false)) (callS (fnCall K04.f_law_take) (posA []) (consRr 0 (consRd (constD (.int 2)) nilR)) nilR) (constD (.int 1)))) (nameD 5))) nilM)))
  (seqS (asgS (bin2 (pur2 ixF) (fldD ("Web" : Str) ("bells" : Str) (nameD 1)) (callS (fnCall K04.f_law_take) (posA []) (consRr 0 (consRd (callD (one lenF) (consA (fldD ("Web" : Str) ("bells" : Str) (nameD 1)) nilA)) nilR)) nilR)) (setD 4) [4])
  (seqS (retS (bin2 (pur2 ixF) (heldD (lstF (consA (fldD ("Web" : Str) ("bells" : Str) (nameD 1)) (consA (callD (one tupleF) (consA (nameD 3) nilA)) (consA (tupD (consA (nameD 4) nilA)) (consA (tupD nilA) nilA)))))) (nameD 2)))
  nextS)))
noncomputable def f_law_alive : List SV → Out D := fnOf 2 6 b_law_alive
noncomputable def b_law_pulled : Env → Out Fl := (seqS (ifS (valT (bin2 (pur2 (inF true)) (nameD 2) (nameD 1))) (seqS (retS (heldD (listF (consA (nameD 1) nilA))))
  nextS) nextS)
  (seqS (asgS (heldD (compF [4] (itA (nameD 1)) (setD 4) (valT (bin2 (pur2 (eqF true)) (nameD 4) (nameD 2))) (nameD 4))) (setD 3) [3])
  (seqS (retS (bin2 (pur2 addF) (nameD 3) (heldD (compF [5, 6] (itA (fldD ("Web" : Str) ("wakes" : Str) (nameD 0))) (setTup 2 (setCons (setD 5) (setCons (setD 6) setNil))) (andT (valT (bin2 (pur2 (eqF false)) (nameD 5) (nameD 2))) (valT (bin2 (pur2 (inF true)) (nameD 6) (nameD 3)))) (nameD 6)))))
  nextS)))
noncomputable def f_law_pulled : List SV → Out D := fnOf 3 7 b_law_pulled
noncomputable def b_law_walk : Env → Out Fl := (seqS (forS (itA (nameD 1)) (setD 3) [3] (seqS (asgS (callS (fnCall K18.f_law_pulled) (posA []) (consRd (nameD 0) (consRd (nameD 2) (consRd (nameD 3) nilR))) nilR) (setD 2) [2])
  nextS))
  (seqS (retS (callD (one tupleF) (consA (heldD (compF [3] (itA (fldD ("Web" : Str) ("bells" : Str) (nameD 0))) (setD 3) (valT (bin2 (pur2 (inF false)) (nameD 3) (nameD 2))) (nameD 3))) nilA)))
  nextS))
noncomputable def f_law_walk : List SV → Out D := fnOf 3 4 b_law_walk
noncomputable def b_law_goes : Env → Out Fl := (seqS (asgOS 3 (lstF (consA (callD (one tupleF) (consA (nameD 2) nilA)) nilA)))
  (seqS (whileS (valT (constD (.bl true))) (seqS (asgS (callS (fnCall K18.f_law_walk) (posA []) (consRd (nameD 0) (consRd (nameD 1) (consRd (nameD 2) nilR))) nilR) (setD 2) [2])
  (seqS (ifS (valT (ownInB false 3 (nameD 2))) (seqS (retS (heldD (lstF (consA (nameD 3) (consA (idxA (nameD 3) (nameD 2)) nilA)))))
  nextS) nextS)
  (seqS (appS 3 (nameD 2))
  nextS))) fuel)
  nextS))
noncomputable def f_law_goes : List SV → Out D := fnOf 3 4 b_law_goes
noncomputable def b_law_line : Env → Out Fl := (seqS (parS [3, 4] (consMd (heldD (listF (consA (fldD ("Web" : Str) ("bells" : Str) (nameD 1)) nilA))) (consMf (newL (lstF nilA)) nilM)))
  (seqS (forS (itR1 (consA (callS (fnCall K04.f_law_take) (posA []) (consRr 0 (consRd (bin2 (pur2 addF) (nameD 2) (constD (.int 1))) nilR)) nilR) nilA)) (setD 5) [5] (seqS (asgS (ifD (andT (valT (bin2 (pur2 (eqF true)) (nameD 3) (heldD (lstF nilA)))) (valT (bin2 (pur2 (eqF false)) (callS (fnCall K04.f_law_take) (posA []) (consRr 0 (consRd (constD (.int 2)) nilR)) nilR) (constD (.int 0))))) (nameD 3) (heldD (listF (consA (fldD ("Web" : Str) ("bells" : Str) (nameD 1)) nilA)))) (setD 6) [6])
  (seqS (asgS (bin2 (pur2 ixF) (nameD 6) (callS (fnCall K04.f_law_take) (posA []) (consRr 0 (consRd (callD (one lenF) (consA (nameD 6) nilA)) nilR)) nilR)) (setD 7) [7])
  (seqS (appS 4 (nameD 7))
  (seqS (asgS (callS (fnCall K18.f_law_pulled) (posA []) (consRd (nameD 1) (consRd (nameD 3) (consRd (nameD 7) nilR))) nilR) (setD 3) [3])
  nextS)))))
  (seqS (retS (callD (one tupleF) (consA (nameD 4) nilA)))
  nextS)))
noncomputable def f_law_line : List SV → Out D := fnOf 3 8 b_law_line
noncomputable def b_law_names : Env → Out Fl := (seqS (asgS (constD (.str ("abcdefghijklmnopqrstuvwxyz" : Str))) (setD 2) [2])
  (seqS (asgS (heldD (lstF (consA (constD (.str ("pull" : Str))) (consA (constD (.str ("put" : Str))) (consA (constD (.str ("strike" : Str))) (consA (constD (.str ("wake" : Str))) (consA (constD (.str ("unwake" : Str))) (consA (constD (.str ("back" : Str))) (consA (constD (.str ("web" : Str))) (consA (constD (.str ("pulls" : Str))) (consA (constD (.str ("heard" : Str))) (consA (constD (.str ("live" : Str))) (consA (constD (.str ("rung" : Str))) (consA (constD (.str ("can" : Str))) (consA (constD (.str ("most" : Str))) (consA (constD (.str ("end" : Str))) (consA (constD (.str ("round" : Str))) (consA (constD (.str ("paper" : Str))) (consA (constD (.str ("none" : Str))) (consA (constD (.str ("vain" : Str))) (consA (constD (.str ("a" : Str))) (consA (constD (.str ("b" : Str))) nilA)))))))))))))))))))))) (setD 3) [3])
  (seqS (parT [4, 5] (consMd (callS (fnCall K04.f_law_take) (posA []) (consRr 0 (consRd (constD (.int 20)) nilR)) nilR) (consMd (callS (fnCall K04.f_law_take) (posA []) (consRr 0 (consRd (constD (.int 4)) nilR)) nilR) nilM)))
  (seqS (ifS (valT (bin2 (pur2 (eqF false)) (nameD 5) (constD (.int 0)))) (seqS (retS (heldD (sortF (consA (heldD (compF [9] (itR1 (consA (nameD 1) nilA)) (setD 9) yesT (bin2 (pur2 ixF) (nameD 3) (bin2 (pur2 modF) (bin2 (pur2 addF) (nameD 4) (bin2 (pur2 mulA) (constD (.int 3)) (nameD 9))) (constD (.int 20)))))) nilA))))
  nextS) nextS)
  (seqS (asgS (joinD (constD (.str ("" : Str))) (heldD (compF [9] (itR1 (consA (callS (fnCall K04.f_law_take) (posA []) (consRr 0 (consRd (constD (.int 8)) nilR)) nilR) nilA)) (setD 9) yesT (bin2 (pur2 ixF) (nameD 2) (callS (fnCall K04.f_law_take) (posA []) (consRr 0 (consRd (constD (.int 26)) nilR)) nilR))))) (setD 6) [6])
  (seqS (parT [7, 8] (consMd (callS (fnCall K04.f_law_take) (posA []) (consRr 0 (consRd (bin2 (pur2 addF) (callD (one lenF) (consA (nameD 6) nilA)) (constD (.int 1))) nilR)) nilR) (consMd (callS (fnCall K04.f_law_take) (posA []) (consRr 0 (consRd (constD (.int 26)) nilR)) nilR) nilM)))
  (seqS (retS (heldD (sortF (consA (heldD (compF [9] (itR1 (consA (nameD 1) nilA)) (setD 9) yesT (bin2 (pur2 addF) (bin2 (pur2 addF) (cutA (nameD 6) noO (someO (nameD 7))) (bin2 (pur2 ixF) (nameD 2) (bin2 (pur2 modF) (bin2 (pur2 addF) (nameD 8) (bin2 (pur2 mulA) (constD (.int 5)) (nameD 9))) (constD (.int 26))))) (cutA (nameD 6) (someO (nameD 7)) noO)))) nilA))))
  nextS)))))))
noncomputable def f_law_names : List SV → Out D := fnOf 2 10 b_law_names
noncomputable def b_law_pairs : Env → Out Fl := (seqS (parS [2, 3, 4] (consMf newK (consMd (callS (fnCall K04.f_law_take) (posA []) (consRr 0 (consRd (constD (.int 6)) nilR)) nilR) (consMd (callD (one lenF) (consA (nameD 1) nilA)) nilM))))
  (seqS (forS (itR1 (consA (nameD 4) nilA)) (setD 5) [5] (seqS (forS (itR1 (consA (nameD 4) nilA)) (setD 6) [6] (seqS (asgS (andD (bin2 (pur2 (eqF false)) (callS (fnCall K04.f_law_take) (posA []) (consRr 0 (consRd (bin2 (pur2 ixF) (heldD (lstF (consA (constD (.int 4)) (consA (constD (.int 2)) (consA (constD (.int 8)) (consA (constD (.int 6)) (consA (constD (.int 5)) (consA (constD (.int 3)) nilA)))))))) (nameD 3)) nilR)) nilR) (constD (.int 1))) (bin2 (pur2 ltF) (nameD 3) (constD (.int 5)))) (setD 7) [7])
  (seqS (ifS (orT (valT (nameD 7)) (orT (andT (valT (bin2 (pur2 (eqF false)) (nameD 3) (constD (.int 2)))) (valT (bin2 (pur2 (eqF false)) (bin2 (pur2 modF) (bin2 (pur2 addF) (nameD 5) (constD (.int 1))) (nameD 4)) (nameD 6)))) (andT (valT (bin2 (pur2 (eqF false)) (nameD 3) (constD (.int 4)))) (valT (bin2 (pur2 (eqF false)) (nameD 5) (nameD 6)))))) (seqS (storeT 2 (tupD (consA (bin2 (pur2 ixA) (nameD 1) (nameD 5)) (consA (bin2 (pur2 ixA) (nameD 1) (nameD 6)) nilA))) (constD (.bl true)))
  (seqS (ifS (valT (bin2 (pur2 (eqF false)) (nameD 3) (constD (.int 3)))) (seqS (storeT 2 (tupD (consA (bin2 (pur2 ixA) (nameD 1) (nameD 6)) (consA (bin2 (pur2 ixA) (nameD 1) (nameD 5)) nilA))) (constD (.bl true)))
  nextS) nextS)
  nextS)) nextS)
  nextS)))
  nextS))
  (seqS (retS (callD (one tupleF) (consA (heldD (sortT 2)) nilA)))
  nextS)))
noncomputable def f_law_pairs : List SV → Out D := fnOf 2 8 b_law_pairs
noncomputable def b_law_net : Env → Out Fl := (seqS (asgS (callS (fnCall K18.f_law_names) (posA []) (consRr 0 (consRd (bin2 (pur2 ixF) (heldD (lstF (consA (bin2 (pur2 addF) (constD (.int 1)) (callS (fnCall K04.f_law_take) (posA []) (consRr 0 (consRd (nameD 1) nilR)) nilR)) (consA (constD (.int 12)) nilA)))) (callD (one int1F) (consA (bin2 (pur2 (eqF false)) (callS (fnCall K04.f_law_take) (posA []) (consRr 0 (consRd (constD (.int 8)) nilR)) nilR) (constD (.int 5))) nilA))) nilR)) nilR) (setD 2) [2])
  (seqS (retS (callS (mkCall ("Web" : Str) K04.f_Web_init) kwA (consRd (callD (one tupleF) (consA (nameD 2) nilA)) nilR) (consRd (callS (fnCall K18.f_law_pairs) (posA []) (consRr 0 (consRd (nameD 2) nilR)) nilR) nilR)))
  nextS))
noncomputable def f_law_net : List SV → Out D := fnOf 2 3 b_law_net
noncomputable def b_law_there : Env → Out Fl := (seqS (ifS (valT (bin2 (pur2 ltF) (nameD 2) (callD (one lenF) (consA (nameD 0) nilA)))) (seqS (retS (bin2 (pur2 ixA) (nameD 0) (nameD 2)))
  nextS) nextS)
  (seqS (retS (bin2 (pur2 ixF) (nameD 0) (bin2 (pur2 addF) (nameD 1) (bin2 (pur2 modF) (bin2 (pur2 subF) (nameD 2) (nameD 1)) (bin2 (pur2 subF) (callD (one lenF) (consA (nameD 0) nilA)) (nameD 1))))))
  nextS))
noncomputable def f_law_there : List SV → Out D := fnOf 3 3 b_law_there
noncomputable def b_check_many : Env → Out Fl := (seqS (ifS (notT (valT (callS (fnCall K25.f_is_within) (posA []) (consRd (nameD 0) (consRd (constD (.int 0)) (consRd (nameD 1) nilR))) nilR))) (seqS neverS
  nextS) nextS)
  nextS)
noncomputable def f_check_many : List SV → Out D := fnOf 2 2 b_check_many
noncomputable def b_goings : Env → Out Fl := (seqS (parS [3, 4] (consMf newK (consMf (newL (lstF nilA)) nilM)))
  (seqS (whileS (valT (ownInT true 3 (nameD 2))) (seqS (storeT 3 (nameD 2) (ownLen 4))
  (seqS (appS 4 (nameD 2))
  (seqS (asgS (callS (fnCall K14.f_behind) kwA (consRd (nameD 0) (consRd (nameD 1) nilR)) (consRd (nameD 2) nilR)) (setD 2) [2])
  nextS))) fuel)
  (seqS (retS (tupD (consA (nameD 4) (consA (ownIxT 3 (nameD 2)) nilA))))
  nextS)))
noncomputable def f_goings : List SV → Out D := fnOf 3 5 b_goings
noncomputable def b_far : Env → Out Fl := (seqS (dropS (callS (fnCall K14.f_check_web) (posA []) (consRd (nameD 0) nilR) nilR))
  (seqS (dropS (callS (fnCall K14.f_check_row) (posA []) (consRd (nameD 0) (consRd (nameD 1) nilR)) nilR))
  (seqS (dropS (callS (fnCall K18.f_check_many) (posA []) (consRd (nameD 2) (consRd (constD (.int 1000000000000000000000000000000)) nilR)) nilR))
  (seqS (asgS (callS (fnCall K18.f_goings) (posA []) (consRd (nameD 0) (consRd (nameD 1) (consRd (callS (fnCall K14.f_stand_of) (posA []) (consRd (nameD 0) (consRd (nameD 3) nilR)) nilR) nilR))) nilR) (setTup 2 (setCons (setD 4) (setCons (setD 5) setNil))) ([4] ++ ([5] ++ [])))
  (seqS (ifS (valT (bin2 (pur2 ltF) (nameD 2) (callD (one lenF) (consA (nameD 4) nilA)))) (seqS (retS (bin2 (pur2 ixA) (nameD 4) (nameD 2)))
  nextS) nextS)
  (seqS (retS (bin2 (pur2 ixF) (nameD 4) (bin2 (pur2 addF) (nameD 5) (bin2 (pur2 modF) (bin2 (pur2 subF) (nameD 2) (nameD 5)) (bin2 (pur2 subF) (callD (one lenF) (consA (nameD 4) nilA)) (nameD 5))))))
  nextS))))))
noncomputable def f_far : List SV → Out D := fnOf 4 6 b_far
noncomputable def b_law_right : Env → Out Fl := (seqS (asgS (callS (fnCall K18.f_law_net) (posA []) (consRr 0 (consRd (constD (.int 7)) nilR)) nilR) (setD 1) [1])
  (seqS (asgS (callS (fnCall K18.f_law_line) (posA []) (consRr 0 (consRd (nameD 1) (consRd (bin2 (pur2 ixF) (heldD (lstF (consA (constD (.int 40)) (consA (constD (.int 400)) nilA)))) (callD (one int1F) (consA (bin2 (pur2 (eqF false)) (callS (fnCall K04.f_law_take) (posA []) (consRr 0 (consRd (constD (.int 8)) nilR)) nilR) (constD (.int 5))) nilA))) nilR))) nilR) (setD 2) [2])
  (seqS (asgS (callS (fnCall K18.f_law_alive) (posA []) (consRr 0 (consRd (nameD 1) nilR)) nilR) (setD 3) [3])
  (seqS (asgS (callS (fnCall K18.f_law_goes) (posA []) (consRd (nameD 1) (consRd (nameD 2) (consRd (nameD 3) nilR))) nilR) (setUnl 2 (setCons (setD 4) (setCons (setD 5) setNil))) ([4] ++ ([5] ++ [])))
  (seqS (asgS (heldD (lstF (consA (constD (.int 0)) (consA (constD (.int 1)) (consA (constD (.int 2)) (consA (callS (fnCall K04.f_law_take) (posA []) (consRr 0 (consRd (constD (.int 20)) nilR)) nilR) (consA (callS (fnCall K04.f_law_take) (posA []) (consRr 0 (consRd (bin2 (pur2 addF) (bin2 (pur2 powF) (constD (.int 10)) (constD (.int 30))) (constD (.int 1))) nilR)) nilR) (consA (bin2 (pur2 powF) (constD (.int 10)) (constD (.int 30))) (consA (bin2 (pur2 subF) (bin2 (pur2 powF) (constD (.int 10)) (constD (.int 30))) (constD (.int 1))) nilA))))))))) (setD 6) [6])
  (seqS (asgS (bin2 (pur2 addF) (nameD 6) (heldD (lstF (consA (nameD 5) (consA (bin2 (pur2 subF) (callD (one lenF) (consA (nameD 4) nilA)) (constD (.int 1))) (consA (callD (one lenF) (consA (nameD 4) nilA)) (consA (bin2 (pur2 addF) (callD (one lenF) (consA (nameD 4) nilA)) (constD (.int 1))) (consA (bin2 (pur2 mulA) (constD (.int 2)) (callD (one lenF) (consA (nameD 4) nilA))) nilA)))))))) (setD 6) [6])
  (seqS (forS (itA (bin2 (pur2 addF) (nameD 6) (cutA (nameD 6) noO (someO (constD (.int 4)))))) (setD 7) [7] (seqS (asgS (callS (fnCall K18.f_law_there) (posA []) (consRd (nameD 4) (consRd (nameD 5) (consRd (nameD 7) nilR))) nilR) (setD 8) [8])
  (seqS (ifS (valT (bin2 (pur2 (eqF true)) (callD (one reprA) (consA (callS (fnCall K18.f_far) kwA (consRd (nameD 1) (consRd (nameD 2) (consRd (nameD 7) nilR))) (consRd (nameD 3) nilR)) nilA)) (callD (one reprA) (consA (nameD 8) nilA)))) (seqS (retS (constD (.bl false)))
  nextS) nextS)
  (seqS (ifS (valT (bin2 (pur2 (eqF true)) (callS (fnCall K18.f_far) (layL (.d .non) (.d .non) [some 3, some 2, some 1, some 0]) nilR (consRd (nameD 3) (consRd (nameD 7) (consRd (nameD 2) (consRd (nameD 1) nilR))))) (nameD 8))) (seqS (retS (constD (.bl false)))
  nextS) nextS)
  nextS))))
  (seqS (asgS (callS (fnCall K18.f_law_goes) (posA []) (consRd (nameD 1) (consRd (nameD 2) (consRd (fldD ("Web" : Str) ("bells" : Str) (nameD 1)) nilR))) nilR) (setUnl 2 (setCons (setD 4) (setCons (setD 5) setNil))) ([4] ++ ([5] ++ [])))
  (seqS (forS (itA (nameD 6)) (setD 7) [7] (seqS (asgS (callS (fnCall K18.f_law_there) (posA []) (consRd (nameD 4) (consRd (nameD 5) (consRd (nameD 7) nilR))) nilR) (setD 8) [8])
  (seqS (ifS (orT (valT (bin2 (pur2 (eqF true)) (callD (one reprA) (consA (callS (fnCall K18.f_far) (layL (.d .non) (.d .non) [none]) (consRd (nameD 1) (consRd (nameD 2) (consRd (nameD 7) nilR))) nilR) nilA)) (callD (one reprA) (consA (nameD 8) nilA)))) (valT (bin2 (pur2 (eqF true)) (callS (fnCall K18.f_far) kwA (consRd (nameD 1) (consRd (nameD 2) (consRd (nameD 7) nilR))) (consRd (constD .non) nilR)) (nameD 8)))) (seqS (retS (constD (.bl false)))
  nextS) nextS)
  nextS)))
  (seqS (retS (constD (.bl true)))
  nextS))))))))))
noncomputable def f_law_right : List SV → Out D := fnOf 1 9 b_law_right
noncomputable def b_law : Env → Out Fl := (seqS (retS (callD (one allF) (consA (heldD (compF [1] (itR1 (consA (callD max2F (consA (constD (.int 2)) (consA (callD min2F (consA (callD (one lenF) (consA (nameD 0) nilA)) (consA (constD (.int 5)) nilA))) nilA))) nilA)) (setD 1) yesT (callFS K18.f_law_right (newL (callLS K04.f_law_purse (consRd (nameD 0) (consRd (nameD 1) nilR)))) nilR))) nilA)))
  nextS)
noncomputable def f_law : List SV → Out D := fnOf 1 2 b_law
end DL.K18
namespace DL.K57
open PySem L2
noncomputable def b_law_calls : Env → Out Fl := (seqS (asgS (heldD (lstF (consA (constD (.str ("pull" : Str))) (consA (constD (.str ("put" : Str))) (consA (constD (.str ("strike" : Str))) (consA (constD (.str ("wake" : Str))) (consA (constD (.str ("unwake" : Str))) (consA (constD (.str ("back" : Str))) (consA (constD (.str ("web" : Str))) (consA (constD (.str ("heard" : Str))) (consA (constD (.str ("live" : Str))) (consA (constD (.str ("rung" : Str))) (consA (constD (.str ("can" : Str))) (consA (constD (.str ("most" : Str))) (consA (constD (.str ("end" : Str))) nilA))))))))))))))) (setD 2) [2])
  (seqS (parT [3, 4] (consMd (callS (fnCall K14.f_law_draw) (posA []) (consRr 0 (consRd (constD (.int 13)) nilR)) nilR) (consMd (bin2 (pur2 ixF) (heldD (lstF (consA (constD (.int 1)) (consA (constD (.int 5)) (consA (constD (.int 7)) (consA (constD (.int 11)) nilA)))))) (callS (fnCall K14.f_law_draw) (posA []) (consRr 0 (consRd (constD (.int 4)) nilR)) nilR)) nilM)))
  (seqS (ifS (valT (bin2 (pur2 (eqF false)) (callS (fnCall K14.f_law_draw) (posA []) (consRr 0 (consRd (constD (.int 4)) nilR)) nilR) (constD (.int 1)))) (seqS (retS (callD (one tupleF) (consA (heldD (sortF (consA (heldD (compF [9] (itR1 (consA (nameD 1) nilA)) (setD 9) yesT (bin2 (pur2 ixF) (nameD 2) (bin2 (pur2 modF) (bin2 (pur2 addF) (nameD 3) (bin2 (pur2 mulA) (nameD 4) (nameD 9))) (constD (.int 13)))))) nilA))) nilA)))
  nextS) nextS)
  (seqS (asgS (constD (.str ("abcdefghijklmnopqrstuvwxyz" : Str))) (setD 5) [5])
  (seqS (asgS (joinD (constD (.str ("" : Str))) (heldD (compF [9] (itR1 (consA (callS (fnCall K14.f_law_draw) (posA []) (consRr 0 (consRd (constD (.int 8)) nilR)) nilR) nilA)) (setD 9) yesT (bin2 (pur2 ixF) (nameD 5) (callS (fnCall K14.f_law_draw) (posA []) (consRr 0 (consRd (constD (.int 26)) nilR)) nilR))))) (setD 6) [6])
  (seqS (asgS (callS (fnCall K14.f_law_draw) (posA []) (consRr 0 (consRd (bin2 (pur2 addF) (callD (one lenF) (consA (nameD 6) nilA)) (constD (.int 1))) nilR)) nilR) (setD 7) [7])
  (seqS (asgOS 8 (lstF nilA))
  (seqS (forS (itR1 (consA (nameD 1) nilA)) (setD 9) [9] (seqS (asgS (bin2 (pur2 ixF) (nameD 5) (bin2 (pur2 modF) (bin2 (pur2 addF) (bin2 (pur2 mulA) (constD (.int 2)) (nameD 3)) (bin2 (pur2 mulA) (nameD 4) (nameD 9))) (constD (.int 26)))) (setD 10) [10])
  (seqS (appS 8 (bin2 (pur2 addF) (bin2 (pur2 addF) (cutA (nameD 6) noO (someO (nameD 7))) (nameD 10)) (cutA (nameD 6) (someO (nameD 7)) noO)))
  nextS)))
  (seqS (retS (callD (one tupleF) (consA (heldD (sortF (consA (nameD 8) nilA))) nilA)))
  nextS)))))))))
noncomputable def f_law_calls : List SV → Out D := fnOf 2 11 b_law_calls
noncomputable def b_law_links : Env → Out Fl := (seqS (parS [2, 3] (consMd (callS (fnCall K14.f_law_draw) (posA []) (consRr 0 (consRd (constD (.int 9)) nilR)) nilR) (consMf (newL (lstF nilA)) nilM)))
  (seqS (forS (itR1 (consA (callD (one lenF) (consA (nameD 1) nilA)) nilA)) (setD 4) [4] (seqS (forS (itR1 (consA (callD (one lenF) (consA (nameD 1) nilA)) nilA)) (setD 5) [5] (seqS (parS [6, 7] (consMd (bin2 (pur2 (eqF false)) (callS (fnCall K14.f_law_draw) (posA []) (consRr 0 (consRd (bin2 (pur2 ixF) (heldD (lstF (consA (constD (.int 3)) (consA (constD (.int 2)) (consA (constD (.int 6)) (consA (constD (.int 4)) (consA (constD (.int 2)) (consA (constD (.int 5)) (consA (constD (.int 1)) (consA (constD (.int 3)) (consA (constD (.int 4)) nilA))))))))))) (nameD 2)) nilR)) nilR) (constD (.int 0))) (consMd (bin2 (pur2 (eqF false)) (bin2 (pur2 modF) (bin2 (pur2 addF) (nameD 4) (constD (.int 1))) (callD (one lenF) (consA (nameD 1) nilA))) (nameD 5)) nilM)))
  (seqS (asgS (heldD (lstF (consA (nameD 6) (consA (nameD 6) (consA (orD (nameD 6) (nameD 7)) (consA (nameD 7) (consA (andD (nameD 6) (bin2 (pur2 ltF) (nameD 4) (nameD 5))) (consA (orD (nameD 6) (bin2 (pur2 (eqF false)) (nameD 4) (nameD 5))) nilA)))))))) (setD 8) [8])
  (seqS (asgS (bin2 (pur2 addF) (nameD 8) (heldD (lstF (consA (bin2 (pur2 (eqF true)) (nameD 4) (nameD 5)) (consA (orD (nameD 7) (andD (nameD 6) (bin2 (pur2 (eqF false)) (nameD 4) (nameD 5)))) (consA (constD (.bl false)) nilA)))))) (setD 8) [8])
  (seqS (ifS (valT (bin2 (pur2 ixA) (nameD 8) (nameD 2))) (seqS (appS 3 (tupD (consA (bin2 (pur2 ixA) (nameD 1) (nameD 4)) (consA (bin2 (pur2 ixA) (nameD 1) (nameD 5)) nilA))))
  nextS) nextS)
  nextS)))))
  nextS))
  (seqS (retS (callD (one tupleF) (consA (nameD 3) nilA)))
  nextS)))
noncomputable def f_law_links : List SV → Out D := fnOf 2 9 b_law_links
noncomputable def b_law_all : Env → Out Fl := (seqS (asgS (heldD (lstF (consA (tupD nilA) nilA))) (setD 2) [2])
  (seqS (forS (itR1 (consA (nameD 1) nilA)) (setD 3) [3] (seqS (asgOS 4 (lstF nilA))
  (seqS (forS (itA (nameD 2)) (setD 5) [5] (seqS (extS 4 (heldD (compF [6] (itA (nameD 0)) (setD 6) yesT (bin2 (pur2 addF) (nameD 5) (tupD (consA (nameD 6) nilA))))))
  nextS))
  (seqS (asgS (nameD 4) (setD 2) [2])
  nextS))))
  (seqS (retS (nameD 2))
  nextS)))
noncomputable def f_law_all : List SV → Out D := fnOf 2 7 b_law_all
noncomputable def b_law_step : Env → Out Fl := (seqS (ifS (valT (bin2 (pur2 (inF true)) (nameD 2) (nameD 1))) (seqS (retS (nameD 1))
  nextS) nextS)
  (seqS (asgS (heldD (compF [4] (itA (nameD 1)) (setD 4) (valT (bin2 (pur2 (eqF true)) (nameD 4) (nameD 2))) (nameD 4))) (setD 3) [3])
  (seqS (retS (callD (one tupleF) (consA (heldD (sortSetF (bin2 (pur2 addF) (nameD 3) (heldD (compF [5] (itA (nameD 0)) (setD 5) (valT (bin2 (pur2 (eqF false)) (bin2 (pur2 ixF) (nameD 5) (constD (.int 0))) (nameD 2))) (bin2 (pur2 ixF) (nameD 5) (constD (.int 1)))))))) nilA)))
  nextS)))
noncomputable def f_law_step : List SV → Out D := fnOf 3 6 b_law_step
noncomputable def b_law_heard : Env → Out Fl := (seqS (asgS (tupD nilA) (setD 3) [3])
  (seqS (forS (itA (nameD 2)) (setD 4) [4] (seqS (ifS (valT (bin2 (pur2 (inF false)) (nameD 4) (nameD 1))) (seqS (asgS (bin2 (pur2 addF) (nameD 3) (tupD (consA (nameD 4) nilA))) (setD 3) [3])
  nextS) nextS)
  (seqS (asgS (callS (fnCall K57.f_law_step) (posA []) (consRd (nameD 0) (consRd (nameD 1) (consRd (nameD 4) nilR))) nilR) (setD 1) [1])
  nextS)))
  (seqS (retS (nameD 3))
  nextS)))
noncomputable def f_law_heard : List SV → Out D := fnOf 3 5 b_law_heard
noncomputable def b_law_whole : Env → Out Fl := (seqS (retS (andD (isiD (kbTy "int") (fun _ => none) (nameD 0)) (andD (notD (isiD (kbTy "bool") (fun _ => none) (nameD 0))) (bin2 (pur2 (eqF false)) (nameD 0) (nameD 1)))))
  nextS)
noncomputable def f_law_whole : List SV → Out D := fnOf 2 2 b_law_whole
noncomputable def b_check_rings : Env → Out Fl := (seqS (forS (itEA (consA (callS (fnCall K14.f_marks) kwA (consRd (nameD 0) (consRd (nameD 1) nilR)) (consRd (nameD 2) nilR)) nilA)) (setTup 2 (setCons (setD 3) (setCons (setD 4) setNil))) ([3] ++ ([4] ++ [])) (seqS (ifS (notT (valT (nameD 4))) (seqS neverS
  nextS) nextS)
  nextS))
  nextS)
noncomputable def f_check_rings : List SV → Out D := fnOf 3 5 b_check_rings
noncomputable def b_check_short : Env → Out Fl := (seqS (ifS (andT (valT (isiD (kbTy "tuple") (fun _ => none) (nameD 1))) (valT (bin2 (pur2 gtF) (callD (one lenF) (consA (nameD 1) nilA)) (constD (.int 200))))) (seqS neverS
  nextS) nextS)
  (seqS (dropS (callS (fnCall K14.f_check_row) (posA []) (consRd (nameD 0) (consRd (nameD 1) nilR)) nilR))
  nextS))
noncomputable def f_check_short : List SV → Out D := fnOf 2 2 b_check_short
noncomputable def b_stand_behind : Env → Out Fl := (seqS (retS (callS (fnCall K25.f_in_order) (posA []) (consRd (nameD 0) (consRd (bin2 (pur2 addF) (heldD (compF [3] (itA (nameD 1)) (setD 3) (valT (bin2 (pur2 (eqF true)) (nameD 3) (nameD 2))) (nameD 3))) (heldD (listF (consA (methS ("Web" : Str) ("woken" : Str) K04.f_Web_woken [] (nameD 0) (consRd (nameD 2) nilR)) nilA)))) nilR)) nilR))
  nextS)
noncomputable def f_stand_behind : List SV → Out D := fnOf 3 4 b_stand_behind
noncomputable def b_pulled_so : Env → Out Fl := (seqS (dropS (callS (fnCall K14.f_check_web) (posA []) (consRd (nameD 0) nilR) nilR))
  (seqS (dropS (callS (fnCall K57.f_check_short) (posA []) (consRd (nameD 0) (consRd (nameD 1) nilR)) nilR))
  (seqS (dropS (callS (fnCall K18.f_check_many) (posA []) (consRd (nameD 2) (consRd (constD (.int 200)) nilR)) nilR))
  (seqS (asgS (callS (fnCall K14.f_stand_of) (posA []) (consRd (nameD 0) (consRd (nameD 3) nilR)) nilR) (setD 4) [4])
  (seqS (dropS (callS (fnCall K57.f_check_rings) (posA []) (consRd (nameD 0) (consRd (nameD 1) (consRd (nameD 4) nilR))) nilR))
  (seqS (ifS (valT (bin2 (pur2 ltF) (nameD 2) (callD (one lenF) (consA (nameD 1) nilA)))) (seqS (retS (constD (.int 0)))
  nextS) nextS)
  (seqS (asgOS 5 (lstF (consA (bin2 (pur2 subF) (callD (one lenF) (consA (fldD ("Web" : Str) ("bells" : Str) (nameD 0)) nilA)) (callD (one lenF) (consA (nameD 4) nilA))) nilA)))
  (seqS (forS (itA (nameD 1)) (setD 6) [6] (seqS (asgS (callS (fnCall K57.f_stand_behind) (posA []) (consRd (nameD 0) (consRd (nameD 4) (consRd (nameD 6) nilR))) nilR) (setD 4) [4])
  (seqS (appS 5 (bin2 (pur2 subF) (callD (one lenF) (consA (fldD ("Web" : Str) ("bells" : Str) (nameD 0)) nilA)) (callD (one lenF) (consA (nameD 4) nilA))))
  nextS)))
  (seqS (asgOS 7 (catF (heldD (lstF (consA (constD (.int 1)) nilA))) (bin2 (pur2 mulA) (heldD (lstF (consA (constD (.int 0)) nilA))) (bin2 (pur2 subF) (nameD 2) (callD (one lenF) (consA (nameD 1) nilA))))))
  (seqS (forS (itA (nameD 5)) (setD 8) [8] (seqS (forS (itR2 (consA (constD (.int 1)) (consA (ownLen 7) nilA))) (setD 9) [9] (seqS (augO 7 (nameD 9) (bin2 (pur2 mulA) (nameD 8) (ownIx 7 (bin2 (pur2 subF) (nameD 9) (constD (.int 1))))))
  nextS))
  nextS))
  (seqS (retS (ownIx 7 (un1 (pur1 negF) (constD (.int 1)))))
  nextS)))))))))))
noncomputable def f_pulled_so : List SV → Out D := fnOf 4 10 b_pulled_so
noncomputable def b_law_small_right : Env → Out Fl := (seqS (asgS (heldD (compF [7] (itA (callS (fnCall K57.f_law_all) (posA []) (consRd (nameD 2) (consRd (nameD 4) nilR)) nilR)) (setD 7) yesT (callS (fnCall K57.f_law_heard) (posA []) (consRd (nameD 1) (consRd (nameD 3) (consRd (nameD 7) nilR))) nilR))) (setD 5) [5])
  (seqS (forS (itR1 (consA (bin2 (pur2 addF) (nameD 4) (constD (.int 1))) nilA)) (setD 6) [6] (seqS (forS (itA (callS (fnCall K57.f_law_all) (posA []) (consRd (nameD 2) (consRd (nameD 6) nilR)) nilR)) (setD 7) [7] (seqS (ifS (valT (bin2 (pur2 (eqF false)) (callS (fnCall K57.f_law_heard) (posA []) (consRd (nameD 1) (consRd (nameD 3) (consRd (nameD 7) nilR))) nilR) (nameD 7))) (seqS (asgS (callD (one lenF) (consA (heldD (compF [9] (itA (nameD 5)) (setD 9) (valT (bin2 (pur2 (eqF false)) (nameD 9) (nameD 7))) (nameD 9))) nilA)) (setD 8) [8])
  (seqS (ifS (notT (valT (callS (fnCall K57.f_law_whole) (posA []) (consRd (callS (fnCall K57.f_pulled_so) kwA (consRd (nameD 0) (consRd (nameD 7) (consRd (nameD 4) nilR))) (consRd (nameD 3) nilR)) (consRd (nameD 8) nilR)) nilR))) (seqS (retS (constD (.bl false)))
  nextS) nextS)
  (seqS (ifS (andT (valT (bin2 (pur2 gtF) (nameD 6) (constD (.int 0)))) (valT (bin2 (pur2 (eqF true)) (callS (fnCall K57.f_pulled_so) kwA (consRd (nameD 0) (consRd (nameD 7) (consRd (bin2 (pur2 subF) (nameD 6) (constD (.int 1))) nilR))) (consRd (nameD 3) nilR)) (constD (.int 0))))) (seqS (retS (constD (.bl false)))
  nextS) nextS)
  nextS))) nextS)
  nextS))
  nextS))
  (seqS (retS (constD (.bl true)))
  nextS)))
noncomputable def f_law_small_right : List SV → Out D := fnOf 5 10 b_law_small_right
noncomputable def b_law_stand : Env → Out Fl := (seqS (parS [3, 4] (consMd (callS (fnCall K14.f_law_draw) (posA []) (consRr 0 (consRd (constD (.int 5)) nilR)) nilR) (consMd (heldD (compF [7] (itA (nameD 1)) (setD 7) (valT (bin2 (pur2 gtF) (callS (fnCall K14.f_law_draw) (posA []) (consRr 0 (consRd (constD (.int 3)) nilR)) nilR) (constD (.int 0)))) (nameD 7))) nilM)))
  (seqS (ifS (valT (bin2 (pur2 ltF) (nameD 3) (constD (.int 3)))) (seqS (retS (bin2 (pur2 ixF) (heldD (lstF (consA (nameD 1) (consA (tupD nilA) (consA (callD (one tupleF) (consA (nameD 4) nilA)) nilA))))) (nameD 3)))
  nextS) nextS)
  (seqS (asgS (nameD 1) (setD 5) [5])
  (seqS (forS (itR1 (consA (callS (fnCall K14.f_law_draw) (posA []) (consRr 0 (consRd (constD (.int 9)) nilR)) nilR) nilA)) (setD 6) [6] (seqS (asgS (callS (fnCall K57.f_law_step) (posA []) (consRd (nameD 2) (consRd (nameD 5) (consRd (bin2 (pur2 ixF) (nameD 1) (callS (fnCall K14.f_law_draw) (posA []) (consRr 0 (consRd (callD (one lenF) (consA (nameD 1) nilA)) nilR)) nilR)) nilR))) nilR) (setD 5) [5])
  nextS))
  (seqS (retS (ifD (valT (bin2 (pur2 (eqF false)) (nameD 3) (constD (.int 3)))) (nameD 5) (callD (one tupleF) (consA (nameD 4) nilA))))
  nextS)))))
noncomputable def f_law_stand : List SV → Out D := fnOf 3 8 b_law_stand
noncomputable def b_law_drawn : Env → Out Fl := (seqS (asgS (tupD nilA) (setD 4) [4])
  (seqS (forS (itR1 (consA (nameD 3) nilA)) (setD 5) [5] (seqS (ifS (valT (bin2 (pur2 (eqF true)) (nameD 2) (tupD nilA))) (seqS (asgS (bin2 (pur2 addF) (nameD 4) (tupD (consA (bin2 (pur2 ixF) (nameD 2) (callS (fnCall K14.f_law_draw) (posA []) (consRr 0 (consRd (callD (one lenF) (consA (nameD 2) nilA)) nilR)) nilR)) nilA))) (setD 4) [4])
  (seqS (asgS (callS (fnCall K57.f_law_step) (posA []) (consRd (nameD 1) (consRd (nameD 2) (consRd (bin2 (pur2 ixF) (nameD 4) (un1 (pur1 negF) (constD (.int 1)))) nilR))) nilR) (setD 2) [2])
  nextS)) nextS)
  nextS))
  (seqS (retS (nameD 4))
  nextS)))
noncomputable def f_law_drawn : List SV → Out D := fnOf 4 6 b_law_drawn
noncomputable def b_law_table : Env → Out Fl := (seqS (parT [5, 6] (consMd (bin2 (pur2 addF) (heldD (lstF (consA (constD (.int 1)) nilA))) (bin2 (pur2 mulA) (heldD (lstF (consA (constD (.int 0)) nilA))) (callD (one lenF) (consA (nameD 3) nilA)))) (consMf (newL (lstF (consA (nameD 2) nilA))) nilM)))
  (seqS (forS (itA (nameD 3)) (setD 7) [7] (seqS (appS 6 (callS (fnCall K57.f_law_step) (posA []) (consRd (nameD 0) (consRd (ownIx 6 (un1 (pur1 negF) (constD (.int 1)))) (consRd (nameD 7) nilR))) nilR))
  nextS))
  (seqS (forS (itR1 (consA (nameD 4) nilA)) (setD 8) [8] (seqS (asgS (heldD (compF [10] (itR1 (consA (callD (one lenF) (consA (nameD 5) nilA)) nilA)) (setD 10) yesT (bin2 (pur2 mulA) (bin2 (pur2 ixA) (nameD 5) (nameD 10)) (bin2 (pur2 subF) (callD (one lenF) (consA (nameD 1) nilA)) (callD (one lenF) (consA (ownIxA 6 (nameD 10)) nilA)))))) (setD 9) [9])
  (seqS (asgS (heldD (compF [10] (itR1 (consA (callD (one lenF) (consA (nameD 5) nilA)) nilA)) (setD 10) yesT (bin2 (pur2 addF) (bin2 (pur2 ixA) (nameD 9) (nameD 10)) (bin2 (pur2 ixA) (bin2 (pur2 addF) (heldD (lstF (consA (constD (.int 0)) nilA))) (nameD 5)) (nameD 10))))) (setD 5) [5])
  nextS)))
  (seqS (retS (bin2 (pur2 ixF) (nameD 5) (un1 (pur1 negF) (constD (.int 1)))))
  nextS))))
noncomputable def f_law_table : List SV → Out D := fnOf 5 11 b_law_table
noncomputable def b_law_wide_right : Env → Out Fl := (seqS (asgS (callS (fnCall K57.f_law_calls) (posA []) (consRr 0 (consRd (bin2 (pur2 addF) (constD (.int 1)) (callS (fnCall K14.f_law_draw) (posA []) (consRr 0 (consRd (constD (.int 12)) nilR)) nilR)) nilR)) nilR) (setD 1) [1])
  (seqS (asgS (callS (fnCall K57.f_law_links) (posA []) (consRr 0 (consRd (nameD 1) nilR)) nilR) (setD 2) [2])
  (seqS (parS [3, 4] (consMd (callS (mkCall ("Web" : Str) K04.f_Web_init) kwA (consRd (nameD 1) nilR) (consRd (nameD 2) nilR)) (consMd (callS (fnCall K57.f_law_stand) (posA []) (consRr 0 (consRd (nameD 1) (consRd (nameD 2) nilR))) nilR) nilM)))
  (seqS (asgS (bin2 (pur2 ixF) (heldD (lstF (consA (callS (fnCall K14.f_law_draw) (posA []) (consRr 0 (consRd (constD (.int 61)) nilR)) nilR) (consA (constD (.int 200)) nilA)))) (callD (one int1F) (consA (bin2 (pur2 (eqF false)) (callS (fnCall K14.f_law_draw) (posA []) (consRr 0 (consRd (constD (.int 4)) nilR)) nilR) (constD (.int 1))) nilA))) (setD 5) [5])
  (seqS (forS (itA (heldD (lstF (consA (constD (.int 0)) (consA (callS (fnCall K14.f_law_draw) (posA []) (consRr 0 (consRd (constD (.int 12)) nilR)) nilR) (consA (nameD 5) nilA)))))) (setD 6) [6] (seqS (asgS (callS (fnCall K57.f_law_drawn) (posA []) (consRr 0 (consRd (nameD 2) (consRd (nameD 4) (consRd (nameD 6) nilR)))) nilR) (setD 7) [7])
  (seqS (forS (itA (heldD (lstF (consA (callD (one lenF) (consA (nameD 7) nilA)) (consA (callD min2F (consA (constD (.int 200)) (consA (bin2 (pur2 addF) (callD (one lenF) (consA (nameD 7) nilA)) (callS (fnCall K14.f_law_draw) (posA []) (consRr 0 (consRd (constD (.int 9)) nilR)) nilR)) nilA))) (consA (constD (.int 200)) nilA)))))) (setD 9) [9] (seqS (asgS (callS (fnCall K57.f_law_table) (posA []) (consRd (nameD 2) (consRd (nameD 1) (consRd (nameD 4) (consRd (nameD 7) (consRd (nameD 9) nilR))))) nilR) (setD 8) [8])
  (seqS (ifS (notT (valT (callS (fnCall K57.f_law_whole) (posA []) (consRd (callS (fnCall K57.f_pulled_so) kwA (consRd (nameD 3) (consRd (nameD 7) (consRd (nameD 9) nilR))) (consRd (nameD 4) nilR)) (consRd (nameD 8) nilR)) nilR))) (seqS (retS (constD (.bl false)))
  nextS) nextS)
  (seqS (ifS (valT (bin2 (pur2 (eqF true)) (callS (fnCall K57.f_pulled_so) (layL (.d .non) (.d .non) [some 3, some 2, some 1, some 0]) nilR (consRd (nameD 4) (consRd (nameD 9) (consRd (nameD 7) (consRd (nameD 3) nilR))))) (nameD 8))) (seqS (retS (constD (.bl false)))
  nextS) nextS)
  nextS))))
  nextS)))
  (seqS (asgS (callS (fnCall K57.f_law_drawn) (posA []) (consRr 0 (consRd (nameD 2) (consRd (nameD 1) (consRd (bin2 (pur2 addF) (constD (.int 1)) (callS (fnCall K14.f_law_draw) (posA []) (consRr 0 (consRd (constD (.int 9)) nilR)) nilR)) nilR)))) nilR) (setD 7) [7])
  (seqS (asgS (callS (fnCall K57.f_law_table) (posA []) (consRd (nameD 2) (consRd (nameD 1) (consRd (nameD 1) (consRd (nameD 7) (consRd (bin2 (pur2 addF) (callD (one lenF) (consA (nameD 7) nilA)) (constD (.int 5))) nilR))))) nilR) (setD 8) [8])
  (seqS (ifS (orT (valT (bin2 (pur2 (eqF true)) (callS (fnCall K57.f_pulled_so) (layL (.d .non) (.d .non) [none]) (consRd (nameD 3) (consRd (nameD 7) (consRd (bin2 (pur2 addF) (callD (one lenF) (consA (nameD 7) nilA)) (constD (.int 5))) nilR))) nilR) (nameD 8))) (valT (bin2 (pur2 (eqF true)) (callS (fnCall K57.f_pulled_so) kwA (consRd (nameD 3) (consRd (nameD 7) (consRd (bin2 (pur2 addF) (callD (one lenF) (consA (nameD 7) nilA)) (constD (.int 5))) nilR))) (consRd (constD .non) nilR)) (nameD 8)))) (seqS (retS (constD (.bl false)))
  nextS) nextS)
  (seqS (retS (andD (bin2 (pur2 (eqF false)) (callS (fnCall K57.f_pulled_so) (layL (.d .non) (.d .non) [none]) (consRd (nameD 3) (consRd (tupD nilA) (consRd (constD (.int 3)) nilR))) nilR) (constD (.int 0))) (bin2 (pur2 (eqF false)) (callS (fnCall K57.f_pulled_so) (layL (.d .non) (.d .non) [none]) (consRd (nameD 3) (consRd (tupD nilA) (consRd (constD (.int 0)) nilR))) nilR) (constD (.int 1)))))
  nextS)))))))))
noncomputable def f_law_wide_right : List SV → Out D := fnOf 1 10 b_law_wide_right
noncomputable def b_law : Env → Out Fl := (seqS (forS (itR1 (consA (callD max2F (consA (constD (.int 2)) (consA (callD min2F (consA (constD (.int 5)) (consA (callD (one lenF) (consA (nameD 0) nilA)) nilA))) nilA))) nilA)) (setD 1) [1] (seqS (asgOS 2 (callLS K14.f_law_purse (consRd (callS (fnCall K14.f_law_cell) (posA []) (consRd (nameD 0) (consRd (nameD 1) nilR)) nilR) nilR)))
  (seqS (asgS (callS (fnCall K57.f_law_calls) (posA []) (consRr 2 (consRd (bin2 (pur2 ixF) (heldD (lstF (consA (bin2 (pur2 addF) (constD (.int 1)) (callS (fnCall K14.f_law_draw) (posA []) (consRr 2 (consRd (constD (.int 3)) nilR)) nilR)) (consA (constD (.int 4)) nilA)))) (callD (one int1F) (consA (bin2 (pur2 (eqF false)) (callS (fnCall K14.f_law_draw) (posA []) (consRr 2 (consRd (constD (.int 4)) nilR)) nilR) (constD (.int 2))) nilA))) nilR)) nilR) (setD 3) [3])
  (seqS (asgS (callS (fnCall K57.f_law_links) (posA []) (consRr 2 (consRd (nameD 3) nilR)) nilR) (setD 4) [4])
  (seqS (parS [5, 6] (consMd (callS (mkCall ("Web" : Str) K04.f_Web_init) kwA (consRd (nameD 3) nilR) (consRd (nameD 4) nilR)) (consMd (callS (fnCall K57.f_law_stand) (posA []) (consRr 2 (consRd (nameD 3) (consRd (nameD 4) nilR))) nilR) nilM)))
  (seqS (asgS (callS (fnCall K14.f_law_draw) (posA []) (consRr 2 (consRd (constD (.int 6)) nilR)) nilR) (setD 7) [7])
  (seqS (ifS (valT (bin2 (pur2 (eqF false)) (callD (one lenF) (consA (nameD 3) nilA)) (constD (.int 4)))) (seqS (asgS (callD min2F (consA (constD (.int 4)) (consA (nameD 7) nilA))) (setD 7) [7])
  nextS) nextS)
  (seqS (ifS (orT (notT (valT (callS (fnCall K57.f_law_small_right) (posA []) (consRd (nameD 5) (consRd (nameD 4) (consRd (nameD 3) (consRd (nameD 6) (consRd (nameD 7) nilR))))) nilR))) (notT (valT (callS (fnCall K57.f_law_wide_right) (posA []) (consRr 2 nilR) nilR)))) (seqS (retS (constD (.bl false)))
  nextS) nextS)
  nextS))))))))
  (seqS (retS (constD (.bl true)))
  nextS))
noncomputable def f_law : List SV → Out D := fnOf 1 8 b_law
end DL.K57
namespace DL.K41
open PySem L2
noncomputable def b_law_is_ring : Env → Out Fl := (seqS (ifS (orT (notT (valT (isiD (kbTy "tuple") (fun _ => none) (nameD 1)))) (orT (valT (bin2 (pur2 (eqF false)) (nameD 1) (tupD nilA))) (valT (callD (one anyF) (consA (heldD (compF [4] (itA (nameD 1)) (setD 4) yesT (bin2 (pur2 (inF true)) (nameD 4) (nameD 2)))) nilA))))) (seqS (retS (constD (.bl false)))
  nextS) nextS)
  (seqS (ifS (orT (valT (bin2 (pur2 (eqF true)) (callD (one lenF) (consA (heldD (sortSetF (nameD 1))) nilA)) (callD (one lenF) (consA (nameD 1) nilA)))) (valT (bin2 (pur2 (eqF true)) (callD (one minXF) (consA (nameD 1) nilA)) (bin2 (pur2 ixF) (nameD 1) (constD (.int 0)))))) (seqS (retS (constD (.bl false)))
  nextS) nextS)
  (seqS (retS (callD (one allF) (consA (heldD (compF [3] (itR1 (consA (callD (one lenF) (consA (nameD 1) nilA)) nilA)) (setD 3) yesT (bin2 (pur2 (inF false)) (tupD (consA (bin2 (pur2 ixF) (nameD 1) (bin2 (pur2 subF) (nameD 3) (constD (.int 1)))) (consA (bin2 (pur2 ixA) (nameD 1) (nameD 3)) nilA))) (nameD 0)))) nilA)))
  nextS)))
noncomputable def f_law_is_ring : List SV → Out D := fnOf 3 5 b_law_is_ring
noncomputable def b_law_is_row : Env → Out Fl := (seqS (ifS (orT (notT (valT (isiD (kbTy "tuple") (fun _ => none) (nameD 2)))) (valT (callD (one anyF) (consA (heldD (compF [5] (itA (nameD 2)) (setD 5) yesT (bin2 (pur2 (inF true)) (nameD 5) (nameD 1)))) nilA)))) (seqS (retS (constD (.bl false)))
  nextS) nextS)
  (seqS (ifS (valT (bin2 (pur2 (eqF true)) (callD (one lenF) (consA (heldD (sortSetF (nameD 2))) nilA)) (callD (one lenF) (consA (nameD 2) nilA)))) (seqS (retS (constD (.bl false)))
  nextS) nextS)
  (seqS (asgS (nameD 1) (setD 4) [4])
  (seqS (forS (itA (nameD 2)) (setD 5) [5] (seqS (ifS (valT (bin2 (pur2 (inF true)) (nameD 5) (nameD 4))) (seqS (retS (constD (.bl false)))
  nextS) nextS)
  (seqS (asgS (callS (fnCall K57.f_law_step) (posA []) (consRd (nameD 0) (consRd (nameD 4) (consRd (nameD 5) nilR))) nilR) (setD 4) [4])
  nextS)))
  (seqS (retS (bin2 (pur2 (eqF false)) (nameD 4) (nameD 3)))
  nextS)))))
noncomputable def f_law_is_row : List SV → Out D := fnOf 4 6 b_law_is_row
noncomputable def b_law_ringless : Env → Out Fl := (seqS (asgS (heldD (listF (consA (nameD 1) nilA))) (setD 2) [2])
  (seqS (forS (itR1 (consA (callD (one lenF) (consA (nameD 1) nilA)) nilA)) (setD 3) [3] (seqS (asgS (heldD (compF [4] (itA (nameD 2)) (setD 4) (valT (callD (one anyF) (consA (heldD (compF [5] (itA (nameD 0)) (setD 5) yesT (andD (bin2 (pur2 (eqF false)) (bin2 (pur2 ixF) (nameD 5) (constD (.int 1))) (nameD 4)) (bin2 (pur2 (inF false)) (bin2 (pur2 ixF) (nameD 5) (constD (.int 0))) (nameD 2))))) nilA))) (nameD 4))) (setD 2) [2])
  nextS))
  (seqS (retS (bin2 (pur2 (eqF false)) (nameD 2) (heldD (lstF nilA))))
  nextS)))
noncomputable def f_law_ringless : List SV → Out D := fnOf 2 6 b_law_ringless
noncomputable def b_law_judged : Env → Out Fl := (seqS (asgS (heldD (compF [5] (itA (nameD 1)) (setD 5) (valT (bin2 (pur2 (inF true)) (nameD 5) (nameD 2))) (nameD 5))) (setD 4) [4])
  (seqS (ifS (orT (notT (valT (isiD (kbTy "tuple") (fun _ => none) (nameD 3)))) (valT (bin2 (pur2 (eqF true)) (callD (one lenF) (consA (nameD 3) nilA)) (constD (.int 2))))) (seqS (retS (constD (.bl false)))
  nextS) nextS)
  (seqS (ifS (valT (callS (fnCall K41.f_law_ringless) (posA []) (consRd (nameD 0) (consRd (nameD 4) nilR)) nilR)) (seqS (retS (andD (bin2 (pur2 (eqF false)) (bin2 (pur2 ixF) (nameD 3) (constD (.int 0))) (constD (.str ("row" : Str)))) (callS (fnCall K41.f_law_is_row) (posA []) (consRd (nameD 0) (consRd (nameD 1) (consRd (bin2 (pur2 ixF) (nameD 3) (constD (.int 1))) (consRd (nameD 2) nilR)))) nilR)))
  nextS) nextS)
  (seqS (retS (andD (bin2 (pur2 (eqF false)) (bin2 (pur2 ixF) (nameD 3) (constD (.int 0))) (constD (.str ("ring" : Str)))) (callS (fnCall K41.f_law_is_ring) (posA []) (consRd (nameD 0) (consRd (bin2 (pur2 ixF) (nameD 3) (constD (.int 1))) (consRd (nameD 4) nilR))) nilR)))
  nextS))))
noncomputable def f_law_judged : List SV → Out D := fnOf 4 6 b_law_judged
noncomputable def b_came_by : Env → Out Fl := (seqS (parS [3, 4] (consMf (dcF [7] (itA (nameD 1)) (setD 7) yesT (nameD 7) (constD .non)) (consMf (newL (listF (consA (nameD 1) nilA))) nilM)))
  (seqS (asgS (constD (.int 0)) (setD 5) [5])
  (seqS (whileS (valT (bin2 (pur2 ltF) (nameD 5) (ownLen 4))) (seqS (forS (itA (methS ("Web" : Str) ("woken" : Str) K04.f_Web_woken [] (nameD 0) (consRd (ownIxA 4 (nameD 5)) nilR))) (setD 6) [6] (seqS (ifS (andT (valT (bin2 (pur2 (inF false)) (nameD 6) (nameD 2))) (valT (ownInD true 3 (nameD 6)))) (seqS (storeA 3 (nameD 6) (ownIxA 4 (nameD 5)))
  (seqS (appS 4 (nameD 6))
  nextS)) nextS)
  nextS))
  (seqS (augS addI 5 (constD (.int 1)))
  nextS)) fuel)
  (seqS (retS (nameD 3))
  nextS))))
noncomputable def f_came_by : List SV → Out D := fnOf 3 8 b_came_by
noncomputable def b_least_first : Env → Out Fl := (seqS (asgS (idxA (nameD 0) (callD (one minXF) (consA (nameD 0) nilA))) (setD 1) [1])
  (seqS (retS (bin2 (pur2 addF) (cutA (nameD 0) (someO (nameD 1)) noO) (cutA (nameD 0) noO (someO (nameD 1)))))
  nextS))
noncomputable def f_least_first : List SV → Out D := fnOf 1 2 b_least_first
noncomputable def b_way_back : Env → Out Fl := (seqS (asgOS 2 (lstF (consA (nameD 1) nilA)))
  (seqS (whileS (valT (bin2 (pur2 (isF true)) (bin2 (pur2 ixA) (nameD 0) (ownIx 2 (un1 (pur1 negF) (constD (.int 1))))) (constD .non))) (seqS (appS 2 (bin2 (pur2 ixA) (nameD 0) (ownIx 2 (un1 (pur1 negF) (constD (.int 1))))))
  nextS) fuel)
  (seqS (retS (callD (one tupleF) (consA (heldD (stepL (nameD 2) (un1 (pur1 negF) (constD (.int 1))))) nilA)))
  nextS)))
noncomputable def f_way_back : List SV → Out D := fnOf 2 3 b_way_back
noncomputable def b_ring_in : Env → Out Fl := (seqS (dropS (callS (fnCall K14.f_check_web) (posA []) (consRd (nameD 0) nilR) nilR))
  (seqS (asgS (callS (fnCall K14.f_stand_of) (posA []) (consRd (nameD 0) (consRd (nameD 1) nilR)) nilR) (setD 2) [2])
  (seqS (forS (itA (nameD 2)) (setD 3) [3] (seqS (asgS (callS (fnCall K41.f_came_by) (posA []) (consRd (nameD 0) (consRd (tupD (consA (nameD 3) nilA)) (consRd (nameD 2) nilR))) nilR) (setD 4) [4])
  (seqS (forS (itD (nameD 4)) (setD 5) [5] (seqS (ifS (valT (bin2 (pur2 (inF false)) (tupD (consA (nameD 5) (consA (nameD 3) nilA))) (fldD ("Web" : Str) ("wakes" : Str) (nameD 0)))) (seqS (retS (callS (fnCall K41.f_least_first) (posA []) (consRd (callS (fnCall K41.f_way_back) (posA []) (consRd (nameD 4) (consRd (nameD 5) nilR)) nilR) nilR) nilR))
  nextS) nextS)
  nextS))
  nextS)))
  (seqS (retS (constD .non))
  nextS))))
noncomputable def f_ring_in : List SV → Out D := fnOf 2 6 b_ring_in
noncomputable def b_waking_order : Env → Out Fl := (seqS (parT [2, 3] (consMd (heldD (listF (consA (nameD 1) nilA))) (consMf (newL (lstF nilA)) nilM)))
  (seqS (whileS (valT (bin2 (pur2 (eqF true)) (nameD 2) (heldD (lstF nilA)))) (seqS (asgS (heldD (compF [5] (itA (nameD 2)) (setD 5) (notT (valT (callD (one anyF) (consA (heldD (compF [6] (itA (methS ("Web" : Str) ("wakers" : Str) K04.f_Web_wakers [] (nameD 0) (consRd (nameD 5) nilR))) (setD 6) yesT (bin2 (pur2 (inF false)) (nameD 6) (nameD 2)))) nilA)))) (nameD 5))) (setD 4) [4])
  (seqS (ifS (valT (bin2 (pur2 (eqF false)) (nameD 4) (heldD (lstF nilA)))) (seqS (retS (constD .non))
  nextS) nextS)
  (seqS (extS 3 (nameD 4))
  (seqS (asgS (heldD (compF [5] (itA (nameD 2)) (setD 5) (valT (bin2 (pur2 (inF true)) (nameD 5) (nameD 4))) (nameD 5))) (setD 2) [2])
  nextS)))) fuel)
  (seqS (retS (nameD 3))
  nextS)))
noncomputable def f_waking_order : List SV → Out D := fnOf 2 7 b_waking_order
noncomputable def b_from_first : Env → Out Fl := (seqS (dropS (callS (fnCall K14.f_check_web) (posA []) (consRd (nameD 0) nilR) nilR))
  (seqS (asgS (callS (fnCall K14.f_stand_of) (posA []) (consRd (nameD 0) (consRd (nameD 1) nilR)) nilR) (setD 2) [2])
  (seqS (asgS (callD (one tupleF) (consA (heldD (compF [5] (itA (fldD ("Web" : Str) ("bells" : Str) (nameD 0))) (setD 5) (valT (bin2 (pur2 (inF true)) (nameD 5) (nameD 2))) (nameD 5))) nilA)) (setD 3) [3])
  (seqS (asgS (callS (fnCall K41.f_waking_order) (posA []) (consRd (nameD 0) (consRd (nameD 3) nilR)) nilR) (setD 4) [4])
  (seqS (retS (ifD (valT (bin2 (pur2 (isF false)) (nameD 4) (constD .non))) (tupD (consA (constD (.str ("ring" : Str))) (consA (callS (fnCall K41.f_ring_in) kwA (consRd (nameD 0) nilR) (consRd (nameD 3) nilR)) nilA))) (tupD (consA (constD (.str ("row" : Str))) (consA (callD (one tupleF) (consA (nameD 4) nilA)) nilA)))))
  nextS)))))
noncomputable def f_from_first : List SV → Out D := fnOf 2 6 b_from_first
noncomputable def b_law_right : Env → Out Fl := (seqS (asgS (callS (fnCall K41.f_from_first) (posA []) (consRd (nameD 0) (consRd (nameD 3) nilR)) nilR) (setD 4) [4])
  (seqS (retS (andD (bin2 (pur2 (eqF false)) (callS (fnCall K41.f_from_first) (layL (.d .non) (.d .non) [some 1, some 0]) nilR (consRd (nameD 3) (consRd (nameD 0) nilR))) (nameD 4)) (callS (fnCall K41.f_law_judged) (posA []) (consRd (nameD 1) (consRd (nameD 2) (consRd (nameD 3) (consRd (nameD 4) nilR)))) nilR)))
  nextS))
noncomputable def f_law_right : List SV → Out D := fnOf 4 5 b_law_right
noncomputable def b_law : Env → Out Fl := (seqS (forS (itR1 (consA (callD max2F (consA (constD (.int 2)) (consA (callD min2F (consA (constD (.int 6)) (consA (callD (one lenF) (consA (nameD 0) nilA)) nilA))) nilA))) nilA)) (setD 1) [1] (seqS (asgOS 2 (callLS K14.f_law_purse (consRd (callS (fnCall K14.f_law_cell) (posA []) (consRd (nameD 0) (consRd (nameD 1) nilR)) nilR) nilR)))
  (seqS (asgS (callS (fnCall K57.f_law_calls) (posA []) (consRr 2 (consRd (bin2 (pur2 ixF) (heldD (lstF (consA (bin2 (pur2 addF) (constD (.int 1)) (callS (fnCall K14.f_law_draw) (posA []) (consRr 2 (consRd (constD (.int 7)) nilR)) nilR)) (consA (constD (.int 12)) nilA)))) (callD (one int1F) (consA (bin2 (pur2 (eqF false)) (callS (fnCall K14.f_law_draw) (posA []) (consRr 2 (consRd (constD (.int 8)) nilR)) nilR) (constD (.int 5))) nilA))) nilR)) nilR) (setD 3) [3])
  (seqS (forS (itA (heldD (lstF (consA (callS (fnCall K57.f_law_links) (posA []) (consRr 2 (consRd (nameD 3) nilR)) nilR) (consA (callS (fnCall K57.f_law_links) (posA []) (consRr 2 (consRd (nameD 3) nilR)) nilR) nilA))))) (setD 4) [4] (seqS (parT [5, 6] (consMd (callS (mkCall ("Web" : Str) K04.f_Web_init) kwA (consRd (nameD 3) nilR) (consRd (nameD 4) nilR)) (consMd (heldD (compF [7] (itR1 (consA (constD (.int 4)) nilA)) (setD 7) yesT (callS (fnCall K57.f_law_stand) (posA []) (consRr 2 (consRd (nameD 3) (consRd (nameD 4) nilR))) nilR))) nilM)))
  (seqS (ifS (notT (valT (callD (one allF) (consA (heldD (compF [8] (itA (bin2 (pur2 addF) (nameD 6) (heldD (lstF (consA (nameD 3) (consA (tupD nilA) nilA)))))) (setD 8) yesT (callS (fnCall K41.f_law_right) (posA []) (consRd (nameD 5) (consRd (nameD 4) (consRd (nameD 3) (consRd (nameD 8) nilR)))) nilR))) nilA)))) (seqS (retS (constD (.bl false)))
  nextS) nextS)
  (seqS (ifS (notT (valT (callS (fnCall K41.f_law_judged) (posA []) (consRd (nameD 4) (consRd (nameD 3) (consRd (nameD 3) (consRd (callS (fnCall K41.f_from_first) (posA []) (consRd (nameD 5) (consRd (constD .non) nilR)) nilR) nilR)))) nilR))) (seqS (retS (constD (.bl false)))
  nextS) nextS)
  nextS))))
  nextS))))
  (seqS (retS (constD (.bl true)))
  nextS))
noncomputable def f_law : List SV → Out D := fnOf 1 9 b_law
end DL.K41
namespace DL.K42
open PySem L2
noncomputable def b_how_many_stands : Env → Out Fl := (seqS (dropS (callS (fnCall K14.f_check_web) (posA []) (consRd (nameD 0) nilR) nilR))
  (seqS (asgS (heldO (dcF [6, 7] (itEA (consA (fldD ("Web" : Str) ("bells" : Str) (nameD 0)) nilA)) (setTup 2 (setCons (setD 6) (setCons (setD 7) setNil))) yesT (nameD 7) (nameD 6))) (setD 1) [1])
  (seqS (asgS (heldD (compF [7] (itA (fldD ("Web" : Str) ("bells" : Str) (nameD 0))) (setD 7) yesT (callD (one sumF) (consA (heldD (compF [8] (itA (methS ("Web" : Str) ("wakers" : Str) K04.f_Web_wakers [] (nameD 0) (consRd (nameD 7) nilR))) (setD 8) yesT (bin2 (pur2 shlF) (constD (.int 1)) (bin2 (pur2 ixA) (nameD 1) (nameD 8))))) nilA)))) (setD 2) [2])
  (seqS (asgOS 3 (lstF (consA (constD (.int 1)) nilA)))
  (seqS (forS (itR2 (consA (constD (.int 1)) (consA (bin2 (pur2 shlF) (constD (.int 1)) (callD (one lenF) (consA (fldD ("Web" : Str) ("bells" : Str) (nameD 0)) nilA))) nilA))) (setD 4) [4] (seqS (asgS (heldD (compF [6] (itR1 (consA (callD (one lenF) (consA (fldD ("Web" : Str) ("bells" : Str) (nameD 0)) nilA)) nilA)) (setD 6) (andT (valT (bin2 (pur2 (eqF false)) (bin2 (pur2 bandF) (bin2 (pur2 shrF) (nameD 4) (nameD 6)) (constD (.int 1))) (constD (.int 1)))) (valT (bin2 (pur2 (eqF false)) (bin2 (pur2 bandF) (bin2 (pur2 ixA) (nameD 2) (nameD 6)) (nameD 4)) (constD (.int 0))))) (nameD 6))) (setD 5) [5])
  (seqS (appS 3 (ifD (valT (bin2 (pur2 (eqF false)) (nameD 5) (heldD (lstF nilA)))) (constD (.int 0)) (ownIx 3 (bin2 (pur2 subF) (nameD 4) (bin2 (pur2 shlF) (constD (.int 1)) (bin2 (pur2 ixF) (nameD 5) (constD (.int 0))))))))
  nextS)))
  (seqS (retS (callD (one sumF) (consA (nameD 3) nilA)))
  nextS))))))
noncomputable def f_how_many_stands : List SV → Out D := fnOf 1 9 b_how_many_stands
noncomputable def b_law_is : Env → Out Fl := (seqS (asgOS 2 (lstF (consA (callS (fnCall K42.f_how_many_stands) (posA []) (consRd (nameD 0) nilR) nilR) nilA)))
  (seqS (ifS (valT (bin2 (pur2 ltF) (callD (one lenF) (consA (fldD ("Web" : Str) ("bells" : Str) (nameD 0)) nilA)) (constD (.int 8)))) (seqS (appS 2 (callS (fnCall K42.f_how_many_stands) (layL (.d .non) (.d .non) [some 0]) nilR (consRd (nameD 0) nilR)))
  nextS) nextS)
  (seqS (retS (bin2 (pur2 (eqF false)) (callD (one reprA) (consA (nameD 2) nilA)) (callD (one reprA) (consA (bin2 (pur2 mulA) (heldD (lstF (consA (nameD 1) nilA))) (ownLen 2)) nilA))))
  nextS)))
noncomputable def f_law_is : List SV → Out D := fnOf 2 3 b_law_is
noncomputable def b_law_table_count : Env → Out Fl := (seqS (parT [2, 3, 4] (consMd (heldD (listRgF (callD (one lenF) (consA (nameD 1) nilA)))) (consMf (newL (lstF (consA (constD (.int 1)) nilA))) (consMf (newL (lstF (consA (constD (.int 1)) nilA))) nilM))))
  (seqS (forS (itA (nameD 1)) (setD 5) [5] (seqS (appS 3 (bin2 (pur2 mulA) (constD (.int 2)) (ownIx 3 (un1 (pur1 negF) (constD (.int 1))))))
  nextS))
  (seqS (asgS (heldD (compF [5] (itA (nameD 1)) (setD 5) yesT (heldD (compF [10] (itA (nameD 1)) (setD 10) yesT (bin2 (pur2 (inF false)) (tupD (consA (nameD 10) (consA (nameD 5) nilA))) (nameD 0)))))) (setD 6) [6])
  (seqS (forS (itR2 (consA (constD (.int 1)) (consA (ownIx 3 (un1 (pur1 negF) (constD (.int 1)))) nilA))) (setD 7) [7] (seqS (asgS (heldD (compF [11] (itA (nameD 2)) (setD 11) (valT (bin2 (pur2 (eqF false)) (bin2 (pur2 modF) (bin2 (pur2 fdivF) (nameD 7) (ownIxA 3 (nameD 11))) (constD (.int 2))) (constD (.int 1)))) (nameD 11))) (setD 8) [8])
  (seqS (asgS (heldD (compF [11] (itA (nameD 8)) (setD 11) (notT (valT (callD (one anyF) (consA (heldD (compF [12] (itA (nameD 8)) (setD 12) yesT (bin2 (pur2 ixA) (bin2 (pur2 ixA) (nameD 6) (nameD 11)) (nameD 12)))) nilA)))) (nameD 11))) (setD 9) [9])
  (seqS (appS 4 (ifD (valT (bin2 (pur2 (eqF true)) (nameD 9) (heldD (lstF nilA)))) (ownIx 4 (bin2 (pur2 subF) (nameD 7) (ownIxA 3 (bin2 (pur2 ixF) (nameD 9) (constD (.int 0)))))) (constD (.int 0))))
  nextS))))
  (seqS (retS (callD (one sumF) (consA (nameD 4) nilA)))
  nextS)))))
noncomputable def f_law_table_count : List SV → Out D := fnOf 2 13 b_law_table_count
noncomputable def b_law_selves : Env → Out Fl := (seqS (retS (callD (one tupleF) (consA (heldD (compF [1] (itA (nameD 0)) (setD 1) yesT (tupD (consA (nameD 1) (consA (nameD 1) nilA))))) nilA)))
  nextS)
noncomputable def f_law_selves : List SV → Out D := fnOf 1 2 b_law_selves
noncomputable def b_law_told_ones_right : Env → Out Fl := (seqS (asgS (callS (fnCall K57.f_law_calls) (posA []) (consRr 0 (consRd (bin2 (pur2 addF) (constD (.int 1)) (callS (fnCall K14.f_law_draw) (posA []) (consRr 0 (consRd (constD (.int 12)) nilR)) nilR)) nilR)) nilR) (setD 1) [1])
  (seqS (asgS (callD (one lenF) (consA (nameD 1) nilA)) (setD 2) [2])
  (seqS (asgS (callD (one tupleF) (consA (heldD (sortF (consA (heldD (compF [7] (itR1 (consA (nameD 2) nilA)) (setD 7) yesT (tupD (consA (bin2 (pur2 ixF) (nameD 1) (bin2 (pur2 subF) (nameD 7) (constD (.int 1)))) (consA (bin2 (pur2 ixA) (nameD 1) (nameD 7)) nilA))))) nilA))) nilA)) (setD 3) [3])
  (seqS (asgOS 4 (lstF nilA))
  (seqS (forS (itA (nameD 1)) (setD 5) [5] (seqS (extS 4 (heldD (compF [8] (itA (nameD 1)) (setD 8) (valT (bin2 (pur2 (eqF true)) (nameD 8) (nameD 5))) (tupD (consA (nameD 5) (consA (nameD 8) nilA))))))
  nextS))
  (seqS (asgS (constD (.int 1)) (setD 6) [6])
  (seqS (forS (itA (nameD 1)) (setD 5) [5] (seqS (asgS (bin2 (pur2 mulA) (constD (.int 2)) (nameD 6)) (setD 6) [6])
  nextS))
  (seqS (ifS (orT (notT (valT (callS (fnCall K42.f_law_is) (posA []) (consRd (callS (mkCall ("Web" : Str) K04.f_Web_init) (layL (.d .non) (.d (.tup [])) [none]) (consRd (nameD 1) nilR) nilR) (consRd (nameD 6) nilR)) nilR))) (notT (valT (callS (fnCall K42.f_law_is) (posA []) (consRd (callS (mkCall ("Web" : Str) K04.f_Web_init) kwA (consRd (nameD 1) nilR) (consRd (nameD 3) nilR)) (consRd (bin2 (pur2 subF) (nameD 6) (constD (.int 1))) nilR)) nilR)))) (seqS (retS (constD (.bl false)))
  nextS) nextS)
  (seqS (retS (andD (callS (fnCall K42.f_law_is) (posA []) (consRd (callS (mkCall ("Web" : Str) K04.f_Web_init) kwA (consRd (nameD 1) nilR) (consRd (callD (one tupleF) (consA (nameD 4) nilA)) nilR)) (consRd (bin2 (pur2 addF) (nameD 2) (constD (.int 1))) nilR)) nilR) (callS (fnCall K42.f_law_is) (posA []) (consRd (callS (mkCall ("Web" : Str) K04.f_Web_init) kwA (consRd (nameD 1) nilR) (consRd (callS (fnCall K42.f_law_selves) (posA []) (consRd (nameD 1) nilR) nilR) nilR)) (consRd (constD (.int 1)) nilR)) nilR)))
  nextS)))))))))
noncomputable def f_law_told_ones_right : List SV → Out D := fnOf 1 9 b_law_told_ones_right
noncomputable def b_law : Env → Out Fl := (seqS (forS (itR1 (consA (callD max2F (consA (constD (.int 2)) (consA (callD min2F (consA (constD (.int 5)) (consA (callD (one lenF) (consA (nameD 0) nilA)) nilA))) nilA))) nilA)) (setD 1) [1] (seqS (asgOS 2 (callLS K14.f_law_purse (consRd (callS (fnCall K14.f_law_cell) (posA []) (consRd (nameD 0) (consRd (nameD 1) nilR)) nilR) nilR)))
  (seqS (asgS (callS (fnCall K57.f_law_calls) (posA []) (consRr 2 (consRd (bin2 (pur2 addF) (constD (.int 1)) (callS (fnCall K14.f_law_draw) (posA []) (consRr 2 (consRd (constD (.int 7)) nilR)) nilR)) nilR)) nilR) (setD 3) [3])
  (seqS (asgS (callS (fnCall K57.f_law_links) (posA []) (consRr 2 (consRd (nameD 3) nilR)) nilR) (setD 4) [4])
  (seqS (asgS (callD (one lenF) (consA (heldD (compF [7] (itA (callS (fnCall K13.f_law_stands) (posA []) (consRd (nameD 3) nilR) nilR)) (setD 7) (valT (callS (fnCall K41.f_law_ringless) (posA []) (consRd (nameD 4) (consRd (nameD 7) nilR)) nilR)) (nameD 7))) nilA)) (setD 5) [5])
  (seqS (ifS (notT (valT (callS (fnCall K42.f_law_is) (posA []) (consRd (callS (mkCall ("Web" : Str) K04.f_Web_init) kwA (consRd (nameD 3) nilR) (consRd (nameD 4) nilR)) (consRd (nameD 5) nilR)) nilR))) (seqS (retS (constD (.bl false)))
  nextS) nextS)
  (seqS (ifS (andT (valT (bin2 (pur2 (eqF false)) (nameD 1) (constD (.int 0)))) (notT (valT (callS (fnCall K42.f_law_told_ones_right) (posA []) (consRr 2 nilR) nilR)))) (seqS (retS (constD (.bl false)))
  nextS) nextS)
  (seqS (ifS (valT (bin2 (pur2 (eqF false)) (callS (fnCall K14.f_law_draw) (posA []) (consRr 2 (consRd (constD (.int 4)) nilR)) nilR) (constD (.int 1)))) (seqS (asgS (callS (fnCall K57.f_law_calls) (posA []) (consRr 2 (consRd (callD min2F (consA (bin2 (pur2 addF) (constD (.int 8)) (callS (fnCall K14.f_law_draw) (posA []) (consRr 2 (consRd (constD (.int 5)) nilR)) nilR)) (consA (bin2 (pur2 ixF) (heldD (lstF (consA (constD (.int 12)) (consA (constD (.int 10)) nilA)))) (callD (one int1F) (consA (bin2 (pur2 gtF) (nameD 1) (constD (.int 0))) nilA))) nilA))) nilR)) nilR) (setD 6) [6])
  (seqS (asgS (callS (fnCall K57.f_law_links) (posA []) (consRr 2 (consRd (nameD 6) nilR)) nilR) (setD 4) [4])
  (seqS (ifS (notT (valT (callS (fnCall K42.f_law_is) (posA []) (consRd (callS (mkCall ("Web" : Str) K04.f_Web_init) kwA (consRd (nameD 6) nilR) (consRd (nameD 4) nilR)) (consRd (callS (fnCall K42.f_law_table_count) (posA []) (consRd (nameD 4) (consRd (nameD 6) nilR)) nilR) nilR)) nilR))) (seqS (retS (constD (.bl false)))
  nextS) nextS)
  nextS))) nextS)
  nextS))))))))
  (seqS (retS (constD (.bl true)))
  nextS))
noncomputable def f_law : List SV → Out D := fnOf 1 8 b_law
end DL.K42
namespace DL.K42
open PySem PySem.Spec PyProof.Rows L2
noncomputable def top (i : Nat) : Stmt := PySem.Challenge.pw_wakebells_k42_how_many_stands_come.main.body.getD i (.Pass ⟨0, 0, 0, 0⟩)
noncomputable abbrev s_is_name : Stmt := top 12
noncomputable abbrev s_check_bells : Stmt := top 13
noncomputable abbrev s_is_wake : Stmt := top 14
noncomputable abbrev s_check_wakes : Stmt := top 15
noncomputable abbrev s_Web_init : Stmt := inClass (top 16) 0
noncomputable abbrev s_law_draw : Stmt := top 24
noncomputable abbrev s_law_calls : Stmt := top 25
noncomputable abbrev s_law_cell : Stmt := top 22
noncomputable abbrev s_check_bell : Stmt := top 18
noncomputable abbrev s_Web_wakers : Stmt := inClass (top 16) 2
noncomputable abbrev s_check_web : Stmt := top 17
noncomputable abbrev s_how_many_stands : Stmt := top 20
noncomputable abbrev s_law_is : Stmt := top 29
noncomputable abbrev s_law_links : Stmt := top 26
noncomputable abbrev s_law_lots : Stmt := top 28
noncomputable abbrev s_law_purse : Stmt := top 23
noncomputable abbrev s_law_ringless : Stmt := top 27
noncomputable abbrev s_law_table_count : Stmt := top 31
noncomputable abbrev s_law_selves : Stmt := top 32
noncomputable abbrev s_law_told_ones_right : Stmt := top 30
noncomputable abbrev s_law : Stmt := top 33
set_option genInjectivity false in
set_option genSizeOf false in
set_option genInjectivity false in
set_option genSizeOf false in
/-- what the top has written, as the walk wants it -/
structure TX (P : Program) (w : World) (K : PySem.W.Frag) (mg : Str → Option Value) where
  C_Web : Addr
  a_is_name : Addr
  fd_is_name : FuncData
  fn_is_name : FunD K ("is_name" : Str) ("is_name" : Str) (defArgs s_is_name) (defBody s_is_name) (defScope s_is_name) [] [] a_is_name fd_is_name
  a_check_bells : Addr
  fd_check_bells : FuncData
  fn_check_bells : FunD K ("check_bells" : Str) ("check_bells" : Str) (defArgs s_check_bells) (defBody s_check_bells) (defScope s_check_bells) [] [] a_check_bells fd_check_bells
  a_is_wake : Addr
  fd_is_wake : FuncData
  fn_is_wake : FunD K ("is_wake" : Str) ("is_wake" : Str) (defArgs s_is_wake) (defBody s_is_wake) (defScope s_is_wake) [] [] a_is_wake fd_is_wake
  a_check_wakes : Addr
  fd_check_wakes : FuncData
  fn_check_wakes : FunD K ("check_wakes" : Str) ("check_wakes" : Str) (defArgs s_check_wakes) (defBody s_check_wakes) (defScope s_check_wakes) [] [] a_check_wakes fd_check_wakes
  e_Web_init : Addr
  et_Web_init : ∀ H, TB K H e_Web_init []
  a_Web_init : Addr
  fd_Web_init : FuncData
  fn_Web_init : FunD K ("__init__" : Str) ("Web.__init__" : Str) (defArgs s_Web_init) (defBody s_Web_init) (defScope s_Web_init) [] [(("wakes" : Str), V.ref e_Web_init)] a_Web_init fd_Web_init
  a_law_draw : Addr
  fd_law_draw : FuncData
  fn_law_draw : FunD K ("_law_draw" : Str) ("_law_draw" : Str) (defArgs s_law_draw) (defBody s_law_draw) (defScope s_law_draw) [] [] a_law_draw fd_law_draw
  a_law_calls : Addr
  fd_law_calls : FuncData
  fn_law_calls : FunD K ("_law_calls" : Str) ("_law_calls" : Str) (defArgs s_law_calls) (defBody s_law_calls) (defScope s_law_calls) [] [] a_law_calls fd_law_calls
  a_law_cell : Addr
  fd_law_cell : FuncData
  fn_law_cell : FunD K ("_law_cell" : Str) ("_law_cell" : Str) (defArgs s_law_cell) (defBody s_law_cell) (defScope s_law_cell) [] [] a_law_cell fd_law_cell
  a_check_bell : Addr
  fd_check_bell : FuncData
  fn_check_bell : FunD K ("check_bell" : Str) ("check_bell" : Str) (defArgs s_check_bell) (defBody s_check_bell) (defScope s_check_bell) [] [] a_check_bell fd_check_bell
  a_Web_wakers : Addr
  fd_Web_wakers : FuncData
  fn_Web_wakers : FunD K ("wakers" : Str) ("Web.wakers" : Str) (defArgs s_Web_wakers) (defBody s_Web_wakers) (defScope s_Web_wakers) [] [] a_Web_wakers fd_Web_wakers
  a_check_web : Addr
  fd_check_web : FuncData
  fn_check_web : FunD K ("check_web" : Str) ("check_web" : Str) (defArgs s_check_web) (defBody s_check_web) (defScope s_check_web) [] [] a_check_web fd_check_web
  a_how_many_stands : Addr
  fd_how_many_stands : FuncData
  fn_how_many_stands : FunD K ("how_many_stands" : Str) ("how_many_stands" : Str) (defArgs s_how_many_stands) (defBody s_how_many_stands) (defScope s_how_many_stands) [] [] a_how_many_stands fd_how_many_stands
  a_law_is : Addr
  fd_law_is : FuncData
  fn_law_is : FunD K ("_law_is" : Str) ("_law_is" : Str) (defArgs s_law_is) (defBody s_law_is) (defScope s_law_is) [] [] a_law_is fd_law_is
  a_law_links : Addr
  fd_law_links : FuncData
  fn_law_links : FunD K ("_law_links" : Str) ("_law_links" : Str) (defArgs s_law_links) (defBody s_law_links) (defScope s_law_links) [] [] a_law_links fd_law_links
  a_law_lots : Addr
  fd_law_lots : FuncData
  fn_law_lots : FunD K ("_law_lots" : Str) ("_law_lots" : Str) (defArgs s_law_lots) (defBody s_law_lots) (defScope s_law_lots) [] [] a_law_lots fd_law_lots
  a_law_purse : Addr
  fd_law_purse : FuncData
  fn_law_purse : FunD K ("_law_purse" : Str) ("_law_purse" : Str) (defArgs s_law_purse) (defBody s_law_purse) (defScope s_law_purse) [] [] a_law_purse fd_law_purse
  a_law_ringless : Addr
  fd_law_ringless : FuncData
  fn_law_ringless : FunD K ("_law_ringless" : Str) ("_law_ringless" : Str) (defArgs s_law_ringless) (defBody s_law_ringless) (defScope s_law_ringless) [] [] a_law_ringless fd_law_ringless
  a_law_table_count : Addr
  fd_law_table_count : FuncData
  fn_law_table_count : FunD K ("_law_table_count" : Str) ("_law_table_count" : Str) (defArgs s_law_table_count) (defBody s_law_table_count) (defScope s_law_table_count) [] [] a_law_table_count fd_law_table_count
  a_law_selves : Addr
  fd_law_selves : FuncData
  fn_law_selves : FunD K ("_law_selves" : Str) ("_law_selves" : Str) (defArgs s_law_selves) (defBody s_law_selves) (defScope s_law_selves) [] [] a_law_selves fd_law_selves
  a_law_told_ones_right : Addr
  fd_law_told_ones_right : FuncData
  fn_law_told_ones_right : FunD K ("_law_told_ones_right" : Str) ("_law_told_ones_right" : Str) (defArgs s_law_told_ones_right) (defBody s_law_told_ones_right) (defScope s_law_told_ones_right) [] [] a_law_told_ones_right fd_law_told_ones_right
  a_law : Addr
  fd_law : FuncData
  fn_law : FunD K ("law" : Str) ("law" : Str) (defArgs s_law) (defBody s_law) (defScope s_law) [] [] a_law fd_law
  mg_is_name : mg ("is_name" : Str) = some (.ref a_is_name)
  mg_check_bells : mg ("check_bells" : Str) = some (.ref a_check_bells)
  mg_is_wake : mg ("is_wake" : Str) = some (.ref a_is_wake)
  mg_check_wakes : mg ("check_wakes" : Str) = some (.ref a_check_wakes)
  mg_law_draw : mg ("_law_draw" : Str) = some (.ref a_law_draw)
  mg_law_calls : mg ("_law_calls" : Str) = some (.ref a_law_calls)
  mg_law_cell : mg ("_law_cell" : Str) = some (.ref a_law_cell)
  mg_check_bell : mg ("check_bell" : Str) = some (.ref a_check_bell)
  mg_check_web : mg ("check_web" : Str) = some (.ref a_check_web)
  mg_how_many_stands : mg ("how_many_stands" : Str) = some (.ref a_how_many_stands)
  mg_law_is : mg ("_law_is" : Str) = some (.ref a_law_is)
  mg_law_links : mg ("_law_links" : Str) = some (.ref a_law_links)
  mg_law_lots : mg ("_law_lots" : Str) = some (.ref a_law_lots)
  mg_law_purse : mg ("_law_purse" : Str) = some (.ref a_law_purse)
  mg_law_ringless : mg ("_law_ringless" : Str) = some (.ref a_law_ringless)
  mg_law_table_count : mg ("_law_table_count" : Str) = some (.ref a_law_table_count)
  mg_law_selves : mg ("_law_selves" : Str) = some (.ref a_law_selves)
  mg_law_told_ones_right : mg ("_law_told_ones_right" : Str) = some (.ref a_law_told_ones_right)
  mg_law : mg ("law" : Str) = some (.ref a_law)
  mg_Web : mg ("Web" : Str) = some (.ref C_Web)
  cl_Web : Cls K C_Web
  na_Web_bells : NoAttr K C_Web ("bells" : Str)
  na_Web_wakes : NoAttr K C_Web ("wakes" : Str)
  mk_Web : Mk K C_Web a_Web_init
  me_Web_wakers : Meth K C_Web ("wakers" : Str) a_Web_wakers
  co_Web : ClsOk K C_Web
  ki_Web : PySem.W.kitOne K (.ref C_Web) (.ref C_Web) = some true
  b_abs : mg "abs" = none
  b_all : mg "all" = none
  b_any : mg "any" = none
  b_divmod : mg "divmod" = none
  b_enumerate : mg "enumerate" = none
  b_int : mg "int" = none
  b_isinstance : mg "isinstance" = none
  b_len : mg "len" = none
  b_list : mg "list" = none
  b_max : mg "max" = none
  b_min : mg "min" = none
  b_range : mg "range" = none
  b_repr : mg "repr" = none
  b_sorted : mg "sorted" = none
  b_str : mg "str" = none
  b_sum : mg "sum" = none
  b_tuple : mg "tuple" = none
  t_LETTERS : Tok
  g_LETTERS : mg "LETTERS" = some (.str ("abcdefghijklmnopqrstuvwxyz" : Str) t_LETTERS)
  t_MOST_BELLS : Tok
  g_MOST_BELLS : mg "MOST_BELLS" = some (.int 12 t_MOST_BELLS)
  t_MOST_LETTERS : Tok
  g_MOST_LETTERS : mg "MOST_LETTERS" = some (.int 8 t_MOST_LETTERS)
section
variable {P : Program} {w : World} {K : PySem.W.Frag} {mg : Str → Option Value} {base : Heap}
noncomputable def ck (T : TX P w K mg) : Kc := ⟨K, ⟨fun cn => if cn = ("Web" : Str) then some T.C_Web else none, (tupleKind (mixKind P w)).hash, fun _ _ _ => False⟩⟩
theorem TX.cm_Web (T : TX P w K mg) : (ck T).cm ("Web" : Str) = some T.C_Web := by
  show (if ("Web" : Str) = ("Web" : Str) then some T.C_Web else none) = _
  rw [if_pos rfl]
theorem TX.ok_Web_bells (T : TX P w K mg) : ∀ C, (ck T).cm ("Web" : Str) = some C → Cls (ck T).K C ∧ NoAttr (ck T).K C ("bells" : Str) := fun C h => by
  rw [T.cm_Web] at h; cases h
  exact ⟨T.cl_Web, T.na_Web_bells⟩
theorem TX.ok_Web_wakes (T : TX P w K mg) : ∀ C, (ck T).cm ("Web" : Str) = some C → Cls (ck T).K C ∧ NoAttr (ck T).K C ("wakes" : Str) := fun C h => by
  rw [T.cm_Web] at h; cases h
  exact ⟨T.cl_Web, T.na_Web_wakes⟩
theorem TX.kt_str (T : TX P w K mg) : ∀ n b, kbTy "str" n = some b → PySem.W.kitOne (ck T).K (.type n) (.type "str") = some b := kit_str
theorem TX.kt_tuple (T : TX P w K mg) : ∀ n b, kbTy "tuple" n = some b → PySem.W.kitOne (ck T).K (.type n) (.type "tuple") = some b := kit_tuple
theorem bd_is_name (T : TX P w K mg) : Binds K T.fd_is_name [("thing" : Str)] [] := T.fn_is_name.bindsN fun _ _ _ _ _ _ us hl => match us, hl with | [_], _ => rfl
theorem bd_check_bells (T : TX P w K mg) : Binds K T.fd_check_bells [("bells" : Str)] [] := T.fn_check_bells.bindsN fun _ _ _ _ _ _ us hl => match us, hl with | [_], _ => rfl
theorem bd_is_wake (T : TX P w K mg) : Binds K T.fd_is_wake [("thing" : Str), ("bells" : Str)] [] := T.fn_is_wake.bindsN fun _ _ _ _ _ _ us hl => match us, hl with | [_, _], _ => rfl
theorem bd_check_wakes (T : TX P w K mg) : Binds K T.fd_check_wakes [("wakes" : Str), ("bells" : Str)] [] := T.fn_check_wakes.bindsN fun _ _ _ _ _ _ us hl => match us, hl with | [_, _], _ => rfl
theorem kb_Web_init_2 (T : TX P w K mg) : KBn K T.fd_Web_init [("self" : Str), ("bells" : Str), ("wakes" : Str)] 2 [("wakes" : Str)] (fun us ws => us ++ ws) (fun vs zs => vs ++ zs) := kbn_of T.fn_Web_init fun _ _ _ _ _ _ us ws h1 h2 => match us, ws, h1, h2 with | [_, _], [_], _, _ => rfl
theorem kp_Web_init_2_ (T : TX P w K mg) : ∃ g, KBn K T.fd_Web_init [("self" : Str), ("bells" : Str), ("wakes" : Str)] 2 [] g (layL V.non (V.ref T.e_Web_init) [none]) := kbd_of [none] T.fn_Web_init fun _ _ _ _ _ _ _ us ws h1 h2 => match us, ws, h1, h2 with | [_, _], [], _, _ => ⟨_, _, _, _, _, _, rfl, rfl, rfl⟩
theorem bd_law_draw (T : TX P w K mg) : Binds K T.fd_law_draw [("_law_purse_here" : Str), ("_law_size" : Str)] [] := T.fn_law_draw.bindsN fun _ _ _ _ _ _ us hl => match us, hl with | [_, _], _ => rfl
theorem bd_law_calls (T : TX P w K mg) : Binds K T.fd_law_calls [("_law_purse_here" : Str), ("_law_size" : Str)] [] := T.fn_law_calls.bindsN fun _ _ _ _ _ _ us hl => match us, hl with | [_, _], _ => rfl
theorem bd_law_cell (T : TX P w K mg) : Binds K T.fd_law_cell [("_law_script" : Str), ("_law_k" : Str)] [] := T.fn_law_cell.bindsN fun _ _ _ _ _ _ us hl => match us, hl with | [_, _], _ => rfl
theorem bd_check_bell (T : TX P w K mg) : Binds K T.fd_check_bell [("web" : Str), ("name" : Str)] [] := T.fn_check_bell.bindsN fun _ _ _ _ _ _ us hl => match us, hl with | [_, _], _ => rfl
theorem bd_Web_wakers (T : TX P w K mg) : Binds K T.fd_Web_wakers [("self" : Str), ("name" : Str)] [] := T.fn_Web_wakers.bindsN fun _ _ _ _ _ _ us hl => match us, hl with | [_, _], _ => rfl
theorem bd_check_web (T : TX P w K mg) : Binds K T.fd_check_web [("thing" : Str)] [] := T.fn_check_web.bindsN fun _ _ _ _ _ _ us hl => match us, hl with | [_], _ => rfl
theorem bd_how_many_stands (T : TX P w K mg) : Binds K T.fd_how_many_stands [("web" : Str)] [] := T.fn_how_many_stands.bindsN fun _ _ _ _ _ _ us hl => match us, hl with | [_], _ => rfl
theorem kp_how_many_stands_0_web (T : TX P w K mg) : ∃ g, KBn K T.fd_how_many_stands [("web" : Str)] 0 [("web" : Str)] g (layL V.non V.non [some 0]) := kbp_of [some 0] T.fn_how_many_stands fun _ _ _ _ _ _ us ws h1 h2 => match us, ws, h1, h2 with | [], [_], _, _ => rfl
theorem bd_law_is (T : TX P w K mg) : Binds K T.fd_law_is [("_law_house" : Str), ("_law_due" : Str)] [] := T.fn_law_is.bindsN fun _ _ _ _ _ _ us hl => match us, hl with | [_, _], _ => rfl
theorem bd_law_links (T : TX P w K mg) : Binds K T.fd_law_links [("_law_purse_here" : Str), ("_law_calls_here" : Str)] [] := T.fn_law_links.bindsN fun _ _ _ _ _ _ us hl => match us, hl with | [_, _], _ => rfl
theorem bd_law_lots (T : TX P w K mg) : Binds K T.fd_law_lots [("_law_calls_here" : Str)] [] := T.fn_law_lots.bindsN fun _ _ _ _ _ _ us hl => match us, hl with | [_], _ => rfl
theorem bd_law_purse (T : TX P w K mg) : Binds K T.fd_law_purse [("_law_cell_here" : Str)] [] := T.fn_law_purse.bindsN fun _ _ _ _ _ _ us hl => match us, hl with | [_], _ => rfl
theorem bd_law_ringless (T : TX P w K mg) : Binds K T.fd_law_ringless [("_law_links_here" : Str), ("_law_some" : Str)] [] := T.fn_law_ringless.bindsN fun _ _ _ _ _ _ us hl => match us, hl with | [_, _], _ => rfl
theorem bd_law_table_count (T : TX P w K mg) : Binds K T.fd_law_table_count [("_law_links_here" : Str), ("_law_calls_here" : Str)] [] := T.fn_law_table_count.bindsN fun _ _ _ _ _ _ us hl => match us, hl with | [_, _], _ => rfl
theorem bd_law_selves (T : TX P w K mg) : Binds K T.fd_law_selves [("_law_calls_here" : Str)] [] := T.fn_law_selves.bindsN fun _ _ _ _ _ _ us hl => match us, hl with | [_], _ => rfl
theorem bd_law_told_ones_right (T : TX P w K mg) : Binds K T.fd_law_told_ones_right [("_law_purse_here" : Str)] [] := T.fn_law_told_ones_right.bindsN fun _ _ _ _ _ _ us hl => match us, hl with | [_], _ => rfl
theorem sc_is_name : FnScope [("thing" : Str), ("sign" : Str)] [("thing" : Str)] (defScope s_is_name) := ⟨rfl, rfl, rfl, by decide +kernel, rfl, by decide +kernel, by decide +kernel⟩
theorem ok_is_name (T : TX P w K mg) : FnG P w K mg base CX0 1 T.a_is_name T.fd_is_name [("thing" : Str)] (spF (ck T) K04.f_is_name) := by
  refine funD_okG T.fn_is_name sc_is_name (fun vs H Q E h => spF_len h) (fun cdv A outer s H vs Q E hr gd0 h => ?_)
  have nd := sc_is_name.nd
  have gd : (A.deeper (envOfC ("is_name" : Str) (defScope s_is_name) s.heap.objs.size T.a_is_name cdv)).guards = some [] := gd0
  have hu0 := hr.units0
  have hu1 : (A.deeper (envOfC ("is_name" : Str) (defScope s_is_name) s.heap.objs.size T.a_is_name cdv)).units + 1 < cLine := by have := hr.un; omega
  have hu62 : (A.deeper (envOfC ("is_name" : Str) (defScope s_is_name) s.heap.objs.size T.a_is_name cdv)).units + 62 < cLine := by have := hr.un; omega
  have hu64 : (A.deeper (envOfC ("is_name" : Str) (defScope s_is_name) s.heap.objs.size T.a_is_name cdv)).units + 64 < cLine := by have := hr.un; omega
  have hu65 : (A.deeper (envOfC ("is_name" : Str) (defScope s_is_name) s.heap.objs.size T.a_is_name cdv)).units + 65 < cLine := by have := hr.un; omega
  exact ⟨tS (ck T) (fun _ => E) K04.b_is_name, (s1 (sif ((gorW (gnotT (gvalT (gisT T.b_isinstance rfl T.b_str vb_str T.kt_str (gv 0)))) (pw_or1 (gnotT (gchainT kle kle gi (gblt blen T.b_len vb_len (gA1 (gv 0) gA0)) (gGi T.g_MOST_LETTERS)))))).pt (s1 (sret gb)
    s0) s0)
    (s1 (sret (gblt ball T.b_all vb_all (gA1 (gheld (gcomp [(("sign" : Str), 1)] nd (dl_itA (gv 0)) (by kernel_rfl) (fun _ _ _ _ _ => (tn 1 nd)) (fun _ _ _ _ _ => gyes) (fun _ _ _ _ _ => (gcmp (kin hu65) (gv 1) (gGs T.g_LETTERS))))) gA0)))
    s0)), body_ok h⟩
theorem sc_check_bells : FnScope [("bells" : Str), ("number" : Str), ("name" : Str)] [("bells" : Str)] (defScope s_check_bells) := ⟨rfl, rfl, rfl, by decide +kernel, rfl, by decide +kernel, by decide +kernel⟩
theorem ok_check_bells (T : TX P w K mg) : FnG P w K mg base CX0 2 T.a_check_bells T.fd_check_bells [("bells" : Str)] (spF (ck T) K04.f_check_bells) := by
  refine funD_okG T.fn_check_bells sc_check_bells (fun vs H Q E h => spF_len h) (fun cdv A outer s H vs Q E hr gd0 h => ?_)
  have nd := sc_check_bells.nd
  have gd : (A.deeper (envOfC ("check_bells" : Str) (defScope s_check_bells) s.heap.objs.size T.a_check_bells cdv)).guards = some [] := gd0
  have hu0 := hr.units0
  have hu1 : (A.deeper (envOfC ("check_bells" : Str) (defScope s_check_bells) s.heap.objs.size T.a_check_bells cdv)).units + 1 < cLine := by have := hr.un; omega
  have hu62 : (A.deeper (envOfC ("check_bells" : Str) (defScope s_check_bells) s.heap.objs.size T.a_check_bells cdv)).units + 62 < cLine := by have := hr.un; omega
  have hu64 : (A.deeper (envOfC ("check_bells" : Str) (defScope s_check_bells) s.heap.objs.size T.a_check_bells cdv)).units + 64 < cLine := by have := hr.un; omega
  have hu65 : (A.deeper (envOfC ("check_bells" : Str) (defScope s_check_bells) s.heap.objs.size T.a_check_bells cdv)).units + 65 < cLine := by have := hr.un; omega
  exact ⟨tS (ck T) (fun _ => E) K04.b_check_bells, (s1 (sif ((gorW (gnotT (gvalT (gisT T.b_isinstance rfl T.b_tuple vb_tuple T.kt_tuple (gv 0)))) (pw_or1 (gnotT (gchainT kle kle gi (gblt blen T.b_len vb_len (gA1 (gv 0) gA0)) (gGi T.g_MOST_BELLS)))))).pt (s1 sraise
    s0) s0)
    (s1 (sfor PassesOwn.never (ien T.b_enumerate (gv 0)) (ttup (tg1 (tn 1 nd) (tg1 (tn 2 nd) tg0))) (s1 (sif ((gorW (gnotT (gvalT (gcall (bd_is_name T) (ok_is_name T) (hr.mono (by decide)) gd passZ .nil rpl_nil T.mg_is_name T.fn_is_name.kp (len_d len_nil) (gRd (gv 2) gR0)))) (pw_or1 ((gandW (gcmpT kgt (gv 1) gi) (pw_and1 (gcmpT (kleA hu0) (gv 2) (gix (gv 0) (gsub (gv 1) gi)))))).pt))).pt (s1 sraise
    s0) s0)
    s0))
    s0)), body_ok h⟩
theorem sc_is_wake : FnScope [("thing" : Str), ("bells" : Str), ("name" : Str)] [("thing" : Str), ("bells" : Str)] (defScope s_is_wake) := ⟨rfl, rfl, rfl, by decide +kernel, rfl, by decide +kernel, by decide +kernel⟩
theorem ok_is_wake (T : TX P w K mg) : FnG P w K mg base CX0 2 T.a_is_wake T.fd_is_wake [("thing" : Str), ("bells" : Str)] (spF (ck T) K04.f_is_wake) := by
  refine funD_okG T.fn_is_wake sc_is_wake (fun vs H Q E h => spF_len h) (fun cdv A outer s H vs Q E hr gd0 h => ?_)
  have nd := sc_is_wake.nd
  have gd : (A.deeper (envOfC ("is_wake" : Str) (defScope s_is_wake) s.heap.objs.size T.a_is_wake cdv)).guards = some [] := gd0
  have hu0 := hr.units0
  have hu1 : (A.deeper (envOfC ("is_wake" : Str) (defScope s_is_wake) s.heap.objs.size T.a_is_wake cdv)).units + 1 < cLine := by have := hr.un; omega
  have hu62 : (A.deeper (envOfC ("is_wake" : Str) (defScope s_is_wake) s.heap.objs.size T.a_is_wake cdv)).units + 62 < cLine := by have := hr.un; omega
  have hu64 : (A.deeper (envOfC ("is_wake" : Str) (defScope s_is_wake) s.heap.objs.size T.a_is_wake cdv)).units + 64 < cLine := by have := hr.un; omega
  have hu65 : (A.deeper (envOfC ("is_wake" : Str) (defScope s_is_wake) s.heap.objs.size T.a_is_wake cdv)).units + 65 < cLine := by have := hr.un; omega
  exact ⟨tS (ck T) (fun _ => E) K04.b_is_wake, (s1 (sif ((gorW (gnotT (gvalT (gisT T.b_isinstance rfl T.b_tuple vb_tuple T.kt_tuple (gv 0)))) (pw_or1 (gcmpT (kne hu64) (gblt blen T.b_len vb_len (gA1 (gv 0) gA0)) gi)))).pt (s1 (sret gb)
    s0) s0)
    (s1 (sret (gblt ball T.b_all vb_all (gA1 (gheld (gcomp [(("name" : Str), 2)] nd (dl_itA (gv 0)) (by kernel_rfl) (fun _ _ _ _ _ => (tn 2 nd)) (fun _ _ _ _ _ => gyes) (fun _ _ _ _ _ => (gandD (gcall (bd_is_name T) (ok_is_name T) (hr.mono (by decide)) gd passZ .nil rpl_nil T.mg_is_name T.fn_is_name.kp (len_d len_nil) (gRd (gv 2) gR0)) (dl_one (gcmp (kin hu65) (gv 2) (gv 1))))))) gA0)))
    s0)), body_ok h⟩
theorem sc_check_wakes : FnScope [("wakes" : Str), ("bells" : Str), ("number" : Str), ("wake" : Str)] [("wakes" : Str), ("bells" : Str)] (defScope s_check_wakes) := ⟨rfl, rfl, rfl, by decide +kernel, rfl, by decide +kernel, by decide +kernel⟩
theorem ok_check_wakes (T : TX P w K mg) : FnG P w K mg base CX0 3 T.a_check_wakes T.fd_check_wakes [("wakes" : Str), ("bells" : Str)] (spF (ck T) K04.f_check_wakes) := by
  refine funD_okG T.fn_check_wakes sc_check_wakes (fun vs H Q E h => spF_len h) (fun cdv A outer s H vs Q E hr gd0 h => ?_)
  have nd := sc_check_wakes.nd
  have gd : (A.deeper (envOfC ("check_wakes" : Str) (defScope s_check_wakes) s.heap.objs.size T.a_check_wakes cdv)).guards = some [] := gd0
  have hu0 := hr.units0
  have hu1 : (A.deeper (envOfC ("check_wakes" : Str) (defScope s_check_wakes) s.heap.objs.size T.a_check_wakes cdv)).units + 1 < cLine := by have := hr.un; omega
  have hu62 : (A.deeper (envOfC ("check_wakes" : Str) (defScope s_check_wakes) s.heap.objs.size T.a_check_wakes cdv)).units + 62 < cLine := by have := hr.un; omega
  have hu64 : (A.deeper (envOfC ("check_wakes" : Str) (defScope s_check_wakes) s.heap.objs.size T.a_check_wakes cdv)).units + 64 < cLine := by have := hr.un; omega
  have hu65 : (A.deeper (envOfC ("check_wakes" : Str) (defScope s_check_wakes) s.heap.objs.size T.a_check_wakes cdv)).units + 65 < cLine := by have := hr.un; omega
  exact ⟨tS (ck T) (fun _ => E) K04.b_check_wakes, (s1 (sif (gnotT (gvalT (gisT T.b_isinstance rfl T.b_tuple vb_tuple T.kt_tuple (gv 0)))) (s1 sraise
    s0) s0)
    (s1 (sfor PassesOwn.never (ien T.b_enumerate (gv 0)) (ttup (tg1 (tn 2 nd) (tg1 (tn 3 nd) tg0))) (s1 (sif ((gorW (gnotT (gvalT (gcall (bd_is_wake T) (ok_is_wake T) (hr.mono (by decide)) gd passZ .nil rpl_nil T.mg_is_wake T.fn_is_wake.kp (len_d (len_d len_nil)) (gRd (gv 3) (gRd (gv 1) gR0))))) (pw_or1 ((gandW (gcmpT kgt (gv 2) gi) (pw_and1 (gcmpT (kleA hu0) (gv 3) (gix (gv 0) (gsub (gv 2) gi)))))).pt))).pt (s1 sraise
    s0) s0)
    s0))
    s0)), body_ok h⟩
theorem sc_Web_init : FnScope [("self" : Str), ("bells" : Str), ("wakes" : Str)] [("self" : Str), ("bells" : Str), ("wakes" : Str)] (defScope s_Web_init) := ⟨rfl, rfl, rfl, by decide +kernel, rfl, by decide +kernel, by decide +kernel⟩
theorem ok_Web_init (T : TX P w K mg) : FnG P w K mg base CX0 4 T.a_Web_init T.fd_Web_init [("self" : Str), ("bells" : Str), ("wakes" : Str)] (spI (ck T) T.C_Web K04.f_Web_init) := by
  refine funD_okG T.fn_Web_init sc_Web_init (fun vs H Q E h => spI_len h) (fun cdv A outer s H vs Q E hr gd0 h => ?_)
  have nd := sc_Web_init.nd
  have gd : (A.deeper (envOfC ("Web.__init__" : Str) (defScope s_Web_init) s.heap.objs.size T.a_Web_init cdv)).guards = some [] := gd0
  have hu0 := hr.units0
  have hu1 : (A.deeper (envOfC ("Web.__init__" : Str) (defScope s_Web_init) s.heap.objs.size T.a_Web_init cdv)).units + 1 < cLine := by have := hr.un; omega
  have hu62 : (A.deeper (envOfC ("Web.__init__" : Str) (defScope s_Web_init) s.heap.objs.size T.a_Web_init cdv)).units + 62 < cLine := by have := hr.un; omega
  have hu64 : (A.deeper (envOfC ("Web.__init__" : Str) (defScope s_Web_init) s.heap.objs.size T.a_Web_init cdv)).units + 64 < cLine := by have := hr.un; omega
  have hu65 : (A.deeper (envOfC ("Web.__init__" : Str) (defScope s_Web_init) s.heap.objs.size T.a_Web_init cdv)).units + 65 < cLine := by have := hr.un; omega
  exact ⟨tN (ck T) T.C_Web (fun _ => E) K04.b_Web_init, (n1 (ndo (gcall (bd_check_bells T) (ok_check_bells T) (hr.mono (by decide)) gd passZ .nil rpl_nil T.mg_check_bells T.fn_check_bells.kp (len_d len_nil) (gRd (gv 1) gR0)))
    (n1 (ndo (gcall (bd_check_wakes T) (ok_check_wakes T) (hr.mono (by decide)) gd passZ .nil rpl_nil T.mg_check_wakes T.fn_check_wakes.kp (len_d (len_d len_nil)) (gRd (gv 2) (gRd (gv 1) gR0))))
    (n1 (nfld ⟨T.cl_Web, T.na_Web_bells⟩ (gvar 0) (gv 1))
    (n1 (nfld ⟨T.cl_Web, T.na_Web_wakes⟩ (gvar 0) (gv 2))
    n0)))), bodyN_ok h⟩
theorem sc_law_draw : FnScope [("_law_purse_here" : Str), ("_law_size" : Str), ("_law_state" : Str), ("_law_digit" : Str)] [("_law_purse_here" : Str), ("_law_size" : Str)] (defScope s_law_draw) := ⟨rfl, rfl, rfl, by decide +kernel, rfl, by decide +kernel, by decide +kernel⟩
theorem ok_law_draw (T : TX P w K mg) : FnG P w K mg base CX0 1 T.a_law_draw T.fd_law_draw [("_law_purse_here" : Str), ("_law_size" : Str)] (spF (ck T) K14.f_law_draw) := by
  refine funD_okG T.fn_law_draw sc_law_draw (fun vs H Q E h => spF_len h) (fun cdv A outer s H vs Q E hr gd0 h => ?_)
  have nd := sc_law_draw.nd
  have gd : (A.deeper (envOfC ("_law_draw" : Str) (defScope s_law_draw) s.heap.objs.size T.a_law_draw cdv)).guards = some [] := gd0
  have hu0 := hr.units0
  have hu1 : (A.deeper (envOfC ("_law_draw" : Str) (defScope s_law_draw) s.heap.objs.size T.a_law_draw cdv)).units + 1 < cLine := by have := hr.un; omega
  have hu62 : (A.deeper (envOfC ("_law_draw" : Str) (defScope s_law_draw) s.heap.objs.size T.a_law_draw cdv)).units + 62 < cLine := by have := hr.un; omega
  have hu64 : (A.deeper (envOfC ("_law_draw" : Str) (defScope s_law_draw) s.heap.objs.size T.a_law_draw cdv)).units + 64 < cLine := by have := hr.un; omega
  have hu65 : (A.deeper (envOfC ("_law_draw" : Str) (defScope s_law_draw) s.heap.objs.size T.a_law_draw cdv)).units + 65 < cLine := by have := hr.un; omega
  exact ⟨tS (ck T) (fun _ => E) K14.b_law_draw, (s1 (sstore 0 (gvar 0) gi (gadd (goix 0 (gvar 0) gi) gi))
    (s1 (sif (gcmpT kgt (goix 0 (gvar 0) gi) gi) (s1 (ssplit 0 3 nd (gvar 0) gi (gblt bdivmod T.b_divmod vb_divmod (gA1 (goix 0 (gvar 0) gi) (gA1 (gv 1) gA0))))
    (s1 (sret (gv 3))
    s0)) s0)
    (s1 (sset 2 nd (gmod (goix 0 (gvar 0) gi) gi))
    (s1 (sstore 0 (gvar 0) gi (gadd (gmul (gv 2) (gadd (gmod (gv 2) gi) gi)) (gmul gi (goix 0 (gvar 0) gi))))
    (s1 (sret (gmod (gfdiv (gmod (goix 0 (gvar 0) gi) gi) gi) (gv 1)))
    s0))))), body_ok h⟩
theorem sc_law_calls : FnScope [("_law_purse_here" : Str), ("_law_size" : Str), ("_law_words" : Str), ("_law_turn" : Str), ("_law_step" : Str), ("_law_letters" : Str), ("_law_stem" : Str), ("_law_at" : Str), ("_law_some" : Str), ("_law_k" : Str), ("_law_letter" : Str)] [("_law_purse_here" : Str), ("_law_size" : Str)] (defScope s_law_calls) := ⟨rfl, rfl, rfl, by decide +kernel, rfl, by decide +kernel, by decide +kernel⟩
theorem ok_law_calls (T : TX P w K mg) : FnG P w K mg base CX0 2 T.a_law_calls T.fd_law_calls [("_law_purse_here" : Str), ("_law_size" : Str)] (spF (ck T) K57.f_law_calls) := by
  refine funD_okG T.fn_law_calls sc_law_calls (fun vs H Q E h => spF_len h) (fun cdv A outer s H vs Q E hr gd0 h => ?_)
  have nd := sc_law_calls.nd
  have gd : (A.deeper (envOfC ("_law_calls" : Str) (defScope s_law_calls) s.heap.objs.size T.a_law_calls cdv)).guards = some [] := gd0
  have hu0 := hr.units0
  have hu1 : (A.deeper (envOfC ("_law_calls" : Str) (defScope s_law_calls) s.heap.objs.size T.a_law_calls cdv)).units + 1 < cLine := by have := hr.un; omega
  have hu62 : (A.deeper (envOfC ("_law_calls" : Str) (defScope s_law_calls) s.heap.objs.size T.a_law_calls cdv)).units + 62 < cLine := by have := hr.un; omega
  have hu64 : (A.deeper (envOfC ("_law_calls" : Str) (defScope s_law_calls) s.heap.objs.size T.a_law_calls cdv)).units + 64 < cLine := by have := hr.un; omega
  have hu65 : (A.deeper (envOfC ("_law_calls" : Str) (defScope s_law_calls) s.heap.objs.size T.a_law_calls cdv)).units + 65 < cLine := by have := hr.un; omega
  exact ⟨tS (ck T) (fun _ => E) K57.b_law_calls, (s1 (sset 2 nd (gheld (glst (gA1 gs (gA1 gs (gA1 gs (gA1 gs (gA1 gs (gA1 gs (gA1 gs (gA1 gs (gA1 gs (gA1 gs (gA1 gs (gA1 gs (gA1 gs gA0))))))))))))))))
    (s1 (sparT (gN1 3 nd (gN1 4 nd gN0)) (gMd (gcall (bd_law_draw T) (ok_law_draw T) (hr.mono (by decide)) gd passZ .nil rpl_nil T.mg_law_draw T.fn_law_draw.kp (len_r (len_d len_nil)) (gRr 0 (gvar 0) (gRd gi gR0))) (gMd (gix (gheld (glst (gA1 gi (gA1 gi (gA1 gi (gA1 gi gA0)))))) (gcall (bd_law_draw T) (ok_law_draw T) (hr.mono (by decide)) gd passZ .nil rpl_nil T.mg_law_draw T.fn_law_draw.kp (len_r (len_d len_nil)) (gRr 0 (gvar 0) (gRd gi gR0)))) gM0)))
    (s1 (sif (gcmpT (keq hu64) (gcall (bd_law_draw T) (ok_law_draw T) (hr.mono (by decide)) gd passZ .nil rpl_nil T.mg_law_draw T.fn_law_draw.kp (len_r (len_d len_nil)) (gRr 0 (gvar 0) (gRd gi gR0))) gi) (s1 (sret (gty btuple T.b_tuple vb_tuple (gA1 (gheld (gsorted hu62 T.b_sorted vb_sorted (gA1 (gheld (gcomp [(("_law_k" : Str), 9)] nd (ir1 T.b_range (gv 1)) (by kernel_rfl) (fun _ _ _ _ _ => (tn 9 nd)) (fun _ _ _ _ _ => gyes) (fun _ _ _ _ _ => (gix (gv 2) (gmod (gadd (gv 3) (gmul (gv 4) (gv 9))) gi))))) gA0))) gA0)))
    s0) s0)
    (s1 (sset 5 nd gs)
    (s1 (sset 6 nd (gjoin gs (gheld (gcomp [(("_law_k" : Str), 9)] nd (ir1 T.b_range (gcall (bd_law_draw T) (ok_law_draw T) (hr.mono (by decide)) gd passZ .nil rpl_nil T.mg_law_draw T.fn_law_draw.kp (len_r (len_d len_nil)) (gRr 0 (gvar 0) (gRd gi gR0)))) (by kernel_rfl) (fun _ _ _ _ _ => (tn 9 nd)) (fun _ _ _ _ _ => gyes) (fun _ _ _ _ _ => (gix (gv 5) (gcall (bd_law_draw T) (ok_law_draw T) (hr.mono (by decide)) gd passZ .nil rpl_nil T.mg_law_draw T.fn_law_draw.kp (len_r (len_d len_nil)) (gRr 0 (gvar 0) (gRd gi gR0)))))))))
    (s1 (sset 7 nd (gcall (bd_law_draw T) (ok_law_draw T) (hr.mono (by decide)) gd passZ .nil rpl_nil T.mg_law_draw T.fn_law_draw.kp (len_r (len_d len_nil)) (gRr 0 (gvar 0) (gRd (gadd (gblt blen T.b_len vb_len (gA1 (gv 6) gA0)) gi) gR0))))
    (s1 (ssetO 8 nd (glst gA0))
    (s1 (sfor PassesOwn.never (ir1 T.b_range (gv 1)) (tn 9 nd) (s1 (sset 10 nd (gix (gv 5) (gmod (gadd (gmul gi (gv 3)) (gmul (gv 4) (gv 9))) gi)))
    (s1 (sapp 8 (gvar 8) (gadd (gadd (gcut (gv 6) gO0 (gO1 (gv 7))) (gv 10)) (gcut (gv 6) (gO1 (gv 7)) gO0)))
    s0)))
    (s1 (sret (gty btuple T.b_tuple vb_tuple (gA1 (gheld (gsorted hu62 T.b_sorted vb_sorted (gA1 (gv 8) gA0))) gA0)))
    s0))))))))), body_ok h⟩
theorem sc_law_cell : FnScope [("_law_script" : Str), ("_law_k" : Str), ("_law_state" : Str), ("_law_cell_here" : Str)] [("_law_script" : Str), ("_law_k" : Str)] (defScope s_law_cell) := ⟨rfl, rfl, rfl, by decide +kernel, rfl, by decide +kernel, by decide +kernel⟩
theorem ok_law_cell (T : TX P w K mg) : FnG P w K mg base CX0 1 T.a_law_cell T.fd_law_cell [("_law_script" : Str), ("_law_k" : Str)] (spF (ck T) K14.f_law_cell) := by
  refine funD_okG T.fn_law_cell sc_law_cell (fun vs H Q E h => spF_len h) (fun cdv A outer s H vs Q E hr gd0 h => ?_)
  have nd := sc_law_cell.nd
  have gd : (A.deeper (envOfC ("_law_cell" : Str) (defScope s_law_cell) s.heap.objs.size T.a_law_cell cdv)).guards = some [] := gd0
  have hu0 := hr.units0
  have hu1 : (A.deeper (envOfC ("_law_cell" : Str) (defScope s_law_cell) s.heap.objs.size T.a_law_cell cdv)).units + 1 < cLine := by have := hr.un; omega
  have hu62 : (A.deeper (envOfC ("_law_cell" : Str) (defScope s_law_cell) s.heap.objs.size T.a_law_cell cdv)).units + 62 < cLine := by have := hr.un; omega
  have hu64 : (A.deeper (envOfC ("_law_cell" : Str) (defScope s_law_cell) s.heap.objs.size T.a_law_cell cdv)).units + 64 < cLine := by have := hr.un; omega
  have hu65 : (A.deeper (envOfC ("_law_cell" : Str) (defScope s_law_cell) s.heap.objs.size T.a_law_cell cdv)).units + 65 < cLine := by have := hr.un; omega
  exact ⟨tS (ck T) (fun _ => E) K14.b_law_cell, (s1 (sif (gcmpT klt (gv 1) (gblt blen T.b_len vb_len (gA1 (gv 0) gA0))) (s1 (sret (gixA hu1 (gv 0) (gv 1)))
    s0) s0)
    (s1 (sset 2 nd (gmod (gmul gi (gadd (gadd (gmul (gv 1) (gv 1)) (gmul gi (gv 1))) gi)) gi))
    (s1 (sfor PassesOwn.never (dl_itA (gcut (gv 0) gO0 (gO1 gi))) (tn 3 nd) (s1 (sset 2 nd (gmod (gadd (gmul (gv 2) gi) (gv 3)) gi))
    s0))
    (s1 (sret (gv 2))
    s0)))), body_ok h⟩
theorem sc_check_bell : FnScope [("web" : Str), ("name" : Str)] [("web" : Str), ("name" : Str)] (defScope s_check_bell) := ⟨rfl, rfl, rfl, by decide +kernel, rfl, by decide +kernel, by decide +kernel⟩
theorem ok_check_bell (T : TX P w K mg) : FnG P w K mg base CX0 1 T.a_check_bell T.fd_check_bell [("web" : Str), ("name" : Str)] (spF (ck T) K04.f_check_bell) := by
  refine funD_okG T.fn_check_bell sc_check_bell (fun vs H Q E h => spF_len h) (fun cdv A outer s H vs Q E hr gd0 h => ?_)
  have nd := sc_check_bell.nd
  have gd : (A.deeper (envOfC ("check_bell" : Str) (defScope s_check_bell) s.heap.objs.size T.a_check_bell cdv)).guards = some [] := gd0
  have hu0 := hr.units0
  have hu1 : (A.deeper (envOfC ("check_bell" : Str) (defScope s_check_bell) s.heap.objs.size T.a_check_bell cdv)).units + 1 < cLine := by have := hr.un; omega
  have hu62 : (A.deeper (envOfC ("check_bell" : Str) (defScope s_check_bell) s.heap.objs.size T.a_check_bell cdv)).units + 62 < cLine := by have := hr.un; omega
  have hu64 : (A.deeper (envOfC ("check_bell" : Str) (defScope s_check_bell) s.heap.objs.size T.a_check_bell cdv)).units + 64 < cLine := by have := hr.un; omega
  have hu65 : (A.deeper (envOfC ("check_bell" : Str) (defScope s_check_bell) s.heap.objs.size T.a_check_bell cdv)).units + 65 < cLine := by have := hr.un; omega
  exact ⟨tS (ck T) (fun _ => E) K04.b_check_bell, (s1 (sif ((gorW (gnotT (gvalT (gisT T.b_isinstance rfl T.b_str vb_str T.kt_str (gv 1)))) (pw_or1 (gcmpT (knin hu65) (gv 1) (gfld (T.ok_Web_bells) (gv 0)))))).pt (s1 sraise
    s0) s0)
    s0), body_ok h⟩
theorem sc_Web_wakers : FnScope [("self" : Str), ("name" : Str), ("one" : Str), ("other" : Str)] [("self" : Str), ("name" : Str)] (defScope s_Web_wakers) := ⟨rfl, rfl, rfl, by decide +kernel, rfl, by decide +kernel, by decide +kernel⟩
theorem ok_Web_wakers (T : TX P w K mg) : FnG P w K mg base CX0 2 T.a_Web_wakers T.fd_Web_wakers [("self" : Str), ("name" : Str)] (spF (ck T) K04.f_Web_wakers) := by
  refine funD_okG T.fn_Web_wakers sc_Web_wakers (fun vs H Q E h => spF_len h) (fun cdv A outer s H vs Q E hr gd0 h => ?_)
  have nd := sc_Web_wakers.nd
  have gd : (A.deeper (envOfC ("Web.wakers" : Str) (defScope s_Web_wakers) s.heap.objs.size T.a_Web_wakers cdv)).guards = some [] := gd0
  have hu0 := hr.units0
  have hu1 : (A.deeper (envOfC ("Web.wakers" : Str) (defScope s_Web_wakers) s.heap.objs.size T.a_Web_wakers cdv)).units + 1 < cLine := by have := hr.un; omega
  have hu62 : (A.deeper (envOfC ("Web.wakers" : Str) (defScope s_Web_wakers) s.heap.objs.size T.a_Web_wakers cdv)).units + 62 < cLine := by have := hr.un; omega
  have hu64 : (A.deeper (envOfC ("Web.wakers" : Str) (defScope s_Web_wakers) s.heap.objs.size T.a_Web_wakers cdv)).units + 64 < cLine := by have := hr.un; omega
  have hu65 : (A.deeper (envOfC ("Web.wakers" : Str) (defScope s_Web_wakers) s.heap.objs.size T.a_Web_wakers cdv)).units + 65 < cLine := by have := hr.un; omega
  exact ⟨tS (ck T) (fun _ => E) K04.b_Web_wakers, (s1 (sdrop (gcall (bd_check_bell T) (ok_check_bell T) (hr.mono (by decide)) gd passZ .nil rpl_nil T.mg_check_bell T.fn_check_bell.kp (len_d (len_d len_nil)) (gRd (gv 0) (gRd (gv 1) gR0))))
    (s1 (sret (gty btuple T.b_tuple vb_tuple (gA1 (gheld (gcomp [(("one" : Str), 2), (("other" : Str), 3)] nd (dl_itA (gfld (T.ok_Web_wakes) (gv 0))) (by kernel_rfl) (fun _ _ _ _ _ => (ttup (tg1 (tn 2 nd) (tg1 (tn 3 nd) tg0)))) (fun _ _ _ _ _ => (gtest1 (gcmpT (keq hu64) (gv 3) (gv 1)))) (fun _ _ _ _ _ => (gv 2)))) gA0)))
    s0)), body_ok h⟩
theorem sc_check_web : FnScope [("thing" : Str)] [("thing" : Str)] (defScope s_check_web) := ⟨rfl, rfl, rfl, by decide +kernel, rfl, by decide +kernel, by decide +kernel⟩
theorem ok_check_web (T : TX P w K mg) : FnG P w K mg base CX0 1 T.a_check_web T.fd_check_web [("thing" : Str)] (spF (ck T) K14.f_check_web) := by
  refine funD_okG T.fn_check_web sc_check_web (fun vs H Q E h => spF_len h) (fun cdv A outer s H vs Q E hr gd0 h => ?_)
  have nd := sc_check_web.nd
  have gd : (A.deeper (envOfC ("check_web" : Str) (defScope s_check_web) s.heap.objs.size T.a_check_web cdv)).guards = some [] := gd0
  have hu0 := hr.units0
  have hu1 : (A.deeper (envOfC ("check_web" : Str) (defScope s_check_web) s.heap.objs.size T.a_check_web cdv)).units + 1 < cLine := by have := hr.un; omega
  have hu62 : (A.deeper (envOfC ("check_web" : Str) (defScope s_check_web) s.heap.objs.size T.a_check_web cdv)).units + 62 < cLine := by have := hr.un; omega
  have hu64 : (A.deeper (envOfC ("check_web" : Str) (defScope s_check_web) s.heap.objs.size T.a_check_web cdv)).units + 64 < cLine := by have := hr.un; omega
  have hu65 : (A.deeper (envOfC ("check_web" : Str) (defScope s_check_web) s.heap.objs.size T.a_check_web cdv)).units + 65 < cLine := by have := hr.un; omega
  exact ⟨tS (ck T) (fun _ => E) K14.b_check_web, (s1 (sif (gnotT (gvalT (gisC T.b_isinstance rfl T.mg_Web T.cm_Web ⟨T.co_Web, T.ki_Web⟩ (gv 0)))) (s1 sraise
    s0) s0)
    s0), body_ok h⟩
theorem sc_how_many_stands : FnScope [("web" : Str), ("places" : Str), ("wakers" : Str), ("ringless" : Str), ("lot" : Str), ("first" : Str), ("k" : Str), ("name" : Str), ("other" : Str)] [("web" : Str)] (defScope s_how_many_stands) := ⟨rfl, rfl, rfl, by decide +kernel, rfl, by decide +kernel, by decide +kernel⟩
theorem ok_how_many_stands (T : TX P w K mg) : FnG P w K mg base CX0 3 T.a_how_many_stands T.fd_how_many_stands [("web" : Str)] (spF (ck T) K42.f_how_many_stands) := by
  refine funD_okG T.fn_how_many_stands sc_how_many_stands (fun vs H Q E h => spF_len h) (fun cdv A outer s H vs Q E hr gd0 h => ?_)
  have nd := sc_how_many_stands.nd
  have gd : (A.deeper (envOfC ("how_many_stands" : Str) (defScope s_how_many_stands) s.heap.objs.size T.a_how_many_stands cdv)).guards = some [] := gd0
  have hu0 := hr.units0
  have hu1 : (A.deeper (envOfC ("how_many_stands" : Str) (defScope s_how_many_stands) s.heap.objs.size T.a_how_many_stands cdv)).units + 1 < cLine := by have := hr.un; omega
  have hu62 : (A.deeper (envOfC ("how_many_stands" : Str) (defScope s_how_many_stands) s.heap.objs.size T.a_how_many_stands cdv)).units + 62 < cLine := by have := hr.un; omega
  have hu64 : (A.deeper (envOfC ("how_many_stands" : Str) (defScope s_how_many_stands) s.heap.objs.size T.a_how_many_stands cdv)).units + 64 < cLine := by have := hr.un; omega
  have hu65 : (A.deeper (envOfC ("how_many_stands" : Str) (defScope s_how_many_stands) s.heap.objs.size T.a_how_many_stands cdv)).units + 65 < cLine := by have := hr.un; omega
  exact ⟨tS (ck T) (fun _ => E) K42.b_how_many_stands, (s1 (sdrop (gcall (bd_check_web T) (ok_check_web T) (hr.mono (by decide)) gd passZ .nil rpl_nil T.mg_check_web T.fn_check_web.kp (len_d len_nil) (gRd (gv 0) gR0)))
    (s1 (sset 1 nd (gheldO (gdc [(("k" : Str), 6), (("name" : Str), 7)] nd (ien T.b_enumerate (gfld (T.ok_Web_bells) (gv 0))) (by kernel_rfl) (fun _ _ _ _ _ => (ttup (tg1 (tn 6 nd) (tg1 (tn 7 nd) tg0)))) (fun _ _ _ _ _ => gyes) (fun _ _ _ _ _ => (gv 7)) (fun _ _ _ _ _ => (gv 6)))))
    (s1 (sset 2 nd (gheld (gcomp [(("name" : Str), 7)] nd (dl_itA (gfld (T.ok_Web_bells) (gv 0))) (by kernel_rfl) (fun _ _ _ _ _ => (tn 7 nd)) (fun _ _ _ _ _ => gyes) (fun _ _ _ _ _ => (gblt bsum T.b_sum vb_sum (gA1 (gheld (gcomp [(("other" : Str), 8)] nd (dl_itA (gmeth (bd_Web_wakers T) (ok_Web_wakers T) (hr.mono (by decide)) gd passZ .nil rpl_nil T.cm_Web T.cl_Web T.me_Web_wakers (len_d len_nil) (gv 0) (gRd (gv 7) gR0))) (by kernel_rfl) (fun _ _ _ _ _ => (tn 8 nd)) (fun _ _ _ _ _ => gyes) (fun _ _ _ _ _ => (gshl gi (gixA hu1 (gv 1) (gv 8)))))) gA0))))))
    (s1 (ssetO 3 nd (glst (gA1 gi gA0)))
    (s1 (sfor PassesOwn.never (ir2 T.b_range gi (gshl gi (gblt blen T.b_len vb_len (gA1 (gfld (T.ok_Web_bells) (gv 0)) gA0)))) (tn 4 nd) (s1 (ssetLc 5 [(("k" : Str), 6)] nd (ir1 T.b_range (gblt blen T.b_len vb_len (gA1 (gfld (T.ok_Web_bells) (gv 0)) gA0))) (by kernel_rfl) (fun _ _ _ _ _ => (tn 6 nd)) (fun _ _ _ _ _ => (gtest1 ((gandW (gcmpT (keq hu64) (gband (gshr (gv 4) (gv 6)) gi) gi) (pw_and1 (gcmpT (keq hu64) (gband (gixA hu1 (gv 2) (gv 6)) (gv 4)) gi)))).pt)) (fun _ _ _ _ _ => (gv 6)))
    (s1 (sapp 3 (gvar 3) (gif (gcmpT (keq hu64) (gv 5) (gheld (glst gA0))) gi (goix 3 (gvar 3) (gsub (gv 4) (gshl gi (gix (gv 5) gi))))))
    s0)))
    (s1 (sret (gblt bsum T.b_sum vb_sum (gA1 (gv 3) gA0)))
    s0)))))), body_ok h⟩
theorem sc_law_is : FnScope [("_law_house" : Str), ("_law_due" : Str), ("_law_told" : Str)] [("_law_house" : Str), ("_law_due" : Str)] (defScope s_law_is) := ⟨rfl, rfl, rfl, by decide +kernel, rfl, by decide +kernel, by decide +kernel⟩
theorem ok_law_is (T : TX P w K mg) : FnG P w K mg base CX0 4 T.a_law_is T.fd_law_is [("_law_house" : Str), ("_law_due" : Str)] (spF (ck T) K42.f_law_is) := by
  refine funD_okG T.fn_law_is sc_law_is (fun vs H Q E h => spF_len h) (fun cdv A outer s H vs Q E hr gd0 h => ?_)
  have nd := sc_law_is.nd
  have gd : (A.deeper (envOfC ("_law_is" : Str) (defScope s_law_is) s.heap.objs.size T.a_law_is cdv)).guards = some [] := gd0
  have hu0 := hr.units0
  have hu1 : (A.deeper (envOfC ("_law_is" : Str) (defScope s_law_is) s.heap.objs.size T.a_law_is cdv)).units + 1 < cLine := by have := hr.un; omega
  have hu62 : (A.deeper (envOfC ("_law_is" : Str) (defScope s_law_is) s.heap.objs.size T.a_law_is cdv)).units + 62 < cLine := by have := hr.un; omega
  have hu64 : (A.deeper (envOfC ("_law_is" : Str) (defScope s_law_is) s.heap.objs.size T.a_law_is cdv)).units + 64 < cLine := by have := hr.un; omega
  have hu65 : (A.deeper (envOfC ("_law_is" : Str) (defScope s_law_is) s.heap.objs.size T.a_law_is cdv)).units + 65 < cLine := by have := hr.un; omega
  exact ⟨tS (ck T) (fun _ => E) K42.b_law_is, (s1 (ssetO 2 nd (glst (gA1 (gcall (bd_how_many_stands T) (ok_how_many_stands T) (hr.mono (by decide)) gd passZ .nil rpl_nil T.mg_how_many_stands T.fn_how_many_stands.kp (len_d len_nil) (gRd (gv 0) gR0)) gA0)))
    (s1 (sif (gcmpT klt (gblt blen T.b_len vb_len (gA1 (gfld (T.ok_Web_bells) (gv 0)) gA0)) gi) (s1 (sapp 2 (gvar 2) (gcallPK0 (arr_lay rp_non) (kp_how_many_stands_0_web T) (ok_how_many_stands T) (hr.mono (by decide)) gd passZ T.mg_how_many_stands T.fn_how_many_stands.kp (len_d len_nil) (tK_d (pk_cons (gv 0) gK0))))
    s0) s0)
    (s1 (sret (gcmp (keq hu64) (gblt (breprA gd hu62) T.b_repr vb_repr (gA1 (gv 2) gA0)) (gblt (breprA gd hu62) T.b_repr vb_repr (gA1 (gmul (gheld (glst (gA1 (gv 1) gA0))) (gownLen 2 T.b_len (gvar 2))) gA0))))
    s0))), body_ok h⟩
theorem sc_law_links : FnScope [("_law_purse_here" : Str), ("_law_calls_here" : Str), ("_law_way" : Str), ("_law_found" : Str), ("_law_k" : Str), ("_law_j" : Str), ("_law_lot" : Str), ("_law_near" : Str), ("_law_keep" : Str)] [("_law_purse_here" : Str), ("_law_calls_here" : Str)] (defScope s_law_links) := ⟨rfl, rfl, rfl, by decide +kernel, rfl, by decide +kernel, by decide +kernel⟩
theorem ok_law_links (T : TX P w K mg) : FnG P w K mg base CX0 2 T.a_law_links T.fd_law_links [("_law_purse_here" : Str), ("_law_calls_here" : Str)] (spF (ck T) K57.f_law_links) := by
  refine funD_okG T.fn_law_links sc_law_links (fun vs H Q E h => spF_len h) (fun cdv A outer s H vs Q E hr gd0 h => ?_)
  have nd := sc_law_links.nd
  have gd : (A.deeper (envOfC ("_law_links" : Str) (defScope s_law_links) s.heap.objs.size T.a_law_links cdv)).guards = some [] := gd0
  have hu0 := hr.units0
  have hu1 : (A.deeper (envOfC ("_law_links" : Str) (defScope s_law_links) s.heap.objs.size T.a_law_links cdv)).units + 1 < cLine := by have := hr.un; omega
  have hu62 : (A.deeper (envOfC ("_law_links" : Str) (defScope s_law_links) s.heap.objs.size T.a_law_links cdv)).units + 62 < cLine := by have := hr.un; omega
  have hu64 : (A.deeper (envOfC ("_law_links" : Str) (defScope s_law_links) s.heap.objs.size T.a_law_links cdv)).units + 64 < cLine := by have := hr.un; omega
  have hu65 : (A.deeper (envOfC ("_law_links" : Str) (defScope s_law_links) s.heap.objs.size T.a_law_links cdv)).units + 65 < cLine := by have := hr.un; omega
  exact ⟨tS (ck T) (fun _ => E) K57.b_law_links, (s1 (spar2 2 3 nd (gMd (gcall (bd_law_draw T) (ok_law_draw T) (hr.mono (by decide)) gd passZ .nil rpl_nil T.mg_law_draw T.fn_law_draw.kp (len_r (len_d len_nil)) (gRr 0 (gvar 0) (gRd gi gR0))) (gMf (gnewL (glst gA0)) gM0)))
    (s1 (sfor PassesOwn.never (ir1 T.b_range (gblt blen T.b_len vb_len (gA1 (gv 1) gA0))) (tn 4 nd) (s1 (sfor PassesOwn.never (ir1 T.b_range (gblt blen T.b_len vb_len (gA1 (gv 1) gA0))) (tn 5 nd) (s1 (spar2 6 7 nd (gMd (gcmp (keq hu64) (gcall (bd_law_draw T) (ok_law_draw T) (hr.mono (by decide)) gd passZ .nil rpl_nil T.mg_law_draw T.fn_law_draw.kp (len_r (len_d len_nil)) (gRr 0 (gvar 0) (gRd (gix (gheld (glst (gA1 gi (gA1 gi (gA1 gi (gA1 gi (gA1 gi (gA1 gi (gA1 gi (gA1 gi (gA1 gi gA0))))))))))) (gv 2)) gR0))) gi) (gMd (gcmp (keq hu64) (gmod (gadd (gv 4) gi) (gblt blen T.b_len vb_len (gA1 (gv 1) gA0))) (gv 5)) gM0)))
    (s1 (sset 8 nd (gheld (glst (gA1 (gv 6) (gA1 (gv 6) (gA1 (gorD (gv 6) (dl_one (gv 7))) (gA1 (gv 7) (gA1 (gandD (gv 6) (dl_one (gcmp klt (gv 4) (gv 5)))) (gA1 (gorD (gv 6) (dl_one (gcmp (keq hu64) (gv 4) (gv 5)))) gA0)))))))))
    (s1 (sset 8 nd (gadd (gv 8) (gheld (glst (gA1 (gcmp (kne hu64) (gv 4) (gv 5)) (gA1 (gorD (gv 7) (dl_one (gandD (gv 6) (dl_one (gcmp (keq hu64) (gv 4) (gv 5)))))) (gA1 gb gA0)))))))
    (s1 (sif (gvalT (gixA hu1 (gv 8) (gv 2))) (s1 (sapp 3 (gvar 3) (gtup (gA1 (gixA hu1 (gv 1) (gv 4)) (gA1 (gixA hu1 (gv 1) (gv 5)) gA0))))
    s0) s0)
    s0)))))
    s0))
    (s1 (sret (gty btuple T.b_tuple vb_tuple (gA1 (gv 3) gA0)))
    s0))), body_ok h⟩
theorem sc_law_lots : FnScope [("_law_calls_here" : Str), ("_law_found" : Str), ("_law_name" : Str), ("_law_lot" : Str)] [("_law_calls_here" : Str)] (defScope s_law_lots) := ⟨rfl, rfl, rfl, by decide +kernel, rfl, by decide +kernel, by decide +kernel⟩
theorem ok_law_lots (T : TX P w K mg) : FnG P w K mg base CX0 1 T.a_law_lots T.fd_law_lots [("_law_calls_here" : Str)] (spF (ck T) K13.f_law_stands) := by
  refine funD_okG T.fn_law_lots sc_law_lots (fun vs H Q E h => spF_len h) (fun cdv A outer s H vs Q E hr gd0 h => ?_)
  have nd := sc_law_lots.nd
  have gd : (A.deeper (envOfC ("_law_lots" : Str) (defScope s_law_lots) s.heap.objs.size T.a_law_lots cdv)).guards = some [] := gd0
  have hu0 := hr.units0
  have hu1 : (A.deeper (envOfC ("_law_lots" : Str) (defScope s_law_lots) s.heap.objs.size T.a_law_lots cdv)).units + 1 < cLine := by have := hr.un; omega
  have hu62 : (A.deeper (envOfC ("_law_lots" : Str) (defScope s_law_lots) s.heap.objs.size T.a_law_lots cdv)).units + 62 < cLine := by have := hr.un; omega
  have hu64 : (A.deeper (envOfC ("_law_lots" : Str) (defScope s_law_lots) s.heap.objs.size T.a_law_lots cdv)).units + 64 < cLine := by have := hr.un; omega
  have hu65 : (A.deeper (envOfC ("_law_lots" : Str) (defScope s_law_lots) s.heap.objs.size T.a_law_lots cdv)).units + 65 < cLine := by have := hr.un; omega
  exact ⟨tS (ck T) (fun _ => E) K13.b_law_stands, (s1 (sset 1 nd (gheld (glst (gA1 (gtup gA0) gA0))))
    (s1 (sfor PassesOwn.never (dl_itA (gv 0)) (tn 2 nd) (s1 (sset 1 nd (gadd (gv 1) (gheld (gcomp [(("_law_lot" : Str), 3)] nd (dl_itA (gv 1)) (by kernel_rfl) (fun _ _ _ _ _ => (tn 3 nd)) (fun _ _ _ _ _ => gyes) (fun _ _ _ _ _ => (gadd (gv 3) (gtup (gA1 (gv 2) gA0))))))))
    s0))
    (s1 (sret (gv 1))
    s0))), body_ok h⟩
theorem sc_law_purse : FnScope [("_law_cell_here" : Str), ("_law_digits" : Str)] [("_law_cell_here" : Str)] (defScope s_law_purse) := ⟨rfl, rfl, rfl, by decide +kernel, rfl, by decide +kernel, by decide +kernel⟩
theorem ok_law_purse (T : TX P w K mg) : FnG P w K mg base CX0 1 T.a_law_purse T.fd_law_purse [("_law_cell_here" : Str)] (spL (ck T) K14.f_law_purse) := by
  refine funD_okG T.fn_law_purse sc_law_purse (fun vs H Q E h => spL_len h) (fun cdv A outer s H vs Q E hr gd0 h => ?_)
  have nd := sc_law_purse.nd
  have gd : (A.deeper (envOfC ("_law_purse" : Str) (defScope s_law_purse) s.heap.objs.size T.a_law_purse cdv)).guards = some [] := gd0
  have hu0 := hr.units0
  have hu1 : (A.deeper (envOfC ("_law_purse" : Str) (defScope s_law_purse) s.heap.objs.size T.a_law_purse cdv)).units + 1 < cLine := by have := hr.un; omega
  have hu62 : (A.deeper (envOfC ("_law_purse" : Str) (defScope s_law_purse) s.heap.objs.size T.a_law_purse cdv)).units + 62 < cLine := by have := hr.un; omega
  have hu64 : (A.deeper (envOfC ("_law_purse" : Str) (defScope s_law_purse) s.heap.objs.size T.a_law_purse cdv)).units + 64 < cLine := by have := hr.un; omega
  have hu65 : (A.deeper (envOfC ("_law_purse" : Str) (defScope s_law_purse) s.heap.objs.size T.a_law_purse cdv)).units + 65 < cLine := by have := hr.un; omega
  exact ⟨tL (ck T) (fun _ => E) K14.b_law_purse, (l1 (sset 1 nd (gif ((gorW (gcmpT klt (gv 0) gi) (pw_or1 (gcmpT kge (gv 0) (gpow gi gi))))).pt (gblt babs T.b_abs vb_abs (gA1 (gv 0) gA0)) gi)) (l2 (lret (glst (gA1 (gv 1) (gA1 (gadd (gmul (gmod (gv 0) gi) gi) gi) (gA1 gi gA0))))) l0)), bodyL_ok h⟩
theorem sc_law_ringless : FnScope [("_law_links_here" : Str), ("_law_some" : Str), ("_law_left" : Str), ("_law_turn" : Str), ("_law_one" : Str), ("_law_pair" : Str)] [("_law_links_here" : Str), ("_law_some" : Str)] (defScope s_law_ringless) := ⟨rfl, rfl, rfl, by decide +kernel, rfl, by decide +kernel, by decide +kernel⟩
theorem ok_law_ringless (T : TX P w K mg) : FnG P w K mg base CX0 1 T.a_law_ringless T.fd_law_ringless [("_law_links_here" : Str), ("_law_some" : Str)] (spF (ck T) K41.f_law_ringless) := by
  refine funD_okG T.fn_law_ringless sc_law_ringless (fun vs H Q E h => spF_len h) (fun cdv A outer s H vs Q E hr gd0 h => ?_)
  have nd := sc_law_ringless.nd
  have gd : (A.deeper (envOfC ("_law_ringless" : Str) (defScope s_law_ringless) s.heap.objs.size T.a_law_ringless cdv)).guards = some [] := gd0
  have hu0 := hr.units0
  have hu1 : (A.deeper (envOfC ("_law_ringless" : Str) (defScope s_law_ringless) s.heap.objs.size T.a_law_ringless cdv)).units + 1 < cLine := by have := hr.un; omega
  have hu62 : (A.deeper (envOfC ("_law_ringless" : Str) (defScope s_law_ringless) s.heap.objs.size T.a_law_ringless cdv)).units + 62 < cLine := by have := hr.un; omega
  have hu64 : (A.deeper (envOfC ("_law_ringless" : Str) (defScope s_law_ringless) s.heap.objs.size T.a_law_ringless cdv)).units + 64 < cLine := by have := hr.un; omega
  have hu65 : (A.deeper (envOfC ("_law_ringless" : Str) (defScope s_law_ringless) s.heap.objs.size T.a_law_ringless cdv)).units + 65 < cLine := by have := hr.un; omega
  exact ⟨tS (ck T) (fun _ => E) K41.b_law_ringless, (s1 (sset 2 nd (gheld (glist T.b_list vb_list (gA1 (gv 1) gA0))))
    (s1 (sfor PassesOwn.never (ir1 T.b_range (gblt blen T.b_len vb_len (gA1 (gv 1) gA0))) (tn 3 nd) (s1 (sset 2 nd (gheld (gcomp [(("_law_one" : Str), 4)] nd (dl_itA (gv 2)) (by kernel_rfl) (fun _ _ _ _ _ => (tn 4 nd)) (fun _ _ _ _ _ => (gtest1 (gvalT (gblt bany T.b_any vb_any (gA1 (gheld (gcomp [(("_law_pair" : Str), 5)] nd (dl_itA (gv 0)) (by kernel_rfl) (fun _ _ _ _ _ => (tn 5 nd)) (fun _ _ _ _ _ => gyes) (fun _ _ _ _ _ => (gandD (gcmp (keq hu64) (gix (gv 5) gi) (gv 4)) (dl_one (gcmp (kin hu65) (gix (gv 5) gi) (gv 2))))))) gA0))))) (fun _ _ _ _ _ => (gv 4)))))
    s0))
    (s1 (sret (gcmp (keq hu64) (gv 2) (gheld (glst gA0))))
    s0))), body_ok h⟩
theorem sc_law_table_count : FnScope [("_law_links_here" : Str), ("_law_calls_here" : Str), ("_law_places" : Str), ("_law_bits" : Str), ("_law_found" : Str), ("_law_name" : Str), ("_law_wakes_it" : Str), ("_law_lot" : Str), ("_law_some" : Str), ("_law_free" : Str), ("_law_mate" : Str), ("_law_k" : Str), ("_law_j" : Str)] [("_law_links_here" : Str), ("_law_calls_here" : Str)] (defScope s_law_table_count) := ⟨rfl, rfl, rfl, by decide +kernel, rfl, by decide +kernel, by decide +kernel⟩
theorem ok_law_table_count (T : TX P w K mg) : FnG P w K mg base CX0 1 T.a_law_table_count T.fd_law_table_count [("_law_links_here" : Str), ("_law_calls_here" : Str)] (spF (ck T) K42.f_law_table_count) := by
  refine funD_okG T.fn_law_table_count sc_law_table_count (fun vs H Q E h => spF_len h) (fun cdv A outer s H vs Q E hr gd0 h => ?_)
  have nd := sc_law_table_count.nd
  have gd : (A.deeper (envOfC ("_law_table_count" : Str) (defScope s_law_table_count) s.heap.objs.size T.a_law_table_count cdv)).guards = some [] := gd0
  have hu0 := hr.units0
  have hu1 : (A.deeper (envOfC ("_law_table_count" : Str) (defScope s_law_table_count) s.heap.objs.size T.a_law_table_count cdv)).units + 1 < cLine := by have := hr.un; omega
  have hu62 : (A.deeper (envOfC ("_law_table_count" : Str) (defScope s_law_table_count) s.heap.objs.size T.a_law_table_count cdv)).units + 62 < cLine := by have := hr.un; omega
  have hu64 : (A.deeper (envOfC ("_law_table_count" : Str) (defScope s_law_table_count) s.heap.objs.size T.a_law_table_count cdv)).units + 64 < cLine := by have := hr.un; omega
  have hu65 : (A.deeper (envOfC ("_law_table_count" : Str) (defScope s_law_table_count) s.heap.objs.size T.a_law_table_count cdv)).units + 65 < cLine := by have := hr.un; omega
  exact ⟨tS (ck T) (fun _ => E) K42.b_law_table_count, (s1 (sparT (gN1 2 nd (gN1 3 nd (gN1 4 nd gN0))) (gMd (gheld (glistRg T.b_list T.b_range (gblt blen T.b_len vb_len (gA1 (gv 1) gA0)))) (gMf (gnewL (glst (gA1 gi gA0))) (gMf (gnewL (glst (gA1 gi gA0))) gM0))))
    (s1 (sfor PassesOwn.never (dl_itA (gv 1)) (tn 5 nd) (s1 (sapp 3 (gvar 3) (gmul gi (goix 3 (gvar 3) (gneg gi))))
    s0))
    (s1 (sset 6 nd (gheld (gcomp [(("_law_name" : Str), 5)] nd (dl_itA (gv 1)) (by kernel_rfl) (fun _ _ _ _ _ => (tn 5 nd)) (fun _ _ _ _ _ => gyes) (fun _ _ _ _ _ => (gheld (gcomp [(("_law_mate" : Str), 10)] nd (dl_itA (gv 1)) (by kernel_rfl) (fun _ _ _ _ _ => (tn 10 nd)) (fun _ _ _ _ _ => gyes) (fun _ _ _ _ _ => (gcmp (kin hu65) (gtup (gA1 (gv 10) (gA1 (gv 5) gA0))) (gv 0)))))))))
    (s1 (sfor PassesOwn.never (ir2 T.b_range gi (goix 3 (gvar 3) (gneg gi))) (tn 7 nd) (s1 (sset 8 nd (gheld (gcomp [(("_law_k" : Str), 11)] nd (dl_itA (gv 2)) (by kernel_rfl) (fun _ _ _ _ _ => (tn 11 nd)) (fun _ _ _ _ _ => (gtest1 (gcmpT (keq hu64) (gmod (gfdiv (gv 7) (gownIxA 3 hu1 (gvar 3) (gv 11))) gi) gi))) (fun _ _ _ _ _ => (gv 11)))))
    (s1 (ssetLc 9 [(("_law_k" : Str), 11)] nd (dl_itA (gv 8)) (by kernel_rfl) (fun _ _ _ _ _ => (tn 11 nd)) (fun _ _ _ _ _ => (gtest1 (gnotT (gvalT (gblt bany T.b_any vb_any (gA1 (gheld (gcomp [(("_law_j" : Str), 12)] nd (dl_itA (gv 8)) (by kernel_rfl) (fun _ _ _ _ _ => (tn 12 nd)) (fun _ _ _ _ _ => gyes) (fun _ _ _ _ _ => (gixA hu1 (gixA hu1 (gv 6) (gv 11)) (gv 12))))) gA0)))))) (fun _ _ _ _ _ => (gv 11)))
    (s1 (sapp 4 (gvar 4) (gif (gcmpT (kne hu64) (gv 9) (gheld (glst gA0))) (goix 4 (gvar 4) (gsub (gv 7) (gownIxA 3 hu1 (gvar 3) (gix (gv 9) gi)))) gi))
    s0))))
    (s1 (sret (gblt bsum T.b_sum vb_sum (gA1 (gv 4) gA0)))
    s0))))), body_ok h⟩
theorem sc_law_selves : FnScope [("_law_calls_here" : Str), ("_law_name" : Str)] [("_law_calls_here" : Str)] (defScope s_law_selves) := ⟨rfl, rfl, rfl, by decide +kernel, rfl, by decide +kernel, by decide +kernel⟩
theorem ok_law_selves (T : TX P w K mg) : FnG P w K mg base CX0 1 T.a_law_selves T.fd_law_selves [("_law_calls_here" : Str)] (spF (ck T) K42.f_law_selves) := by
  refine funD_okG T.fn_law_selves sc_law_selves (fun vs H Q E h => spF_len h) (fun cdv A outer s H vs Q E hr gd0 h => ?_)
  have nd := sc_law_selves.nd
  have gd : (A.deeper (envOfC ("_law_selves" : Str) (defScope s_law_selves) s.heap.objs.size T.a_law_selves cdv)).guards = some [] := gd0
  have hu0 := hr.units0
  have hu1 : (A.deeper (envOfC ("_law_selves" : Str) (defScope s_law_selves) s.heap.objs.size T.a_law_selves cdv)).units + 1 < cLine := by have := hr.un; omega
  have hu62 : (A.deeper (envOfC ("_law_selves" : Str) (defScope s_law_selves) s.heap.objs.size T.a_law_selves cdv)).units + 62 < cLine := by have := hr.un; omega
  have hu64 : (A.deeper (envOfC ("_law_selves" : Str) (defScope s_law_selves) s.heap.objs.size T.a_law_selves cdv)).units + 64 < cLine := by have := hr.un; omega
  have hu65 : (A.deeper (envOfC ("_law_selves" : Str) (defScope s_law_selves) s.heap.objs.size T.a_law_selves cdv)).units + 65 < cLine := by have := hr.un; omega
  exact ⟨tS (ck T) (fun _ => E) K42.b_law_selves, (s1 (sret (gty btuple T.b_tuple vb_tuple (gA1 (gheld (gcomp [(("_law_name" : Str), 1)] nd (dl_itA (gv 0)) (by kernel_rfl) (fun _ _ _ _ _ => (tn 1 nd)) (fun _ _ _ _ _ => gyes) (fun _ _ _ _ _ => (gtup (gA1 (gv 1) (gA1 (gv 1) gA0)))))) gA0)))
    s0), body_ok h⟩
theorem sc_law_told_ones_right : FnScope [("_law_purse_here" : Str), ("_law_calls_here" : Str), ("_law_many" : Str), ("_law_ring" : Str), ("_law_every" : Str), ("_law_name" : Str), ("_law_power" : Str), ("_law_k" : Str), ("_law_mate" : Str)] [("_law_purse_here" : Str)] (defScope s_law_told_ones_right) := ⟨rfl, rfl, rfl, by decide +kernel, rfl, by decide +kernel, by decide +kernel⟩
theorem ok_law_told_ones_right (T : TX P w K mg) : FnG P w K mg base CX0 6 T.a_law_told_ones_right T.fd_law_told_ones_right [("_law_purse_here" : Str)] (spF (ck T) K42.f_law_told_ones_right) := by
  refine funD_okG T.fn_law_told_ones_right sc_law_told_ones_right (fun vs H Q E h => spF_len h) (fun cdv A outer s H vs Q E hr gd0 h => ?_)
  have nd := sc_law_told_ones_right.nd
  have gd : (A.deeper (envOfC ("_law_told_ones_right" : Str) (defScope s_law_told_ones_right) s.heap.objs.size T.a_law_told_ones_right cdv)).guards = some [] := gd0
  have hu0 := hr.units0
  have hu1 : (A.deeper (envOfC ("_law_told_ones_right" : Str) (defScope s_law_told_ones_right) s.heap.objs.size T.a_law_told_ones_right cdv)).units + 1 < cLine := by have := hr.un; omega
  have hu62 : (A.deeper (envOfC ("_law_told_ones_right" : Str) (defScope s_law_told_ones_right) s.heap.objs.size T.a_law_told_ones_right cdv)).units + 62 < cLine := by have := hr.un; omega
  have hu64 : (A.deeper (envOfC ("_law_told_ones_right" : Str) (defScope s_law_told_ones_right) s.heap.objs.size T.a_law_told_ones_right cdv)).units + 64 < cLine := by have := hr.un; omega
  have hu65 : (A.deeper (envOfC ("_law_told_ones_right" : Str) (defScope s_law_told_ones_right) s.heap.objs.size T.a_law_told_ones_right cdv)).units + 65 < cLine := by have := hr.un; omega
  exact ⟨tS (ck T) (fun _ => E) K42.b_law_told_ones_right, (s1 (sset 1 nd (gcall (bd_law_calls T) (ok_law_calls T) (hr.mono (by decide)) gd passZ .nil rpl_nil T.mg_law_calls T.fn_law_calls.kp (len_r (len_d len_nil)) (gRr 0 (gvar 0) (gRd (gadd gi (gcall (bd_law_draw T) (ok_law_draw T) (hr.mono (by decide)) gd passZ .nil rpl_nil T.mg_law_draw T.fn_law_draw.kp (len_r (len_d len_nil)) (gRr 0 (gvar 0) (gRd gi gR0)))) gR0))))
    (s1 (sset 2 nd (gblt blen T.b_len vb_len (gA1 (gv 1) gA0)))
    (s1 (sset 3 nd (gty btuple T.b_tuple vb_tuple (gA1 (gheld (gsorted hu62 T.b_sorted vb_sorted (gA1 (gheld (gcomp [(("_law_k" : Str), 7)] nd (ir1 T.b_range (gv 2)) (by kernel_rfl) (fun _ _ _ _ _ => (tn 7 nd)) (fun _ _ _ _ _ => gyes) (fun _ _ _ _ _ => (gtup (gA1 (gix (gv 1) (gsub (gv 7) gi)) (gA1 (gixA hu1 (gv 1) (gv 7)) gA0)))))) gA0))) gA0)))
    (s1 (ssetO 4 nd (glst gA0))
    (s1 (sfor PassesOwn.never (dl_itA (gv 1)) (tn 5 nd) (s1 (sext 4 (gvar 4) (gheld (gcomp [(("_law_mate" : Str), 8)] nd (dl_itA (gv 1)) (by kernel_rfl) (fun _ _ _ _ _ => (tn 8 nd)) (fun _ _ _ _ _ => (gtest1 (gcmpT (kne hu64) (gv 8) (gv 5)))) (fun _ _ _ _ _ => (gtup (gA1 (gv 5) (gA1 (gv 8) gA0)))))))
    s0))
    (s1 (sset 6 nd gi)
    (s1 (sfor PassesOwn.never (dl_itA (gv 1)) (tn 5 nd) (s1 (sset 6 nd (gmul gi (gv 6)))
    s0))
    (s1 (sif ((gorW (gnotT (gvalT (gcall (bd_law_is T) (ok_law_is T) (hr.mono (by decide)) gd passZ .nil rpl_nil T.mg_law_is T.fn_law_is.kp (len_d (len_d len_nil)) (gRd (gmakeP1 (arr_lay (rp_tup0 T.et_Web_init)) (fun _ _ _ => rfl) T.mk_Web (kp_Web_init_2_ T) (ok_Web_init T) (hr.mono (by decide)) gd passZ T.cm_Web T.mg_Web (len_d len_nil) (gRd (gv 1) gR0)) (gRd (gv 6) gR0))))) (pw_or1 (gnotT (gvalT (gcall (bd_law_is T) (ok_law_is T) (hr.mono (by decide)) gd passZ .nil rpl_nil T.mg_law_is T.fn_law_is.kp (len_d (len_d len_nil)) (gRd (gmakeK T.mk_Web (kb_Web_init_2 T) (ok_Web_init T) (hr.mono (by decide)) gd passZ T.cm_Web T.mg_Web (len_d len_nil) (len_d len_nil) (gRd (gv 1) gR0) (tK_d (pk_cons (gv 3) gK0))) (gRd (gsub (gv 6) gi) gR0)))))))).pt (s1 (sret gb)
    s0) s0)
    (s1 (sret (gandD (gcall (bd_law_is T) (ok_law_is T) (hr.mono (by decide)) gd passZ .nil rpl_nil T.mg_law_is T.fn_law_is.kp (len_d (len_d len_nil)) (gRd (gmakeK T.mk_Web (kb_Web_init_2 T) (ok_Web_init T) (hr.mono (by decide)) gd passZ T.cm_Web T.mg_Web (len_d len_nil) (len_d len_nil) (gRd (gv 1) gR0) (tK_d (pk_cons (gty btuple T.b_tuple vb_tuple (gA1 (gv 4) gA0)) gK0))) (gRd (gadd (gv 2) gi) gR0))) (dl_one (gcall (bd_law_is T) (ok_law_is T) (hr.mono (by decide)) gd passZ .nil rpl_nil T.mg_law_is T.fn_law_is.kp (len_d (len_d len_nil)) (gRd (gmakeK T.mk_Web (kb_Web_init_2 T) (ok_Web_init T) (hr.mono (by decide)) gd passZ T.cm_Web T.mg_Web (len_d len_nil) (len_d len_nil) (gRd (gv 1) gR0) (tK_d (pk_cons (gcall (bd_law_selves T) (ok_law_selves T) (hr.mono (by decide)) gd passZ .nil rpl_nil T.mg_law_selves T.fn_law_selves.kp (len_d len_nil) (gRd (gv 1) gR0)) gK0))) (gRd gi gR0))))))
    s0))))))))), body_ok h⟩
theorem sc_law : FnScope [("_law_script" : Str), ("_law_k" : Str), ("_law_purse_here" : Str), ("_law_calls_here" : Str), ("_law_links_here" : Str), ("_law_due" : Str), ("_law_wide" : Str), ("_law_lot" : Str)] [("_law_script" : Str)] (defScope s_law) := ⟨rfl, rfl, rfl, by decide +kernel, rfl, by decide +kernel, by decide +kernel⟩
theorem ok_law (T : TX P w K mg) : FnG P w K mg base CX0 7 T.a_law T.fd_law [("_law_script" : Str)] (spF (ck T) K42.f_law) := by
  refine funD_okG T.fn_law sc_law (fun vs H Q E h => spF_len h) (fun cdv A outer s H vs Q E hr gd0 h => ?_)
  have nd := sc_law.nd
  have gd : (A.deeper (envOfC ("law" : Str) (defScope s_law) s.heap.objs.size T.a_law cdv)).guards = some [] := gd0
  have hu0 := hr.units0
  have hu1 : (A.deeper (envOfC ("law" : Str) (defScope s_law) s.heap.objs.size T.a_law cdv)).units + 1 < cLine := by have := hr.un; omega
  have hu62 : (A.deeper (envOfC ("law" : Str) (defScope s_law) s.heap.objs.size T.a_law cdv)).units + 62 < cLine := by have := hr.un; omega
  have hu64 : (A.deeper (envOfC ("law" : Str) (defScope s_law) s.heap.objs.size T.a_law cdv)).units + 64 < cLine := by have := hr.un; omega
  have hu65 : (A.deeper (envOfC ("law" : Str) (defScope s_law) s.heap.objs.size T.a_law cdv)).units + 65 < cLine := by have := hr.un; omega
  exact ⟨tS (ck T) (fun _ => E) K42.b_law, (s1 (sfor PassesOwn.never (ir1 T.b_range (gblt bmax2 T.b_max vb_max (gA1 gi (gA1 (gblt bmin2 T.b_min vb_min (gA1 gi (gA1 (gblt blen T.b_len vb_len (gA1 (gv 0) gA0)) gA0))) gA0)))) (tn 1 nd) (s1 (ssetO 2 nd (gcallL (bd_law_purse T) (ok_law_purse T) (hr.mono (by decide)) gd passZ T.mg_law_purse T.fn_law_purse.kp (len_d len_nil) (gRd (gcall (bd_law_cell T) (ok_law_cell T) (hr.mono (by decide)) gd passZ .nil rpl_nil T.mg_law_cell T.fn_law_cell.kp (len_d (len_d len_nil)) (gRd (gv 0) (gRd (gv 1) gR0))) gR0)))
    (s1 (sset 3 nd (gcall (bd_law_calls T) (ok_law_calls T) (hr.mono (by decide)) gd passZ .nil rpl_nil T.mg_law_calls T.fn_law_calls.kp (len_r (len_d len_nil)) (gRr 2 (gvar 2) (gRd (gadd gi (gcall (bd_law_draw T) (ok_law_draw T) (hr.mono (by decide)) gd passZ .nil rpl_nil T.mg_law_draw T.fn_law_draw.kp (len_r (len_d len_nil)) (gRr 2 (gvar 2) (gRd gi gR0)))) gR0))))
    (s1 (sset 4 nd (gcall (bd_law_links T) (ok_law_links T) (hr.mono (by decide)) gd passZ .nil rpl_nil T.mg_law_links T.fn_law_links.kp (len_r (len_d len_nil)) (gRr 2 (gvar 2) (gRd (gv 3) gR0))))
    (s1 (sset 5 nd (gblt blen T.b_len vb_len (gA1 (gheld (gcomp [(("_law_lot" : Str), 7)] nd (dl_itA (gcall (bd_law_lots T) (ok_law_lots T) (hr.mono (by decide)) gd passZ .nil rpl_nil T.mg_law_lots T.fn_law_lots.kp (len_d len_nil) (gRd (gv 3) gR0))) (by kernel_rfl) (fun _ _ _ _ _ => (tn 7 nd)) (fun _ _ _ _ _ => (gtest1 (gvalT (gcall (bd_law_ringless T) (ok_law_ringless T) (hr.mono (by decide)) gd passZ .nil rpl_nil T.mg_law_ringless T.fn_law_ringless.kp (len_d (len_d len_nil)) (gRd (gv 4) (gRd (gv 7) gR0)))))) (fun _ _ _ _ _ => (gv 7)))) gA0)))
    (s1 (sif (gnotT (gvalT (gcall (bd_law_is T) (ok_law_is T) (hr.mono (by decide)) gd passZ .nil rpl_nil T.mg_law_is T.fn_law_is.kp (len_d (len_d len_nil)) (gRd (gmakeK T.mk_Web (kb_Web_init_2 T) (ok_Web_init T) (hr.mono (by decide)) gd passZ T.cm_Web T.mg_Web (len_d len_nil) (len_d len_nil) (gRd (gv 3) gR0) (tK_d (pk_cons (gv 4) gK0))) (gRd (gv 5) gR0))))) (s1 (sret gb)
    s0) s0)
    (s1 (sif ((gandW (gcmpT (keq hu64) (gv 1) gi) (pw_and1 (gnotT (gvalT (gcall (bd_law_told_ones_right T) (ok_law_told_ones_right T) (hr.mono (by decide)) gd passZ .nil rpl_nil T.mg_law_told_ones_right T.fn_law_told_ones_right.kp (len_r len_nil) (gRr 2 (gvar 2) gR0))))))).pt (s1 (sret gb)
    s0) s0)
    (s1 (sif (gcmpT (keq hu64) (gcall (bd_law_draw T) (ok_law_draw T) (hr.mono (by decide)) gd passZ .nil rpl_nil T.mg_law_draw T.fn_law_draw.kp (len_r (len_d len_nil)) (gRr 2 (gvar 2) (gRd gi gR0))) gi) (s1 (sset 6 nd (gcall (bd_law_calls T) (ok_law_calls T) (hr.mono (by decide)) gd passZ .nil rpl_nil T.mg_law_calls T.fn_law_calls.kp (len_r (len_d len_nil)) (gRr 2 (gvar 2) (gRd (gblt bmin2 T.b_min vb_min (gA1 (gadd gi (gcall (bd_law_draw T) (ok_law_draw T) (hr.mono (by decide)) gd passZ .nil rpl_nil T.mg_law_draw T.fn_law_draw.kp (len_r (len_d len_nil)) (gRr 2 (gvar 2) (gRd gi gR0)))) (gA1 (gix (gheld (glst (gA1 gi (gA1 gi gA0)))) (gty bint T.b_int vb_int (gA1 (gcmp kgt (gv 1) gi) gA0))) gA0))) gR0))))
    (s1 (sset 4 nd (gcall (bd_law_links T) (ok_law_links T) (hr.mono (by decide)) gd passZ .nil rpl_nil T.mg_law_links T.fn_law_links.kp (len_r (len_d len_nil)) (gRr 2 (gvar 2) (gRd (gv 6) gR0))))
    (s1 (sif (gnotT (gvalT (gcall (bd_law_is T) (ok_law_is T) (hr.mono (by decide)) gd passZ .nil rpl_nil T.mg_law_is T.fn_law_is.kp (len_d (len_d len_nil)) (gRd (gmakeK T.mk_Web (kb_Web_init_2 T) (ok_Web_init T) (hr.mono (by decide)) gd passZ T.cm_Web T.mg_Web (len_d len_nil) (len_d len_nil) (gRd (gv 6) gR0) (tK_d (pk_cons (gv 4) gK0))) (gRd (gcall (bd_law_table_count T) (ok_law_table_count T) (hr.mono (by decide)) gd passZ .nil rpl_nil T.mg_law_table_count T.fn_law_table_count.kp (len_d (len_d len_nil)) (gRd (gv 4) (gRd (gv 6) gR0))) gR0))))) (s1 (sret gb)
    s0) s0)
    s0))) s0)
    s0))))))))
    (s1 (sret gb)
    s0)), body_ok h⟩
theorem fin (T : TX P w K mg) {fa : Addr} (hfa : mg "law" = some (.ref fa)) (h : ∀ ns : List Int, ns.length ≤ 63 → ∃ e, K42.f_law [.dat (.ro (ns.map D.int))] = .ok (.bl true) e) : ∃ fd : FuncData, (∀ (s : Shared) (u : Value), BindsTo s fd ⟨[u], []⟩ [(("_law_script" : Str), u)]) ∧ ∀ base : Heap, K.In base → base.Ns mainGlobals mg → FnG P w K mg base CX0 7 fa fd [("_law_script" : Str)] (spLaw K) := by
  have e := hfa.symm.trans T.mg_law
  cases e
  refine ⟨T.fd_law, fun s u => T.fn_law.bindsA (ps := [("_law_script" : Str)]) (fun _ _ _ _ _ _ us hl => match us, hl with | [_], _ => rfl) s [u] rfl, fun base _ _ => (ok_law T).imp fun vs H Q E q => law_imp (c := ck T) h q⟩
end
end DL.K42
namespace DL
open PySem L2
noncomputable def Wp {α : Type} (o : Out α) (Q : α → Env → Prop) : Prop := ∃ a e, o = .ok a e ∧ Q a e
section
variable {α β : Type} {Q : α → Env → Prop}
theorem wp_bind {o : Out β} {f : β → Env → Out α} : Wp (o.bind f) Q ↔ Wp o fun a e => Wp (f a e) Q := by
  constructor
  · rintro ⟨a, e, h, q⟩
    cases o with
    | no => cases h
    | ex x e => cases h
    | ok b e' => exact ⟨b, e', rfl, a, e, h, q⟩
  · rintro ⟨b, e', rfl, a, e, h, q⟩
    exact ⟨a, e, h, q⟩
theorem wp_ok {a : α} {e : Env} : Wp (.ok a e) Q ↔ Q a e := ⟨fun ⟨_, _, h, q⟩ => by cases h; exact q, fun q => ⟨a, e, rfl, q⟩⟩
theorem wp_eq {o : Out α} {a : α} {e : Env} (h : o = .ok a e) (q : Q a e) : Wp o Q := ⟨a, e, h, q⟩
theorem Wp.mono {o : Out α} {Q' : α → Env → Prop} (h : Wp o Q) (k : ∀ a e, Q a e → Q' a e) : Wp o Q' := by
  obtain ⟨a, e, h1, h2⟩ := h
  exact ⟨a, e, h1, k a e h2⟩
theorem Wp.out {o : Out α} {a : α} {e : Env} (h : Wp o fun b e' => b = a ∧ e' = e) : o = .ok a e := by
  obtain ⟨b, e', h1, rfl, rfl⟩ := h
  exact h1
end
section
variable {Q : Fl → Env → Prop} {e : Env}
theorem wp_seq {r1 r2 : Env → Out Fl} (h : Wp (r1 e) fun fl e1 => match fl with | .nx => Wp (r2 e1) Q | fl => Q fl e1) : Wp (seqS r1 r2 e) Q := by
  unfold seqS
  rw [wp_bind]
  refine h.mono fun fl e1 k => ?_
  cases fl with
  | nx => exact k
  | _ => exact wp_ok.mpr k
theorem wp_nx : Wp (nextS e) Q ↔ Q .nx e := wp_ok
/-- a walk whose turns all go on -/
theorem wp_for {ri : Env → Out (List D)} {rg : D → Env → Option Env} {sl : List Nat} {rb : Env → Out Fl} (P : Nat → Env → Prop) (ds : List D) (e1 : Env) (hi : ri e = .ok ds e1) (h0 : P 0 e1)
    (hs : ∀ i d e, ds[i]? = some d → P i e → ∃ e2, rg d e = some e2 ∧ (keepsB e e2 && freeE e2 sl) = true ∧ Wp (rb e2) fun fl e3 => fl = .nx ∧ P (i + 1) e3) (hd : ∀ e', P ds.length e' → Q .nx e') : Wp (forS ri rg sl rb e) Q := by
  unfold forS
  rw [hi, bind_ok]
  obtain ⟨e', h1, h2⟩ := loopS_inv (rg := rg) (sl := sl) (rb := rb) P (ds := ds) (n := 0) (e := e1) (fun i d e q r => by
    rw [Nat.zero_add] at r ⊢
    obtain ⟨e2, k1, k2, fl, e3, k3, rfl, k4⟩ := hs i d e q r
    exact ⟨e2, e3, k1, k2, k3, k4⟩) h0
  rw [Nat.zero_add] at h2
  exact ⟨_, _, h1, hd e' h2⟩
end
theorem fn_wp {n tot : Nat} {rb : Env → Out Fl} {svs : List SV} {Q : D → Env → Prop} (h : Wp (rb (svs ++ List.replicate (tot - n) .un)) fun fl e => match fl with | .nx => Q .non (backA svs e) | .rt d => Q d (backA svs e) | _ => False) (hl : svs.length = n := by rfl) : Wp (fnOf n tot rb svs) Q := by
  obtain ⟨fl, e, h1, h2⟩ := h
  unfold fnOf
  rw [if_pos hl, h1]
  cases fl with
  | nx => exact ⟨_, _, rfl, h2⟩
  | rt d => exact ⟨_, _, rfl, h2⟩
  | bk => exact h2.elim
  | ct => exact h2.elim
theorem consA1 {ra : Env → Out D} {e e1 : Env} {d : D} (h : ra e = .ok d e1) : consA ra nilA e = .ok [d] e1 := by
  unfold consA
  rw [h]
  rfl
theorem held_ok {rf : Env → Out (List D)} {e e1 : Env} {l : List D} (h : rf e = .ok l e1) : heldD rf e = .ok (.lst l) e1 := by
  unfold heldD
  rw [h]
  rfl
section
variable {e e1 e2 e3 : Env} {ra rb : Env → Out D} {rA : Env → Out (List D)} {ta tb : Env → Out Bool} {b k : Bool} {x y d : D}
theorem or1 (h : ta e = .ok true e1) : orT ta tb e = .ok true e1 := by unfold orT; rw [h]; rfl
theorem or2 (h : ta e = .ok false e1) (h2 : tb e1 = .ok b e2) : orT ta tb e = .ok b e2 := by unfold orT; rw [h]; exact h2
theorem and1 (h : ta e = .ok false e1) : andT ta tb e = .ok false e1 := by unfold andT; rw [h]; rfl
theorem and2 (h : ta e = .ok true e1) (h2 : tb e1 = .ok b e2) : andT ta tb e = .ok b e2 := by unfold andT; rw [h]; exact h2
theorem not1 (h : ta e = .ok b e1) (hb : (!b) = k := by rfl) : notT ta e = .ok k e1 := by unfold notT; rw [h, ← hb]; rfl
theorem val1 (h : ra e = .ok (.bl b) e1) : valT ra e = .ok b e1 := by unfold valT; rw [h]; rfl
theorem bin1 {f : D → D → Option D} (h : ra e = .ok x e1) (h2 : rb e1 = .ok y e2) (h3 : f x y = some d) : bin2 (pur2 f) ra rb e = .ok d e2 := by
  unfold bin2
  rw [h, bind_ok, h2, bind_ok]
  unfold pur2
  rw [h3]
theorem andD2 (h : ra e = .ok (.bl true) e1) (h2 : rb e1 = .ok d e2) : andD ra rb e = .ok d e2 := by unfold andD; rw [h]; exact h2
theorem andD1 (h : ra e = .ok (.bl false) e1) : andD ra rb e = .ok (.bl false) e1 := by unfold andD; rw [h]; rfl
theorem orD2 (h : ra e = .ok (.bl false) e1) (h2 : rb e1 = .ok d e2) : orD ra rb e = .ok d e2 := by unfold orD; rw [h]; exact h2
theorem orD1 (h : ra e = .ok (.bl true) e1) : orD ra rb e = .ok (.bl true) e1 := by unfold orD; rw [h]; rfl
theorem ifSf {r1 r2 : Env → Out Fl} {fl : Fl} (h : ta e = .ok false e1) (h2 : r2 e1 = .ok fl e2) : ifS ta r1 r2 e = .ok fl e2 := by unfold ifS; rw [h]; exact h2
theorem ifSt {r1 r2 : Env → Out Fl} {fl : Fl} (h : ta e = .ok true e1) (h2 : r1 e1 = .ok fl e2) : ifS ta r1 r2 e = .ok fl e2 := by unfold ifS; rw [h]; exact h2
theorem ifDf (h : ta e = .ok false e1) (h2 : rb e1 = .ok d e2) : ifD ta ra rb e = .ok d e2 := by unfold ifD; rw [h]; exact h2
theorem ifDt (h : ta e = .ok true e1) (h2 : ra e1 = .ok d e2) : ifD ta ra rb e = .ok d e2 := by unfold ifD; rw [h]; exact h2
theorem consA2 {ds : List D} (h : ra e = .ok d e1) (h2 : rA e1 = .ok ds e2) : consA ra rA e = .ok (d :: ds) e2 := by unfold consA; rw [h, bind_ok, h2]; rfl
theorem call1 {f : List D → Option D} {ds : List D} (h : rA e = .ok ds e1) (h2 : f ds = some d) : callD f rA e = .ok d e1 := by unfold callD; rw [h, bind_ok, h2]
theorem callo {f : D → Option D} (h : ra e = .ok x e1) (h2 : f x = some d) : callD (one f) (consA ra nilA) e = .ok d e1 := call1 (consA1 h) h2
theorem ret1 (h : ra e = .ok d e1) : retS ra e = .ok (.rt d) e1 := by unfold retS; rw [h]; rfl
theorem asg1 {rg : D → Env → Option Env} {sl : List Nat} (h : ra e = .ok d e1) (h2 : rg d e1 = some e2) (h3 : (keepsB e1 e2 && freeE e2 sl) = true) : asgS ra rg sl e = .ok .nx e2 := by
  unfold asgS
  rw [h, bind_ok, h2]
  simp only [h3, if_true]
theorem tup1 {ds : List D} (h : rA e = .ok ds e1) (hz : ds.length ≤ sizeLine) : tupD rA e = .ok (.tup ds) e1 := by unfold tupD; rw [h, bind_ok, if_pos hz]
theorem lst1 {ds : List D} (h : rA e = .ok ds e1) (hz : ds.length ≤ sizeLine) : lstF rA e = .ok ds e1 := by unfold lstF; rw [h, bind_ok, if_pos hz]
theorem fld1 {cn f : Str} (h : ra e = .ok x e1) (h2 : fldF cn f x = some d) : fldD cn f ra e = .ok d e1 := by unfold fldD pur1; rw [h, bind_ok, h2]
theorem itT1 {l : List D} (h : ra e = .ok (.tup l) e1) : itA ra e = .ok l e1 := by unfold itA itT; rw [h]; rfl
theorem itL1 {l : List D} (h : ra e = .ok (.lst l) e1) : itA ra e = .ok l e1 := by unfold itA itL; rw [h]; rfl
end
theorem nm1 {i : Nat} {e : Env} {d : D} (h : e[i]? = some (.dat d)) : nameD i e = .ok d e := by unfold nameD; rw [h]
theorem cn1 {d : D} {e : Env} : constD d e = .ok d e := rfl
theorem int_sum {α : Type} (f : α → Nat) : ∀ l : List α, (l.map fun a => ((f a : Nat) : Int)).sum = (((l.map f).sum : Nat) : Int)
  | [] => rfl
  | a :: l => by
    rw [List.map_cons, List.sum_cons, int_sum f l, List.map_cons, List.sum_cons]
    omega
theorem len_tm {α : Type} (f : α → D) (l : List α) : lenF (.tup (l.map f)) = some (.int l.length) := by
  show some (D.int ((l.map f).length : Nat)) = _
  rw [List.length_map]
theorem len_lm {α : Type} (f : α → D) (l : List α) : lenF (.lst (l.map f)) = some (.int l.length) := by
  show some (D.int ((l.map f).length : Nat)) = _
  rw [List.length_map]
end DL
namespace DL.K04
open PySem L2
noncomputable abbrev abc : Str := ("abcdefghijklmnopqrstuvwxyz" : Str)
/-- a name -/
structure Nm (s : Str) : Prop where
  lo : 1 ≤ s.length
  hi : s.length ≤ 8
  ch : ∀ c ∈ s.cps.toList, c ∈ abc.cps.toList
theorem sz : (8 : Nat) ≤ sizeLine := by decide
theorem is_name_ok {s : Str} (h : Nm s) : f_is_name [.dat (.str s)] = .ok (.bl true) [.dat (.str s)] := by
  have h1 : s.length ≤ sizeLine := Nat.le_trans h.hi sz
  have hc : compF [1] (itA (nameD 0)) (setD 1) yesT (bin2 (pur2 (inF false)) (nameD 1) (constD (.str abc))) [.dat (.str s), .un] = .ok ((s.cps.toList.filter fun _ => true).map fun c => .bl (decide (c ∈ abc.cps.toList))) [.dat (.str s), .un] := by
    refine compF_map (f := fun c => .str ⟨#[c]⟩) rfl rfl (by simpa [Str.length] using h1) rfl fun c m => ⟨[.dat (.str s), .dat (.str ⟨#[c]⟩)], rfl, rfl, rfl, rfl, fun _ => ?_⟩
    simp [bin2, nameD, constD, pur2, inF, signOf]
  rw [show s.cps.toList.filter (fun _ => true) = s.cps.toList from List.filter_eq_self.mpr fun _ _ => rfl] at hc
  have hn : (1 : Int) ≤ (s.length : Int) := by have := h.lo; omega
  have hx : (s.length : Int) ≤ 8 := by have := h.hi; omega
  have hall : (s.cps.toList.all fun c => decide (c ∈ abc.cps.toList)) = true := by
    rw [List.all_eq_true]
    intro c m
    simpa using h.ch c m
  unfold f_is_name fnOf b_is_name
  simp [nameD, constD, bin2, un1, pur2, pur1, consA, nilA, tupD, lstF, heldD, callD, one, seqS, ifS, retS, retNS, dropS, asgS, asgOS, parS, parT, andT, orT, notT, valT, blOf, andD, orD, notD, ifD, chainD, fldD, isiD, itA, itT, itS, itL, itEA, itET, itE, itR1, itR2, nextS, neverS, yesT, setD, setCons, setNil, setTup, appS, storeS, ownIx, ownUse, consRd, consRr, nilR, callS, fnCall, methS, mkCall, posA, kwA, consMd, consMf, nilM, newL, setAll, refsB, refsOf, nodupB, svsOf, putBack, ovOf, putOv, lstOf, backA, callFS, fnCallF, callLS, fnCallL, seqL, thenL, retL, ifL, nilL, nilN, seqN, doN, fldN, putFD, cmpF, addF, intF, lenF, tupleF, listF, max2F, min2F, int1F, asB, asI, asS, lrOf, seqOf, negF, kbTy, tyName, noO, someO, cutA, sl3, cutF, cutLF, keepsB, freeE, noEx, SV.isO, SV.isB, OV.toD, finD, yes2, h1, hn, hx]
  rw [hc]
  simp only [nameD, constD, bin2, un1, pur2, pur1, consA, nilA, tupD, lstF, heldD, callD, one, seqS, ifS, retS, retNS, dropS, asgS, asgOS, parS, parT, andT, orT, notT, valT, blOf, andD, orD, notD, ifD, chainD, fldD, isiD, itA, itT, itS, itL, itEA, itET, itE, itR1, itR2, nextS, neverS, yesT, setD, setCons, setNil, setTup, appS, storeS, ownIx, ownUse, consRd, consRr, nilR, callS, fnCall, methS, mkCall, posA, kwA, consMd, consMf, nilM, newL, setAll, refsB, refsOf, nodupB, svsOf, putBack, ovOf, putOv, lstOf, backA, callFS, fnCallF, callLS, fnCallL, seqL, thenL, retL, ifL, nilL, nilN, seqN, doN, fldN, putFD, cmpF, addF, intF, lenF, tupleF, listF, max2F, min2F, int1F, asB, asI, asS, lrOf, seqOf, negF, kbTy, tyName, noO, someO, cutA, sl3, cutF, cutLF, keepsB, freeE, noEx, SV.isO, SV.isB, OV.toD, finD, yes2, bind_ok, allF_map, hall]
/-- bells of a web -/
structure Bl (l : List Str) : Prop where
  lo : 1 ≤ l.length
  hi : l.length ≤ 12
  nm : ∀ s ∈ l, Nm s
  ri : Ri ltS l
theorem Ri.step {α : Type} {lt : α → α → Bool} {l : List α} (h : Ri lt l) {i : Nat} {a b : α} (ha : l[i]? = some a) (hb : l[i + 1]? = some b) : lt a b = true := by
  have h1 := (List.getElem?_eq_some_iff.mp ha)
  have h2 := (List.getElem?_eq_some_iff.mp hb)
  obtain ⟨h1, rfl⟩ := h1
  obtain ⟨h2, rfl⟩ := h2
  exact List.pairwise_iff_getElem.mp h i (i + 1) h1 h2 (by omega)
theorem check_bells_ok {l : List Str} (h : Bl l) : f_check_bells [.dat (.tup (l.map .str))] = .ok .non [.dat (.tup (l.map .str))] := by
  have hn : (1 : Int) ≤ (l.length : Int) := by have := h.lo; omega
  have hx : (l.length : Int) ≤ 12 := by have := h.hi; omega
  refine Wp.out (fn_wp ?_)
  unfold b_check_bells
  refine wp_seq (wp_eq (a := .nx) (e := [.dat (.tup (l.map .str)), .un, .un]) ?_ ?_)
  · simp [nameD, constD, bin2, un1, pur2, pur1, consA, nilA, tupD, lstF, heldD, callD, one, seqS, ifS, retS, retNS, dropS, asgS, asgOS, parS, parT, andT, orT, notT, valT, blOf, andD, orD, notD, ifD, chainD, fldD, isiD, itA, itT, itS, itL, itEA, itET, itE, itR1, itR2, nextS, neverS, yesT, setD, setCons, setNil, setTup, appS, storeS, ownIx, ownUse, consRd, consRr, nilR, callS, fnCall, methS, mkCall, posA, kwA, consMd, consMf, nilM, newL, setAll, refsB, refsOf, nodupB, svsOf, putBack, ovOf, putOv, lstOf, backA, callFS, fnCallF, callLS, fnCallL, seqL, thenL, retL, ifL, nilL, nilN, seqN, doN, fldN, putFD, cmpF, addF, intF, lenF, tupleF, listF, max2F, min2F, int1F, asB, asI, asS, lrOf, seqOf, negF, kbTy, tyName, noO, someO, cutA, sl3, cutF, cutLF, keepsB, freeE, noEx, SV.isO, SV.isB, OV.toD, finD, yes2, hn, hx]
  refine wp_seq (wp_for (fun _ e => ∃ s1 s2, e = [.dat (.tup (l.map .str)), s1, s2] ∧ s1.isO = false ∧ s2.isO = false) (enL (l.map .str)) _ rfl ⟨_, _, rfl, rfl, rfl⟩ ?_ ?_)
  · rintro i d e hd ⟨s1, s2, rfl, h1, h2⟩
    obtain ⟨x, hx, rfl⟩ := enL_at hd
    rw [List.getElem?_map] at hx
    cases hs : l[i]? with
    | none => rw [hs] at hx; cases hx
    | some s =>
      rw [hs] at hx; cases hx
      have ns := is_name_ok (h.nm s (List.mem_of_getElem? hs))
      refine ⟨[.dat (.tup (l.map .str)), .dat (.int i), .dat (.str s)], ?_, ?_, ?_⟩
      · cases s1 <;> cases s2 <;> first | rfl | (exact Bool.noConfusion h1) | (exact Bool.noConfusion h2)
      · cases s1 <;> cases s2 <;> first | rfl | (exact Bool.noConfusion h1) | (exact Bool.noConfusion h2)
      · refine wp_seq (wp_eq (a := .nx) (e := [.dat (.tup (l.map .str)), .dat (.int i), .dat (.str s)]) ?_ (wp_nx.mpr ⟨rfl, _, _, rfl, rfl, rfl⟩))
        simp [nameD, constD, bin2, un1, pur2, pur1, consA, nilA, tupD, lstF, heldD, callD, one, seqS, ifS, retS, retNS, dropS, asgS, asgOS, parS, parT, andT, orT, notT, valT, blOf, andD, orD, notD, ifD, chainD, fldD, isiD, itA, itT, itS, itL, itEA, itET, itE, itR1, itR2, nextS, neverS, yesT, setD, setCons, setNil, setTup, appS, storeS, ownIx, ownUse, consRd, consRr, nilR, callS, fnCall, methS, mkCall, posA, kwA, consMd, consMf, nilM, newL, setAll, refsB, refsOf, nodupB, svsOf, putBack, ovOf, putOv, lstOf, backA, callFS, fnCallF, callLS, fnCallL, seqL, thenL, retL, ifL, nilL, nilN, seqN, doN, fldN, putFD, cmpF, addF, intF, lenF, tupleF, listF, max2F, min2F, int1F, asB, asI, asS, lrOf, seqOf, negF, kbTy, tyName, noO, someO, cutA, sl3, cutF, cutLF, keepsB, freeE, noEx, SV.isO, SV.isB, OV.toD, finD, yes2, ns]
        cases i with
        | zero => simp [nameD, constD, bin2, un1, pur2, pur1, consA, nilA, tupD, lstF, heldD, callD, one, seqS, ifS, retS, retNS, dropS, asgS, asgOS, parS, parT, andT, orT, notT, valT, blOf, andD, orD, notD, ifD, chainD, fldD, isiD, itA, itT, itS, itL, itEA, itET, itE, itR1, itR2, nextS, neverS, yesT, setD, setCons, setNil, setTup, appS, storeS, ownIx, ownUse, consRd, consRr, nilR, callS, fnCall, methS, mkCall, posA, kwA, consMd, consMf, nilM, newL, setAll, refsB, refsOf, nodupB, svsOf, putBack, ovOf, putOv, lstOf, backA, callFS, fnCallF, callLS, fnCallL, seqL, thenL, retL, ifL, nilL, nilN, seqN, doN, fldN, putFD, cmpF, addF, intF, lenF, tupleF, listF, max2F, min2F, int1F, asB, asI, asS, lrOf, seqOf, negF, kbTy, tyName, noO, someO, cutA, sl3, cutF, cutLF, keepsB, freeE, noEx, SV.isO, SV.isB, OV.toD, finD, yes2]
        | succ i =>
          have hi : i < l.length := by have := (List.getElem?_eq_some_iff.mp hs).1; omega
          have hp : l[i]? = some l[i] := by simp [hi]
          have hlt := Ri.step h.ri hp hs
          have hix : ixF (.tup (l.map .str)) (.int (((i : Nat) : Int))) = some (.str l[i]) := ix_tup (by rw [List.getElem?_map, hp]; rfl)
          have hpos : (0 : Int) < ((i : Nat) : Int) + 1 := by omega
          simp [nameD, constD, bin2, un1, pur2, pur1, consA, nilA, tupD, lstF, heldD, callD, one, seqS, ifS, retS, retNS, dropS, asgS, asgOS, parS, parT, andT, orT, notT, valT, blOf, andD, orD, notD, ifD, chainD, fldD, isiD, itA, itT, itS, itL, itEA, itET, itE, itR1, itR2, nextS, neverS, yesT, setD, setCons, setNil, setTup, appS, storeS, ownIx, ownUse, consRd, consRr, nilR, callS, fnCall, methS, mkCall, posA, kwA, consMd, consMf, nilM, newL, setAll, refsB, refsOf, nodupB, svsOf, putBack, ovOf, putOv, lstOf, backA, callFS, fnCallF, callLS, fnCallL, seqL, thenL, retL, ifL, nilL, nilN, seqN, doN, fldN, putFD, cmpF, addF, intF, lenF, tupleF, listF, max2F, min2F, int1F, asB, asI, asS, lrOf, seqOf, negF, kbTy, tyName, noO, someO, cutA, sl3, cutF, cutLF, keepsB, freeE, noEx, SV.isO, SV.isB, OV.toD, finD, yes2, hpos, hix, leA_str, hlt]
  · rintro e' ⟨s1, s2, rfl, h1, h2⟩
    exact wp_nx.mpr ⟨rfl, rfl⟩
theorem Nm.ok {s : Str} (h : Nm s) : SOk s := by
  have key : ∀ c ∈ abc.cps.toList, c < 0x110000 := by decide +kernel
  show PyData.strOk s = true
  unfold PyData.strOk
  rw [← Array.all_toList, List.all_eq_true]
  intro c m
  simpa using key c (h.ch c m)
theorem Bl.sok {l : List Str} (h : Bl l) : ∀ s ∈ l, SOk s := fun s m => (h.nm s m).ok
/-- wakes of a web -/
structure Wk (l : List Str) (w : List (Str × Str)) : Prop where
  mem : ∀ p ∈ w, p.1 ∈ l ∧ p.2 ∈ l
  ri : Ri ltP w
  len : w.length ≤ 144
theorem is_wake_ok {l : List Str} {p : Str × Str} (h : Bl l) (h1 : p.1 ∈ l) (h2 : p.2 ∈ l) : f_is_wake [.dat (dP p), .dat (.tup (l.map .str))] = .ok (.bl true) [.dat (dP p), .dat (.tup (l.map .str))] := by
  have n1 := is_name_ok (h.nm _ h1)
  have n2 := is_name_ok (h.nm _ h2)
  have hc : compF [2] (itA (nameD 0)) (setD 2) yesT (andD (callS (fnCall f_is_name) (posA []) (consRd (nameD 2) nilR) nilR) (bin2 (pur2 (inF false)) (nameD 2) (nameD 1))) [.dat (dP p), .dat (.tup (l.map .str)), .un] = .ok (([p.1, p.2].filter fun _ => true).map fun s => .bl (decide (s ∈ l))) [.dat (dP p), .dat (.tup (l.map .str)), .un] := by
    refine compF_map (f := D.str) rfl rfl (show 2 ≤ sizeLine by decide) rfl fun s m => ⟨[.dat (dP p), .dat (.tup (l.map .str)), .dat (.str s)], rfl, rfl, rfl, rfl, fun _ => ?_⟩
    have ns : f_is_name [.dat (.str s)] = .ok (.bl true) [.dat (.str s)] := by
      simp at m
      rcases m with rfl | rfl
      · exact n1
      · exact n2
    simp [nameD, constD, bin2, un1, pur2, pur1, consA, nilA, tupD, lstF, heldD, callD, one, seqS, ifS, retS, retNS, dropS, asgS, asgOS, parS, parT, andT, orT, notT, valT, blOf, andD, orD, notD, ifD, chainD, fldD, isiD, itA, itT, itS, itL, itEA, itET, itE, itR1, itR2, nextS, neverS, yesT, setD, setCons, setNil, setTup, appS, storeS, ownIx, ownUse, consRd, consRr, nilR, callS, fnCall, methS, mkCall, posA, kwA, consMd, consMf, nilM, newL, setAll, refsB, refsOf, nodupB, svsOf, putBack, ovOf, putOv, lstOf, backA, callFS, fnCallF, callLS, fnCallL, seqL, thenL, retL, ifL, nilL, nilN, seqN, doN, fldN, putFD, cmpF, addF, intF, lenF, tupleF, listF, max2F, min2F, int1F, asB, asI, asS, lrOf, seqOf, negF, kbTy, tyName, noO, someO, cutA, sl3, cutF, cutLF, keepsB, freeE, noEx, SV.isO, SV.isB, OV.toD, finD, yes2, ns, inF_tS, tst]
  have hall : ([p.1, p.2].all fun s => decide (s ∈ l)) = true := by simp [h1, h2]
  refine Wp.out (fn_wp ?_)
  unfold b_is_wake
  refine wp_seq (wp_eq (a := .nx) (e := [.dat (dP p), .dat (.tup (l.map .str)), .un]) ?_ ?_)
  · simp [nameD, constD, bin2, un1, pur2, pur1, consA, nilA, tupD, lstF, heldD, callD, one, seqS, ifS, retS, retNS, dropS, asgS, asgOS, parS, parT, andT, orT, notT, valT, blOf, andD, orD, notD, ifD, chainD, fldD, isiD, itA, itT, itS, itL, itEA, itET, itE, itR1, itR2, nextS, neverS, yesT, setD, setCons, setNil, setTup, appS, storeS, ownIx, ownUse, consRd, consRr, nilR, callS, fnCall, methS, mkCall, posA, kwA, consMd, consMf, nilM, newL, setAll, refsB, refsOf, nodupB, svsOf, putBack, ovOf, putOv, lstOf, backA, callFS, fnCallF, callLS, fnCallL, seqL, thenL, retL, ifL, nilL, nilN, seqN, doN, fldN, putFD, cmpF, addF, intF, lenF, tupleF, listF, max2F, min2F, int1F, asB, asI, asS, lrOf, seqOf, negF, kbTy, tyName, noO, someO, cutA, sl3, cutF, cutLF, keepsB, freeE, noEx, SV.isO, SV.isB, OV.toD, finD, yes2, dP, eqF_int, tst]
  refine wp_seq (wp_eq (a := .rt (.bl true)) (e := [.dat (dP p), .dat (.tup (l.map .str)), .un]) ?_ ⟨rfl, rfl⟩)
  have hc' := hc
  rw [show [p.1, p.2].filter (fun _ => true) = [p.1, p.2] from rfl] at hc'
  simp only [nameD, constD, bin2, un1, pur2, pur1, consA, nilA, tupD, lstF, heldD, callD, one, seqS, ifS, retS, retNS, dropS, asgS, asgOS, parS, parT, andT, orT, notT, valT, blOf, andD, orD, notD, ifD, chainD, fldD, isiD, itA, itT, itS, itL, itEA, itET, itE, itR1, itR2, nextS, neverS, yesT, setD, setCons, setNil, setTup, appS, storeS, ownIx, ownUse, consRd, consRr, nilR, callS, fnCall, methS, mkCall, posA, kwA, consMd, consMf, nilM, newL, setAll, refsB, refsOf, nodupB, svsOf, putBack, ovOf, putOv, lstOf, backA, callFS, fnCallF, callLS, fnCallL, seqL, thenL, retL, ifL, nilL, nilN, seqN, doN, fldN, putFD, cmpF, addF, intF, lenF, tupleF, listF, max2F, min2F, int1F, asB, asI, asS, lrOf, seqOf, negF, kbTy, tyName, noO, someO, cutA, sl3, cutF, cutLF, keepsB, freeE, noEx, SV.isO, SV.isB, OV.toD, finD, yes2, bind_ok]
  rw [hc']
  simp only [nameD, constD, bin2, un1, pur2, pur1, consA, nilA, tupD, lstF, heldD, callD, one, seqS, ifS, retS, retNS, dropS, asgS, asgOS, parS, parT, andT, orT, notT, valT, blOf, andD, orD, notD, ifD, chainD, fldD, isiD, itA, itT, itS, itL, itEA, itET, itE, itR1, itR2, nextS, neverS, yesT, setD, setCons, setNil, setTup, appS, storeS, ownIx, ownUse, consRd, consRr, nilR, callS, fnCall, methS, mkCall, posA, kwA, consMd, consMf, nilM, newL, setAll, refsB, refsOf, nodupB, svsOf, putBack, ovOf, putOv, lstOf, backA, callFS, fnCallF, callLS, fnCallL, seqL, thenL, retL, ifL, nilL, nilN, seqN, doN, fldN, putFD, cmpF, addF, intF, lenF, tupleF, listF, max2F, min2F, int1F, asB, asI, asS, lrOf, seqOf, negF, kbTy, tyName, noO, someO, cutA, sl3, cutF, cutLF, keepsB, freeE, noEx, SV.isO, SV.isB, OV.toD, finD, yes2, bind_ok, allF_map, hall]
theorem check_wakes_ok {l : List Str} {w : List (Str × Str)} (h : Bl l) (hw : Wk l w) : f_check_wakes [.dat (.tup (w.map dP)), .dat (.tup (l.map .str))] = .ok .non [.dat (.tup (w.map dP)), .dat (.tup (l.map .str))] := by
  refine Wp.out (fn_wp ?_)
  unfold b_check_wakes
  refine wp_seq (wp_eq (a := .nx) (e := [.dat (.tup (w.map dP)), .dat (.tup (l.map .str)), .un, .un]) ?_ ?_)
  · simp [nameD, constD, bin2, un1, pur2, pur1, consA, nilA, tupD, lstF, heldD, callD, one, seqS, ifS, retS, retNS, dropS, asgS, asgOS, parS, parT, andT, orT, notT, valT, blOf, andD, orD, notD, ifD, chainD, fldD, isiD, itA, itT, itS, itL, itEA, itET, itE, itR1, itR2, nextS, neverS, yesT, setD, setCons, setNil, setTup, appS, storeS, ownIx, ownUse, consRd, consRr, nilR, callS, fnCall, methS, mkCall, posA, kwA, consMd, consMf, nilM, newL, setAll, refsB, refsOf, nodupB, svsOf, putBack, ovOf, putOv, lstOf, backA, callFS, fnCallF, callLS, fnCallL, seqL, thenL, retL, ifL, nilL, nilN, seqN, doN, fldN, putFD, cmpF, addF, intF, lenF, tupleF, listF, max2F, min2F, int1F, asB, asI, asS, lrOf, seqOf, negF, kbTy, tyName, noO, someO, cutA, sl3, cutF, cutLF, keepsB, freeE, noEx, SV.isO, SV.isB, OV.toD, finD, yes2]
  refine wp_seq (wp_for (fun _ e => ∃ s1 s2, e = [.dat (.tup (w.map dP)), .dat (.tup (l.map .str)), s1, s2] ∧ s1.isO = false ∧ s2.isO = false) (enL (w.map dP)) _ rfl ⟨_, _, rfl, rfl, rfl⟩ ?_ ?_)
  · rintro i d e hd ⟨s1, s2, rfl, h1, h2⟩
    obtain ⟨x, hx, rfl⟩ := enL_at hd
    rw [List.getElem?_map] at hx
    cases hs : w[i]? with
    | none => rw [hs] at hx; cases hx
    | some s =>
      rw [hs] at hx; cases hx
      obtain ⟨m1, m2⟩ := hw.mem s (List.mem_of_getElem? hs)
      have ns := is_wake_ok h m1 m2
      refine ⟨[.dat (.tup (w.map dP)), .dat (.tup (l.map .str)), .dat (.int i), .dat (dP s)], ?_, ?_, ?_⟩
      · cases s1 <;> cases s2 <;> first | rfl | (exact Bool.noConfusion h1) | (exact Bool.noConfusion h2)
      · cases s1 <;> cases s2 <;> first | rfl | (exact Bool.noConfusion h1) | (exact Bool.noConfusion h2)
      · refine wp_seq (wp_eq (a := .nx) (e := [.dat (.tup (w.map dP)), .dat (.tup (l.map .str)), .dat (.int i), .dat (dP s)]) ?_ (wp_nx.mpr ⟨rfl, _, _, rfl, rfl, rfl⟩))
        simp [nameD, constD, bin2, un1, pur2, pur1, consA, nilA, tupD, lstF, heldD, callD, one, seqS, ifS, retS, retNS, dropS, asgS, asgOS, parS, parT, andT, orT, notT, valT, blOf, andD, orD, notD, ifD, chainD, fldD, isiD, itA, itT, itS, itL, itEA, itET, itE, itR1, itR2, nextS, neverS, yesT, setD, setCons, setNil, setTup, appS, storeS, ownIx, ownUse, consRd, consRr, nilR, callS, fnCall, methS, mkCall, posA, kwA, consMd, consMf, nilM, newL, setAll, refsB, refsOf, nodupB, svsOf, putBack, ovOf, putOv, lstOf, backA, callFS, fnCallF, callLS, fnCallL, seqL, thenL, retL, ifL, nilL, nilN, seqN, doN, fldN, putFD, cmpF, addF, intF, lenF, tupleF, listF, max2F, min2F, int1F, asB, asI, asS, lrOf, seqOf, negF, kbTy, tyName, noO, someO, cutA, sl3, cutF, cutLF, keepsB, freeE, noEx, SV.isO, SV.isB, OV.toD, finD, yes2, ns]
        cases i with
        | zero => simp [nameD, constD, bin2, un1, pur2, pur1, consA, nilA, tupD, lstF, heldD, callD, one, seqS, ifS, retS, retNS, dropS, asgS, asgOS, parS, parT, andT, orT, notT, valT, blOf, andD, orD, notD, ifD, chainD, fldD, isiD, itA, itT, itS, itL, itEA, itET, itE, itR1, itR2, nextS, neverS, yesT, setD, setCons, setNil, setTup, appS, storeS, ownIx, ownUse, consRd, consRr, nilR, callS, fnCall, methS, mkCall, posA, kwA, consMd, consMf, nilM, newL, setAll, refsB, refsOf, nodupB, svsOf, putBack, ovOf, putOv, lstOf, backA, callFS, fnCallF, callLS, fnCallL, seqL, thenL, retL, ifL, nilL, nilN, seqN, doN, fldN, putFD, cmpF, addF, intF, lenF, tupleF, listF, max2F, min2F, int1F, asB, asI, asS, lrOf, seqOf, negF, kbTy, tyName, noO, someO, cutA, sl3, cutF, cutLF, keepsB, freeE, noEx, SV.isO, SV.isB, OV.toD, finD, yes2]
        | succ i =>
          have hi : i < w.length := by have := (List.getElem?_eq_some_iff.mp hs).1; omega
          have hp : w[i]? = some w[i] := by simp [hi]
          have hlt := Ri.step hw.ri hp hs
          have hix : ixF (.tup (w.map dP)) (.int (((i : Nat) : Int))) = some (dP w[i]) := ix_tup (by rw [List.getElem?_map, hp]; rfl)
          have hpos : (0 : Int) < ((i : Nat) : Int) + 1 := by omega
          simp [nameD, constD, bin2, un1, pur2, pur1, consA, nilA, tupD, lstF, heldD, callD, one, seqS, ifS, retS, retNS, dropS, asgS, asgOS, parS, parT, andT, orT, notT, valT, blOf, andD, orD, notD, ifD, chainD, fldD, isiD, itA, itT, itS, itL, itEA, itET, itE, itR1, itR2, nextS, neverS, yesT, setD, setCons, setNil, setTup, appS, storeS, ownIx, ownUse, consRd, consRr, nilR, callS, fnCall, methS, mkCall, posA, kwA, consMd, consMf, nilM, newL, setAll, refsB, refsOf, nodupB, svsOf, putBack, ovOf, putOv, lstOf, backA, callFS, fnCallF, callLS, fnCallL, seqL, thenL, retL, ifL, nilL, nilN, seqN, doN, fldN, putFD, cmpF, addF, intF, lenF, tupleF, listF, max2F, min2F, int1F, asB, asI, asS, lrOf, seqOf, negF, kbTy, tyName, noO, someO, cutA, sl3, cutF, cutLF, keepsB, freeE, noEx, SV.isO, SV.isB, OV.toD, finD, yes2, hpos, hix, leA_dP, hlt]
  · rintro e' ⟨s1, s2, rfl, h1, h2⟩
    exact wp_nx.mpr ⟨rfl, rfl⟩
noncomputable def webD (l : List Str) (w : List (Str × Str)) : D := .obj ("Web" : Str) [("bells" : Str), ("wakes" : Str)] [.tup (l.map .str), .tup (w.map dP)]
theorem init_ok {l : List Str} {w : List (Str × Str)} (h : Bl l) (hw : Wk l w) : f_Web_init [.dat (.tup (l.map .str)), .dat (.tup (w.map dP))] = .ok [(("bells" : Str), .tup (l.map .str)), (("wakes" : Str), .tup (w.map dP))] [.dat (.tup (l.map .str)), .dat (.tup (w.map dP))] := by
  have ne : ¬ ("bells" : Str) = ("wakes" : Str) := by decide +kernel
  unfold f_Web_init fnN b_Web_init
  simp [nameD, constD, bin2, un1, pur2, pur1, consA, nilA, tupD, lstF, heldD, callD, one, seqS, ifS, retS, retNS, dropS, asgS, asgOS, parS, parT, andT, orT, notT, valT, blOf, andD, orD, notD, ifD, chainD, fldD, isiD, itA, itT, itS, itL, itEA, itET, itE, itR1, itR2, nextS, neverS, yesT, setD, setCons, setNil, setTup, appS, storeS, ownIx, ownUse, consRd, consRr, nilR, callS, fnCall, methS, mkCall, posA, kwA, consMd, consMf, nilM, newL, setAll, refsB, refsOf, nodupB, svsOf, putBack, ovOf, putOv, lstOf, backA, callFS, fnCallF, callLS, fnCallL, seqL, thenL, retL, ifL, nilL, nilN, seqN, doN, fldN, putFD, cmpF, addF, intF, lenF, tupleF, listF, max2F, min2F, int1F, asB, asI, asS, lrOf, seqOf, negF, kbTy, tyName, noO, someO, cutA, sl3, cutF, cutLF, keepsB, freeE, noEx, SV.isO, SV.isB, OV.toD, finD, yes2, check_bells_ok h, check_wakes_ok h hw, ne]
theorem fld_bells (l : List Str) (w : List (Str × Str)) : fldF ("Web" : Str) ("bells" : Str) (webD l w) = some (.tup (l.map .str)) := by rfl
theorem fld_wakes (l : List Str) (w : List (Str × Str)) : fldF ("Web" : Str) ("wakes" : Str) (webD l w) = some (.tup (w.map dP)) := by rfl
theorem wakers_ok {l : List Str} {w : List (Str × Str)} {a : Str} (h : Bl l) (hw : Wk l w) (ha : a ∈ l) : f_Web_wakers [.dat (webD l w), .dat (.str a)] = .ok (.tup (((w.filter fun p => decide (p.2 = a)).map (·.1)).map .str)) [.dat (webD l w), .dat (.str a)] := by
  have hz : w.length ≤ sizeLine := Nat.le_trans hw.len (by decide)
  have hb : f_check_bell [.dat (webD l w), .dat (.str a)] = .ok .non [.dat (webD l w), .dat (.str a)] := by
    refine Wp.out (fn_wp ?_)
    unfold b_check_bell
    refine wp_seq (wp_eq (a := .nx) (e := [.dat (webD l w), .dat (.str a)]) ?_ (wp_nx.mpr ⟨rfl, rfl⟩))
    simp [nameD, constD, bin2, un1, pur2, pur1, consA, nilA, tupD, lstF, heldD, callD, one, seqS, ifS, retS, retNS, dropS, asgS, asgOS, parS, parT, andT, orT, notT, valT, blOf, andD, orD, notD, ifD, chainD, fldD, isiD, itA, itT, itS, itL, itEA, itET, itE, itR1, itR2, nextS, neverS, yesT, setD, setCons, setNil, setTup, appS, storeS, ownIx, ownUse, consRd, consRr, nilR, callS, fnCall, methS, mkCall, posA, kwA, consMd, consMf, nilM, newL, setAll, refsB, refsOf, nodupB, svsOf, putBack, ovOf, putOv, lstOf, backA, callFS, fnCallF, callLS, fnCallL, seqL, thenL, retL, ifL, nilL, nilN, seqN, doN, fldN, putFD, cmpF, addF, intF, lenF, tupleF, listF, max2F, min2F, int1F, asB, asI, asS, lrOf, seqOf, negF, kbTy, tyName, noO, someO, cutA, sl3, cutF, cutLF, keepsB, freeE, noEx, SV.isO, SV.isB, OV.toD, finD, yes2, fld_bells, inF_tS, tst, ha]
  have hc : compF [2, 3] (itA (fldD ("Web" : Str) ("wakes" : Str) (nameD 0))) (setTup 2 (setCons (setD 2) (setCons (setD 3) setNil))) (valT (bin2 (pur2 (eqF false)) (nameD 3) (nameD 1))) (nameD 2) [.dat (webD l w), .dat (.str a), .un, .un] = .ok ((w.filter fun p => decide (p.2 = a)).map fun p => .str p.1) [.dat (webD l w), .dat (.str a), .un, .un] := by
    refine compF_map (f := dP) (by simp [nameD, constD, bin2, un1, pur2, pur1, consA, nilA, tupD, lstF, heldD, callD, one, seqS, ifS, retS, retNS, dropS, asgS, asgOS, parS, parT, andT, orT, notT, valT, blOf, andD, orD, notD, ifD, chainD, fldD, isiD, itA, itT, itS, itL, itEA, itET, itE, itR1, itR2, nextS, neverS, yesT, setD, setCons, setNil, setTup, appS, storeS, ownIx, ownUse, consRd, consRr, nilR, callS, fnCall, methS, mkCall, posA, kwA, consMd, consMf, nilM, newL, setAll, refsB, refsOf, nodupB, svsOf, putBack, ovOf, putOv, lstOf, backA, callFS, fnCallF, callLS, fnCallL, seqL, thenL, retL, ifL, nilL, nilN, seqN, doN, fldN, putFD, cmpF, addF, intF, lenF, tupleF, listF, max2F, min2F, int1F, asB, asI, asS, lrOf, seqOf, negF, kbTy, tyName, noO, someO, cutA, sl3, cutF, cutLF, keepsB, freeE, noEx, SV.isO, SV.isB, OV.toD, finD, yes2, fld_wakes]) rfl hz rfl fun p m => ⟨[.dat (webD l w), .dat (.str a), .dat (.str p.1), .dat (.str p.2)], rfl, rfl, rfl, ?_, fun _ => rfl⟩
    have e1 := eqF_str false (h.sok _ (hw.mem p m).2) (h.sok _ ha)
    simp [nameD, constD, bin2, un1, pur2, pur1, consA, nilA, tupD, lstF, heldD, callD, one, seqS, ifS, retS, retNS, dropS, asgS, asgOS, parS, parT, andT, orT, notT, valT, blOf, andD, orD, notD, ifD, chainD, fldD, isiD, itA, itT, itS, itL, itEA, itET, itE, itR1, itR2, nextS, neverS, yesT, setD, setCons, setNil, setTup, appS, storeS, ownIx, ownUse, consRd, consRr, nilR, callS, fnCall, methS, mkCall, posA, kwA, consMd, consMf, nilM, newL, setAll, refsB, refsOf, nodupB, svsOf, putBack, ovOf, putOv, lstOf, backA, callFS, fnCallF, callLS, fnCallL, seqL, thenL, retL, ifL, nilL, nilN, seqN, doN, fldN, putFD, cmpF, addF, intF, lenF, tupleF, listF, max2F, min2F, int1F, asB, asI, asS, lrOf, seqOf, negF, kbTy, tyName, noO, someO, cutA, sl3, cutF, cutLF, keepsB, freeE, noEx, SV.isO, SV.isB, OV.toD, finD, yes2, e1, tst]
  refine Wp.out (fn_wp ?_)
  unfold b_Web_wakers
  refine wp_seq (wp_eq (a := .nx) (e := [.dat (webD l w), .dat (.str a), .un, .un]) ?_ ?_)
  · simp [nameD, constD, bin2, un1, pur2, pur1, consA, nilA, tupD, lstF, heldD, callD, one, seqS, ifS, retS, retNS, dropS, asgS, asgOS, parS, parT, andT, orT, notT, valT, blOf, andD, orD, notD, ifD, chainD, fldD, isiD, itA, itT, itS, itL, itEA, itET, itE, itR1, itR2, nextS, neverS, yesT, setD, setCons, setNil, setTup, appS, storeS, ownIx, ownUse, consRd, consRr, nilR, callS, fnCall, methS, mkCall, posA, kwA, consMd, consMf, nilM, newL, setAll, refsB, refsOf, nodupB, svsOf, putBack, ovOf, putOv, lstOf, backA, callFS, fnCallF, callLS, fnCallL, seqL, thenL, retL, ifL, nilL, nilN, seqN, doN, fldN, putFD, cmpF, addF, intF, lenF, tupleF, listF, max2F, min2F, int1F, asB, asI, asS, lrOf, seqOf, negF, kbTy, tyName, noO, someO, cutA, sl3, cutF, cutLF, keepsB, freeE, noEx, SV.isO, SV.isB, OV.toD, finD, yes2, hb]
  refine wp_seq (wp_eq (a := .rt (.tup (((w.filter fun p => decide (p.2 = a)).map (·.1)).map .str))) (e := [.dat (webD l w), .dat (.str a), .un, .un]) ?_ ⟨rfl, rfl⟩)
  simp only [nameD, constD, bin2, un1, pur2, pur1, consA, nilA, tupD, lstF, heldD, callD, one, seqS, ifS, retS, retNS, dropS, asgS, asgOS, parS, parT, andT, orT, notT, valT, blOf, andD, orD, notD, ifD, chainD, fldD, isiD, itA, itT, itS, itL, itEA, itET, itE, itR1, itR2, nextS, neverS, yesT, setD, setCons, setNil, setTup, appS, storeS, ownIx, ownUse, consRd, consRr, nilR, callS, fnCall, methS, mkCall, posA, kwA, consMd, consMf, nilM, newL, setAll, refsB, refsOf, nodupB, svsOf, putBack, ovOf, putOv, lstOf, backA, callFS, fnCallF, callLS, fnCallL, seqL, thenL, retL, ifL, nilL, nilN, seqN, doN, fldN, putFD, cmpF, addF, intF, lenF, tupleF, listF, max2F, min2F, int1F, asB, asI, asS, lrOf, seqOf, negF, kbTy, tyName, noO, someO, cutA, sl3, cutF, cutLF, keepsB, freeE, noEx, SV.isO, SV.isB, OV.toD, finD, yes2, bind_ok]
  rw [hc]
  simp [nameD, constD, bin2, un1, pur2, pur1, consA, nilA, tupD, lstF, heldD, callD, one, seqS, ifS, retS, retNS, dropS, asgS, asgOS, parS, parT, andT, orT, notT, valT, blOf, andD, orD, notD, ifD, chainD, fldD, isiD, itA, itT, itS, itL, itEA, itET, itE, itR1, itR2, nextS, neverS, yesT, setD, setCons, setNil, setTup, appS, storeS, ownIx, ownUse, consRd, consRr, nilR, callS, fnCall, methS, mkCall, posA, kwA, consMd, consMf, nilM, newL, setAll, refsB, refsOf, nodupB, svsOf, putBack, ovOf, putOv, lstOf, backA, callFS, fnCallF, callLS, fnCallL, seqL, thenL, retL, ifL, nilL, nilN, seqN, doN, fldN, putFD, cmpF, addF, intF, lenF, tupleF, listF, max2F, min2F, int1F, asB, asI, asS, lrOf, seqOf, negF, kbTy, tyName, noO, someO, cutA, sl3, cutF, cutLF, keepsB, freeE, noEx, SV.isO, SV.isB, OV.toD, finD, yes2]
noncomputable def wok (w : List (Str × Str)) (a : Str) : List Str := (w.filter fun p => decide (p.1 = a)).map (·.2)
noncomputable def wak (w : List (Str × Str)) (a : Str) : List Str := (w.filter fun p => decide (p.2 = a)).map (·.1)
theorem mem_wak {w : List (Str × Str)} {a x : Str} : x ∈ wak w a ↔ (x, a) ∈ w := by
  unfold wak
  simp only [List.mem_map, List.mem_filter, decide_eq_true_eq]
  constructor
  · rintro ⟨⟨p, q⟩, ⟨m, e⟩, e2⟩
    dsimp only at e e2
    rw [← e, ← e2]; exact m
  · intro m; exact ⟨(x, a), ⟨m, rfl⟩, rfl⟩
theorem ri_wok {w : List (Str × Str)} (h : Ri ltP w) (a : Str) : Ri ltS (wok w a) := by
  unfold wok Ri
  rw [List.pairwise_map]
  have h1 : (w.filter fun p => decide (p.1 = a)).Pairwise fun p q => ltP p q = true := h.filter _
  refine List.Pairwise.imp_of_mem ?_ h1
  intro p q mp mq k
  have e1 := (List.mem_filter.mp mp).2
  have e2 := (List.mem_filter.mp mq).2
  simp only [decide_eq_true_eq] at e1 e2
  simp only [ltP, e1, e2, ltS_irr, Bool.false_or, decide_true, Bool.true_and] at k
  exact k
theorem ri_wak {w : List (Str × Str)} (h : Ri ltP w) (a : Str) : Ri ltS (wak w a) := by
  unfold wak Ri
  rw [List.pairwise_map]
  have h1 : (w.filter fun p => decide (p.2 = a)).Pairwise fun p q => ltP p q = true := h.filter _
  refine List.Pairwise.imp_of_mem ?_ h1
  intro p q mp mq k
  have e1 := (List.mem_filter.mp mp).2
  have e2 := (List.mem_filter.mp mq).2
  simp only [decide_eq_true_eq] at e1 e2
  simp only [ltP, e1, e2, ltS_irr, Bool.and_false, Bool.or_false] at k
  exact k
end DL.K04
namespace DL.K04
open PySem L2
section
variable {m : Str} {fn : List SV → Out D} {ro rx ra rb : Env → Out D} {e : Env} {l l' : List Str} {w w' : List (Str × Str)} {d x : D} {s : List SV}
theorem meth1 (hm : ([("bells" : Str), ("wakes" : Str)].contains m) = false) (h : ro e = .ok (webD l w) e) (hx : rx e = .ok x e) (hf : fn [.dat (webD l w), .dat x] = .ok d s) : methS ("Web" : Str) m fn [] ro (consRd rx nilR) e = .ok d e := by
  unfold methS
  rw [h]
  unfold webD at hf
  simp only [bind_ok, webD, hm, and_self, if_true, consRd, hx, nilR, refsB, refsOf, List.all_nil, List.map_nil, List.append_nil, fnCall, nodupB, svsOf, hf, List.cons_append, List.nil_append]
  rcases s with _ | ⟨s1, _ | ⟨s2, s3⟩⟩ <;> rfl
end
theorem c_wakers : ([("bells" : Str), ("wakes" : Str)].contains ("wakers" : Str)) = false := by decide +kernel
end DL.K04
namespace DL.K04
open PySem L2
theorem log2_64 {n : Nat} (h : n < 2 ^ 64) : n.log2 < 64 := by
  by_cases h0 : n = 0
  · subst h0; decide
  · exact (Nat.log2_lt h0).mpr h
theorem log2_100 {n : Nat} (h : n < 2 ^ 100) : n.log2 < 100 := by
  by_cases h0 : n = 0
  · subst h0; decide
  · exact (Nat.log2_lt h0).mpr h
theorem mul_int {i j : Int} (h1 : i.natAbs < 2 ^ 64) (h2 : j.natAbs < 2 ^ 64) : mulA (.int i) (.int j) = some (.int (i * j)) := by
  have a := log2_64 h1
  have b := log2_64 h2
  have c : i.natAbs.log2 + j.natAbs.log2 < 1000000 := by omega
  simp [mulA, intF, c]
theorem mod_int {i j : Int} (h : 0 < j) : modF (.int i) (.int j) = some (.int (i % j)) := by simp [intF, h]
theorem fdiv_int {i j : Int} (h : 0 < j) (h2 : j.natAbs < 2 ^ 100) : fdivF (.int i) (.int j) = some (.int (i / j)) := by
  have := log2_100 h2
  have c : j.natAbs.log2 < 9000 := by omega
  simp [intF, h, c]
/-- a purse -/
structure PO (p : Int × Int) : Prop where
  a : 0 ≤ p.1
  b : 0 ≤ p.2
  b2 : p.2 < 2147483648
noncomputable def pd (p : Int × Int) : OV := .L [.int p.1, .int p.2]
theorem ix0 : ixN 2 0 = some 0 := rfl
end DL.K04
namespace DL.K04
open PySem L2
noncomputable def menuL : List Str := [("pull" : Str), ("put" : Str), ("strike" : Str), ("wake" : Str), ("unwake" : Str), ("back" : Str), ("web" : Str), ("pulls" : Str), ("heard" : Str), ("live" : Str), ("rung" : Str), ("can" : Str), ("most" : Str), ("end" : Str), ("round" : Str), ("paper" : Str), ("none" : Str), ("a" : Str), ("b" : Str), ("ab" : Str)]
/-- sorted names from distinct ones -/
theorem bl_srt {l : List Str} (hn : l.Nodup) (h : ∀ s ∈ l, Nm s) (lo : 1 ≤ l.length) (hi : l.length ≤ 12) : Bl (srt ltS l) :=
  ⟨by rw [srt_len]; exact lo, by rw [srt_len]; exact hi, fun s m => h s (srt_mem.mp m), srt_ri ordS hn⟩
theorem nodup_range {α : Type} {f : Nat → α} {n : Nat} (h : ∀ i j, i < n → j < n → f i = f j → i = j) : ((List.range n).map f).Nodup := by
  rw [List.nodup_iff_pairwise_ne, List.pairwise_map]
  refine List.Pairwise.imp_of_mem ?_ List.pairwise_lt_range
  intro a b ma mb lt e
  have := h a b (List.mem_range.mp ma) (List.mem_range.mp mb) e
  omega
noncomputable def pick (f k : Nat) : Str := menuL.getD ((f + 3 * k) % 20) abc
theorem abc_len : abc.cps.toList.length = 26 := by decide +kernel
theorem abc_nd : abc.cps.toList.Nodup := by decide +kernel
theorem abc_at {k : Nat} (h : k < 26) : ∃ c, abc.cps.toList[k]? = some c ∧ ixF (.str abc) (.int (k : Int)) = some (.str ⟨#[c]⟩) := by
  have hl : k < abc.cps.toList.length := by rw [abc_len]; exact h
  refine ⟨abc.cps.toList[k], by rw [List.getElem?_eq_getElem hl], ?_⟩
  show (if abc.length ≤ sizeLine then (atI abc.cps.toList (k : Int)).map fun k => D.str ⟨#[k]⟩ else none) = _
  rw [if_pos (by decide +kernel), atI_nat (List.getElem?_eq_getElem hl)]
  rfl
theorem join_cps : ∀ ys : List Str, (Txt.join ⟨#[]⟩ ys).cps.toList = ys.flatMap fun y => y.cps.toList := fun ys => by
  have e : Txt.join ⟨#[]⟩ ys = Str.join ⟨#[]⟩ ys := by simpa using PyProof.Rows.join_plain_closes ⟨#[]⟩ ys
  rw [e]
  induction ys with
  | nil => rfl
  | cons y ys ih =>
    cases ys with
    | nil => simp [Str.join]
    | cons z zs =>
      show ((y ++ (⟨#[]⟩ : Str)) ++ Str.join ⟨#[]⟩ (z :: zs)).cps.toList = _
      show ((y.cps ++ #[]) ++ (Str.join ⟨#[]⟩ (z :: zs)).cps).toList = _
      rw [Array.toList_append, ih (by simpa using PyProof.Rows.join_plain_closes ⟨#[]⟩ (z :: zs))]
      simp
end DL.K04
namespace DL.K04
open PySem L2
section
variable {e e1 e2 e3 : Env} {ra rb : Env → Out D} {x y d : D}
end
theorem r1_ok {ra : Env → Out D} {e e1 : Env} {n : Nat} (h : ra e = .ok (.int (n : Int)) e1) (hn : n < 4611686018427387904) : itR1 (consA ra nilA) e = .ok ((List.range n).map fun (k : Nat) => .int (k : Int)) e1 := by
  unfold itR1
  rw [consA1 h, bind_ok]
  have o : okR (n : Int) = true := by unfold okR; simp; omega
  simp only [o, if_true, rgL, Int.toNat_natCast, Int.zero_add]
theorem all_ex {α β : Type} {g : α → β} {A : α → Prop} : ∀ {ys : List β}, (∀ (i : Nat) y, ys[i]? = some y → ∃ c, A c ∧ y = g c) → ∃ cs : List α, ys = cs.map g ∧ ∀ c ∈ cs, A c
  | [], _ => ⟨[], rfl, fun c m => by simp at m⟩
  | y :: ys, h => by
    obtain ⟨c, h1, rfl⟩ := h 0 y rfl
    obtain ⟨cs, h2, h3⟩ := all_ex (ys := ys) fun i y q => h (i + 1) y (by simpa using q)
    refine ⟨c :: cs, by rw [h2]; rfl, fun d m => ?_⟩
    rcases List.mem_cons.mp m with rfl | m
    · exact h1
    · exact h3 d m
theorem asS_map : ∀ l : List Str, asS (l.map .str) = some l
  | [] => rfl
  | s :: l => by simp [asS, asS_map l]
theorem empty_eq : ("" : Str) = ⟨#[]⟩ := by decide +kernel
theorem sum_len1 : ∀ cs : List Nat, ((cs.map fun c => (⟨#[c]⟩ : Str)).map (·.length)).sum = cs.length
  | [] => rfl
  | c :: cs => by
    simp only [List.map_cons, List.sum_cons, sum_len1 cs, List.length_cons]
    show 1 + _ = _
    omega
theorem join_ok {cs : List Nat} {rf : Env → Out (List D)} {e e1 : Env} (h : rf e = .ok (cs.map fun c => .str ⟨#[c]⟩) e1) (hl : cs.length ≤ 100) : ∃ s : Str, s.cps.toList = cs ∧ joinD (constD (.str ("" : Str))) (heldD rf) e = .ok (.str s) e1 := by
  refine ⟨Txt.join ⟨#[]⟩ (cs.map fun c => ⟨#[c]⟩), ?_, ?_⟩
  · rw [join_cps, List.flatMap_map]
    simp
  · unfold joinD
    rw [cn1, bind_ok]
    dsimp only
    rw [held_ok h, bind_ok]
    unfold pur1 joinF
    have e2 : (cs.map fun c => D.str ⟨#[c]⟩) = (cs.map fun c => (⟨#[c]⟩ : Str)).map D.str := by simp
    have e3 : (seqOf (.lst (cs.map fun c => D.str ⟨#[c]⟩))).bind asS = some (cs.map fun c => (⟨#[c]⟩ : Str)) := by
      rw [e2]
      exact asS_map _
    have e4 : ((cs.map fun c => (⟨#[c]⟩ : Str)).map (·.length)).sum = cs.length := by
      exact sum_len1 cs
    have e5 : (("" : Str)).length = 0 := by decide +kernel
    rw [e3]
    simp only [Option.bind_some, e4, e5, Nat.mul_zero, Nat.add_zero]
    rw [if_pos (by omega), empty_eq]
end DL.K04
namespace DL.K04
open PySem L2
/-- a slot that owns nothing -/
noncomputable def fr : Option D → SV
  | none => .un
  | some d => .dat d
section
variable {e e1 : Env} {i j : Nat} {o o1 o2 : Option D} {a b d x y : D} {rx ry : Env → Out D} {fn : List SV → Out D} {ov ov' : OV} {s : List SV}
theorem setD_fr (h : e[i]? = some (fr o)) : setD i d e = some (e.set i (.dat d)) := by
  unfold setD
  rw [h]
  cases o <;> rfl
theorem tg2 (hij : j ≠ i) (h1 : e[i]? = some (fr o1)) (h2 : e[j]? = some (fr o2)) : setTup 2 (setCons (setD i) (setCons (setD j) setNil)) (.tu [a, b]) e = some ((e.set i (.dat a)).set j (.dat b)) := by
  have h3 : (e.set i (.dat a))[j]? = some (fr o2) := by rw [List.getElem?_set_ne (Ne.symm hij)]; exact h2
  show setCons (setD i) (setCons (setD j) setNil) [a, b] e = _
  show (setD i a e).bind (fun e1 => (setD j b e1).bind fun e2 => some e2) = _
  rw [setD_fr h1]
  show (setD j b _).bind (fun e2 => some e2) = _
  rw [setD_fr h3]
  rfl
theorem callRd (h0 : ∃ o, ovOf e[i]? = some o) (hx : rx e = .ok x e1) (h1 : e1[i]? = some (.bor ov)) (hf : fn [.bor ov, .dat x] = .ok d [.bor ov', .dat x]) : callS (fnCall fn) (posA []) (consRr i (consRd rx nilR)) nilR e = .ok d (e1.set i (.bor ov')) := by
  obtain ⟨o, h0⟩ := h0
  have h2 : ovOf (some (SV.bor ov)) = some ov := rfl
  simp [callS, consRr, consRd, h0, hx, h1, h2, nilR, posA, refsB, refsOf, fnCall, nodupB, svsOf, hf, putBack, putOv]
end
end DL.K04
namespace DL.K04
open PySem L2
structure LI (l : List Str) (i j : Nat) (acc : List (Str × Str)) : Prop where
  ri : Ri ltP acc
  len : acc.length ≤ i * l.length + j
  mem : ∀ p ∈ acc, ∃ a b, (a < i ∨ (a = i ∧ b < j)) ∧ l[a]? = some p.1 ∧ l[b]? = some p.2
theorem Ri.lt_of {l : List Str} (h : Ri ltS l) {i j : Nat} {a b : Str} (ha : l[i]? = some a) (hb : l[j]? = some b) (hij : i < j) : ltS a b = true := by
  obtain ⟨h1, rfl⟩ := List.getElem?_eq_some_iff.mp ha
  obtain ⟨h2, rfl⟩ := List.getElem?_eq_some_iff.mp hb
  exact List.pairwise_iff_getElem.mp h i j h1 h2 hij
theorem LI.skip {l : List Str} {i j : Nat} {acc : List (Str × Str)} (h : LI l i j acc) : LI l i (j + 1) acc := ⟨h.ri, by have := h.len; omega, fun p m => by
  obtain ⟨a, b, k, r⟩ := h.mem p m
  exact ⟨a, b, by omega, r⟩⟩
theorem LI.add {l : List Str} {i j : Nat} {acc : List (Str × Str)} (hl : Ri ltS l) (h : LI l i j acc) {x y : Str} (hx : l[i]? = some x) (hy : l[j]? = some y) : LI l i (j + 1) (acc ++ [(x, y)]) := by
  refine ⟨List.pairwise_append.mpr ⟨h.ri, List.pairwise_singleton _ _, fun p m q mq => ?_⟩, by have := h.len; simp; omega, fun p m => ?_⟩
  · simp at mq
    subst mq
    obtain ⟨a, b, k, r1, r2⟩ := h.mem p m
    rcases k with k | ⟨rfl, k⟩
    · have := Ri.lt_of hl r1 hx k
      simp [ltP, this]
    · have e : p.1 = x := by rw [hx] at r1; exact (Option.some.inj r1).symm
      have := Ri.lt_of hl r2 hy k
      simp [ltP, e, this]
  · rcases List.mem_append.mp m with m | m
    · obtain ⟨a, b, k, r⟩ := h.mem p m
      exact ⟨a, b, by omega, r⟩
    · simp at m
      subst m
      exact ⟨i, j, by omega, hx, hy⟩
theorem LI.turn {l : List Str} {i : Nat} {acc : List (Str × Str)} (h : LI l i l.length acc) : LI l (i + 1) 0 acc := ⟨h.ri, by have := h.len; rw [Nat.add_mul]; omega, fun p m => by
  obtain ⟨a, b, k, r⟩ := h.mem p m
  exact ⟨a, b, by omega, r⟩⟩
section
variable {e e1 e2 e3 : Env}
theorem app1 {i : Nat} {ra : Env → Out D} {d : D} {l : List D} (h0 : e[i]? = some (.own (.L l))) (h : ra e = .ok d e) (hz : l.length < sizeLine) : appS i ra e = .ok .nx (e.set i (.own (.L (l ++ [d])))) := by
  unfold appS
  rw [h0]
  simp only [lstOf, h, bind_ok, h0, hz, if_true, putOv]
end
end DL.K04
namespace DL
open PySem L2
section
variable {e e1 e2 e3 : Env} {ra rb rc : Env → Out D} {rA : Env → Out (List D)} {ta tb : Env → Out Bool} {b k : Bool} {x y z d : D} {i j : Nat}
theorem nmO {o : OV} (h : e[i]? = some (.own o)) : nameD i e = .ok o.toD (e.set i (.dat o.toD)) := by unfold nameD; rw [h]
theorem un1' {f : D → Option D} (h : ra e = .ok x e1) (h2 : f x = some d) : un1 (pur1 f) ra e = .ok d e1 := by unfold un1; rw [h, bind_ok]; unfold pur1; rw [h2]
theorem notD1 (h : ra e = .ok (.bl b) e1) (hb : D.bl (!b) = d := by rfl) : notD ra e = .ok d e1 := by unfold notD; rw [h, ← hb]; rfl
theorem chain2 {f g : D → D → Option D} (h1 : ra e = .ok x e1) (h2 : rb e1 = .ok y e2) (h3 : f x y = some (.bl true)) (h4 : rc e2 = .ok z e3) (h5 : g y z = some d) : chainD (pur2 f) (pur2 g) ra rb rc e = .ok d e3 := by
  unfold chainD
  rw [h1, bind_ok, h2, bind_ok]
  unfold pur2
  rw [h3]
  simp only [bind_ok]
  rw [h4, bind_ok, h5]
  rfl
theorem chain1 {f g : D → D → Option D} (h1 : ra e = .ok x e1) (h2 : rb e1 = .ok y e2) (h3 : f x y = some (.bl false)) : chainD (pur2 f) (pur2 g) ra rb rc e = .ok (.bl false) e2 := by
  unfold chainD
  rw [h1, bind_ok, h2, bind_ok]
  unfold pur2
  rw [h3]
  rfl
theorem seqS1 {r1 r2 : Env → Out Fl} {fl : Fl} (h : r1 e = .ok .nx e1) (h2 : r2 e1 = .ok fl e2) : seqS r1 r2 e = .ok fl e2 := by unfold seqS; rw [h, bind_ok]; exact h2
theorem seqSr {r1 r2 : Env → Out Fl} (h : r1 e = .ok (.rt d) e1) : seqS r1 r2 e = .ok (.rt d) e1 := by unfold seqS; rw [h, bind_ok]
theorem nx1 : nextS e = .ok .nx e := rfl
theorem fn1 {n tot : Nat} {rb : Env → Out Fl} {svs : List SV} (h : rb (svs ++ List.replicate (tot - n) .un) = .ok (.rt d) e) (hl : svs.length = n := by rfl) : fnOf n tot rb svs = .ok d (backA svs e) := by unfold fnOf; rw [if_pos hl, h]
theorem fn0 {n tot : Nat} {rb : Env → Out Fl} {svs : List SV} (h : rb (svs ++ List.replicate (tot - n) .un) = .ok .nx e) (hl : svs.length = n := by rfl) : fnOf n tot rb svs = .ok .non (backA svs e) := by unfold fnOf; rw [if_pos hl, h]
theorem callS1 {cf : List It → Env → Out D} {gD : List It → List It → List It} {rr rk : Env → Out (List It)} {its jts : List It} (h1 : rr e = .ok its e1) (h2 : rk e1 = .ok jts e2) (h3 : cf (gD its jts) e2 = .ok d e3) (hb : refsB its e2 = true := by rfl) : callS cf gD rr rk e = .ok d e3 := by
  unfold callS
  rw [h1, bind_ok, h2, bind_ok, if_pos hb]
  exact h3
theorem cRd {rr : Env → Out (List It)} {its : List It} (h1 : ra e = .ok x e1) (h2 : rr e1 = .ok its e2) : consRd ra rr e = .ok (.d x :: its) e2 := by
  unfold consRd
  rw [h1, bind_ok, h2]; rfl
theorem cRr {rr : Env → Out (List It)} {its : List It} {o o' : OV} (h1 : ovOf e[i]? = some o) (h2 : rr e = .ok its e1) (h3 : ovOf e1[i]? = some o') : consRr i rr e = .ok (.r i :: its) e1 := by
  unfold consRr
  rw [h1, h2]
  simp only [bind_ok, h3]
theorem nR : nilR e = .ok [] e := rfl
theorem nA : nilA e = .ok [] e := rfl
theorem fnC {fn : List SV → Out D} {its : List It} {svs : List SV} (h : fn (svsOf e its) = .ok d svs) (hn : nodupB (refsOf its) = true := by rfl) : fnCall fn its e = .ok d (putBack its svs e) := by
  unfold fnCall
  rw [if_pos hn, h]
theorem fnC2 {fn : List SV → Out D} {its : List It} {svs : List SV} (h : fn (svsOf e its) = .ok d svs) (hn : nodupB (refsOf its) = true) (he : putBack its svs e = e2) : fnCall fn its e = .ok d e2 := by
  rw [← he]
  exact fnC h hn
theorem methS1 {cn m : Str} {fn : List SV → Out D} {ds : List D} {rr : Env → Out (List It)} {its : List It} {ns : List Str} {l : List D} (h1 : ra e = .ok (.obj cn ns l) e1) (h2 : rr e1 = .ok its e2) (h3 : fnCall fn (.d (.obj cn ns l) :: (its ++ ds.map .d)) e2 = .ok d e3) (hm : ns.contains m = false := by decide +kernel) (hb : refsB its e2 = true := by rfl) : methS cn m fn ds ra rr e = .ok d e3 := by
  unfold methS
  rw [h1, bind_ok]
  dsimp only
  rw [if_pos ⟨rfl, hm⟩, h2, bind_ok, if_pos hb]
  exact h3
theorem methK1 {cn m : Str} {fn : List SV → Out D} {gD : List It → List It → List It} {rr rk : Env → Out (List It)} {its jts : List It} {ns : List Str} {l : List D} (h1 : ra e = .ok (.obj cn ns l) e1) (h2 : rr e1 = .ok its e2) (h4 : rk e2 = .ok jts e3) {e4 : Env} (h3 : fnCall fn (gD (.d (.obj cn ns l) :: its) jts) e3 = .ok d e4) (hm : ns.contains m = false := by decide +kernel) (hb : refsB its e3 = true := by rfl) : methK cn m fn gD ra rr rk e = .ok d e4 := by
  unfold methK
  rw [h1, bind_ok]
  dsimp only
  rw [if_pos ⟨rfl, hm⟩, h2, bind_ok, h4, bind_ok, if_pos hb]
  exact h3
theorem asgO1 {rf : Env → Out (List D)} {l : List D} {sv : SV} (h : rf e = .ok l e1) (h2 : e1[i]? = some sv) (h3 : sv.isB = false := by rfl) : asgOS i rf e = .ok .nx (e1.set i (.own (.L l))) := by
  unfold asgOS
  rw [h, bind_ok, h2]
  simp only [h3, Bool.false_eq_true, if_false]
theorem asgV1 {rn : Env → Out OV} {o : OV} {sv : SV} (h : rn e = .ok o e1) (h2 : e1[i]? = some sv) (h3 : sv.isB = false := by rfl) : asgOV i rn e = .ok .nx (e1.set i (.own o)) := by
  unfold asgOV
  rw [h, bind_ok, h2]
  simp only [h3, Bool.false_eq_true, if_false]
theorem app1 {l l0 : List D} (h0 : lstOf e[i]? = some l0) (h : ra e = .ok d e1) (h2 : lstOf e1[i]? = some l) (h3 : l.length < sizeLine) (h4 : putOv i (.L (l ++ [d])) e1 = some e2) : appS i ra e = .ok .nx e2 := by
  unfold appS
  rw [h0, h, bind_ok, h2]
  simp only [h3, if_true, h4]
theorem par1 {is : List Nat} {rm : Env → Out (List M)} {ms : List M} (h : rm e = .ok ms e1) (h2 : setAll is ms e1 = some e2) : parS is rm e = .ok .nx e2 := by
  unfold parS
  rw [h, bind_ok, h2]
theorem parT1 {is : List Nat} {rm : Env → Out (List M)} {ms : List M} (h : rm e = .ok ms e1) (hz : ms.length ≤ sizeLine) (h2 : setAll is ms e1 = some e2) : parT is rm e = .ok .nx e2 := by
  unfold parT
  rw [h, bind_ok, if_pos hz, h2]
theorem mD {rm : Env → Out (List M)} {ms : List M} (h : ra e = .ok d e1) (h2 : rm e1 = .ok ms e2) : consMd ra rm e = .ok (.d d :: ms) e2 := by
  unfold consMd
  rw [h, bind_ok, h2]; rfl
theorem mF {rn : Env → Out OV} {o : OV} {rm : Env → Out (List M)} {ms : List M} (h : rn e = .ok o e1) (h2 : rm e1 = .ok ms e2) : consMf rn rm e = .ok (.f o :: ms) e2 := by
  unfold consMf
  rw [h, bind_ok, h2]; rfl
theorem mN : nilM e = .ok [] e := rfl
theorem newL1 {rf : Env → Out (List D)} {l : List D} (h : rf e = .ok l e1) : newL rf e = .ok (.L l) e1 := by unfold newL; rw [h]; rfl
theorem heldO1 {rn : Env → Out OV} {o : OV} (h : rn e = .ok o e1) : heldO rn e = .ok o.toD e1 := by unfold heldO; rw [h]; rfl
theorem drop1 (h : ra e = .ok d e1) : dropS ra e = .ok .nx e1 := by unfold dropS; rw [h]; rfl
theorem listF1 {l : List D} (h : rA e = .ok [.lst l] e1) : listF rA e = .ok l e1 := by unfold listF; rw [h]; rfl
theorem listF2 {l : List D} (h : rA e = .ok [.tup l] e1) : listF rA e = .ok l e1 := by unfold listF; rw [h]; rfl
theorem cat1 {l m : List D} (h : ra e = .ok (.lst l) e1) (h2 : rb e1 = .ok (.lst m) e2) (hz : l.length + m.length ≤ sizeLine) : catF ra rb e = .ok (l ++ m) e2 := by
  unfold catF
  rw [h, bind_ok, h2, bind_ok]
  simp only [hz, if_true]
theorem ownIx1 {l l0 : List D} {n : Int} (h0 : lstOf e[i]? = some l0) (h : rb e = .ok (.int n) e1) (h2 : lstOf e1[i]? = some l) (h3 : atI l n = some d) : ownIx i rb e = .ok d e1 := by
  unfold ownIx ownUse
  rw [h0, h]
  simp only [bind_ok, h2, h3]
theorem cutS1 {rl rh : Env → Out (Option Int)} {lo hi : Option Int} {s : Str} (h : ra e = .ok (.str s) e1) (hl : rl e1 = .ok lo e2) (hh : rh e2 = .ok hi e3) (h2 : cutF (.str s) lo hi e3 = .ok d e3) : cutA ra rl rh e = .ok d e3 := by
  unfold cutA
  rw [h]
  show sl3 ra rl rh cutF e = _
  unfold sl3
  rw [h, bind_ok, hl, bind_ok, hh, bind_ok]
  exact h2
theorem nO : noO e = .ok none e := rfl
theorem sO {n : Int} (h : ra e = .ok (.int n) e1) : someO ra e = .ok (some n) e1 := by unfold someO; rw [h]; rfl
theorem cutT1 {rl rh : Env → Out (Option Int)} {lo hi : Option Int} {l : List D} (h : ra e = .ok (.tup l) e1) (hl : rl e1 = .ok lo e2) (hh : rh e2 = .ok hi e3) (h2 : cutF (.tup l) lo hi e3 = .ok d e3) : cutA ra rl rh e = .ok d e3 := by
  unfold cutA
  rw [h]
  show sl3 ra rl rh cutF e = _
  unfold sl3
  rw [h, bind_ok, hl, bind_ok, hh, bind_ok]
  exact h2
theorem cutL1 {rl rh : Env → Out (Option Int)} {lo hi : Option Int} {l l' : List D} (h : ra e = .ok (.lst l) e1) (hl : rl e1 = .ok lo e2) (hh : rh e2 = .ok hi e3) (h2 : cutLF (.lst l) lo hi e3 = .ok l' e3) : cutA ra rl rh e = .ok (.lst l') e3 := by
  unfold cutA
  rw [h]
  show heldD (sl3 ra rl rh cutLF) e = _
  unfold heldD sl3
  rw [h, bind_ok, hl, bind_ok, hh, bind_ok, h2]
  rfl
theorem itS1 {s : Str} (h : ra e = .ok (.str s) e1) : itA ra e = .ok (signs s) e1 := by unfold itA itS; rw [h]; rfl
theorem itEA1 {l : List D} (h : ra e = .ok (.lst l) e1) : itEA (consA ra nilA) e = .ok (enL l) e1 := by
  have := consA1 h
  unfold itEA itE; rw [this]; rfl
theorem itEA2 {l : List D} (h : ra e = .ok (.tup l) e1) : itEA (consA ra nilA) e = .ok (enL l) e1 := by
  have := consA1 h
  unfold itEA itET; rw [this]; rfl
theorem itZ1 {l m : List D} (h : rA e = .ok [.tup l, .tup m] e1) : itZA rA e = .ok (zipL l m) e1 := by unfold itZA; rw [h]; rfl
theorem itZ2 {l m : List D} (h : rA e = .ok [.lst l, .lst m] e1) : itZA rA e = .ok (zipL l m) e1 := by unfold itZA; rw [h]; rfl
end
section
variable {e e1 e2 e3 : Env} {ra rb rc : Env → Out D} {ta tb : Env → Out Bool} {b k : Bool} {d : D}
theorem or3 (h : ta e = .ok b e1) (h2 : (if b = true then .ok true e1 else tb e1) = .ok k e2) : orT ta tb e = .ok k e2 := by unfold orT; rw [h]; exact h2
theorem and3 (h : ta e = .ok b e1) (h2 : (if b = true then tb e1 else .ok false e1) = .ok k e2) : andT ta tb e = .ok k e2 := by unfold andT; rw [h]; exact h2
theorem andD3 (h : ra e = .ok (.bl b) e1) (h2 : (if b = true then rb e1 else .ok (.bl false) e1) = .ok d e2) : andD ra rb e = .ok d e2 := by
  cases b with
  | true => exact andD2 h h2
  | false => exact (andD1 h).trans h2
theorem orD3 (h : ra e = .ok (.bl b) e1) (h2 : (if b = true then .ok (.bl true) e1 else rb e1) = .ok d e2) : orD ra rb e = .ok d e2 := by
  cases b with
  | true => exact (orD1 h).trans h2
  | false => exact orD2 h h2
theorem ifD3 (h : ta e = .ok b e1) (h2 : (if b = true then ra e1 else rb e1) = .ok d e2) : ifD ta ra rb e = .ok d e2 := by unfold ifD; rw [h]; exact h2
theorem ifS3 {r1 r2 : Env → Out Fl} {fl : Fl} (h : ta e = .ok b e1) (h2 : (if b = true then r1 e1 else r2 e1) = .ok fl e2) : ifS ta r1 r2 e = .ok fl e2 := by unfold ifS; rw [h]; exact h2
end
end DL
namespace DL
open PySem L2
structure Sh (n k : Nat) (d : D) : Prop where
  pu : d.pure = true
  ca : d.toP.canLay0 = true
  de : d.toP.depth ≤ n
  is : d.toP.intsShort 13 = true
  sh : d.toP.showable = true
  we : d.toP.weight ≤ k
theorem log2_of {n k : Nat} (h : n < 2 ^ (k + 1)) : n.log2 ≤ k := by
  by_cases h0 : n = 0
  · subst h0; simp
  · exact Nat.lt_succ_iff.mp ((Nat.log2_lt h0).mpr h)
theorem sh_int {i : Int} (h : i.natAbs < 10 ^ 12) : Sh 0 41 (.int i) := by
  have hl : i.natAbs.log2 ≤ 39 := log2_of (Nat.lt_of_lt_of_le h (by decide))
  refine ⟨rfl, rfl, Nat.le_refl _, ?_, ?_, ?_⟩
  · show decide ((PyData.shown (.int i)).length ≤ 13) = true
    exact decide_eq_true (PyData.shown_int_le h)
  · show decide (i.natAbs.log2 < 1920) = true
    exact decide_eq_true (by omega)
  · show (if i == 0 then 0 else i.natAbs.log2 + 1) ≤ 41
    split <;> omega
theorem shL {n k : Nat} : ∀ {l : List D}, (∀ d ∈ l, Sh n k d) → pureL l = true ∧ PyData.canLayAll0 (toPL l) = true ∧ PyData.depthAll (toPL l) ≤ n ∧ PyData.intsShortAll 13 (toPL l) = true ∧ PyData.showableAll (toPL l) = true ∧ PyData.weightAll (toPL l) ≤ (k + 1) * l.length
  | [], _ => ⟨rfl, rfl, Nat.zero_le _, rfl, rfl, Nat.zero_le _⟩
  | d :: l, h => by
    obtain ⟨a1, a2, a3, a4, a5, a6⟩ := shL (l := l) fun x m => h x (List.mem_cons_of_mem _ m)
    have b := h d List.mem_cons_self
    refine ⟨by simp [pureL, b.pu, a1], by simp [toPL, PyData.canLayAll0, b.ca, a2], ?_, by simp [toPL, PyData.intsShortAll, b.is, a4], by simp [toPL, PyData.showableAll, b.sh, a5], ?_⟩
    · simp only [toPL, PyData.depthAll]
      exact Nat.max_le.mpr ⟨b.de, a3⟩
    · simp only [toPL, PyData.weightAll, List.length_cons]
      have := b.we
      rw [Nat.mul_succ]
      omega
theorem sh_lst {n k m : Nat} {l : List D} (h : ∀ d ∈ l, Sh n k d) (hm : l.length ≤ m) : Sh (n + 1) ((k + 1) * m) (.lst l) := by
  obtain ⟨a1, a2, a3, a4, a5, a6⟩ := shL h
  exact ⟨a1, a2, Nat.succ_le_succ a3, a4, a5, Nat.le_trans a6 (Nat.mul_le_mul_left _ hm)⟩
theorem repr_fits {n k : Nat} {d : D} (h : Sh n k d) (hn : n ≤ 60) (hk : k ≤ 1048576) : (d.pure && d.toP.showable && decide (d.toP.depth ≤ 60) && decide (d.toP.shown.length ≤ sizeLine)) = true := by
  have h1 := PyData.leavesShort_of_canLay0 13 _ h.ca h.is
  have h2 := PyData.shown_fits (by decide : 8 ≤ 13) (by decide) h1 (Nat.le_trans h.we (Nat.le_trans hk (by decide)))
  have h3 := Nat.le_trans h.de hn
  rw [h.pu, h.sh]
  simp [h2, h3]
theorem repr_l {n k : Nat} {l : List D} (h : Sh n k (.lst l)) (hn : n ≤ 60 := by decide) (hk : k ≤ 1048576 := by decide) : reprF (.lst l) = some (.str (D.lst l).toP.shown) := by
  have h1 : okRp (.lst l) = true := by unfold okRp; rw [repr_fits h hn hk]; rfl
  unfold reprF
  rw [if_pos h1]
end DL
namespace DL
open PySem L2
theorem compL_sti {σ : Type} {vs : List Nat} {rg : D → Env → Option Env} {rt : Env → Out Bool} {re : Env → Out D} (E : σ → Env) (I : Nat → σ → Prop) (R : Nat → D → Prop) : ∀ {ds : List D} {n : Nat} {s : σ}, I n s →
    (∀ i d s, ds[i]? = some d → I (n + i) s → ∃ e2, rg d (E s) = some e2 ∧ freeE e2 vs = true ∧ rt e2 = .ok true e2 ∧ Wp (re e2) fun y e4 => freeE e4 vs = true ∧ R (n + i) y ∧ ∃ s', I (n + i + 1) s' ∧ wipeE e4 vs = E s') →
    ∃ ys s', compL vs rg rt re ds (E s) = .ok ys (E s') ∧ I (n + ds.length) s' ∧ ys.length = ds.length ∧ ∀ (i : Nat) y, ys[i]? = some y → R (n + i) y
  | [], n, s, hI, _ => ⟨[], s, rfl, hI, rfl, fun i y h => by simp at h⟩
  | d :: ds, n, s, hI, h => by
    obtain ⟨e2, h1, h2, h3, y, e4, h4, h5, h6, s', h7, h8⟩ := h 0 d s rfl hI
    obtain ⟨ys, s2, k1, k2, k3, k4⟩ := compL_sti (re := re) (rt := rt) (rg := rg) (vs := vs) E I R (ds := ds) (n := n + 1) (s := s') h7 fun i d s q r => by
      have := h (i + 1) d s (by simpa using q) (by rwa [show n + (i + 1) = n + 1 + i by omega])
      rwa [show n + (i + 1) = n + 1 + i by omega] at this
    refine ⟨y :: ys, s2, ?_, by rw [List.length_cons, show n + (ds.length + 1) = n + 1 + ds.length by omega]; exact k2, by simp [k3], fun i z hz => ?_⟩
    · unfold compL
      rw [h1]
      simp only [h2, if_true, h3, noEx, bind_ok, h4, h5, h8, k1]
    · cases i with
      | zero => simp at hz; subst hz; exact h6
      | succ i =>
        have := k4 i z (by simpa using hz)
        rwa [show n + 1 + i = n + (i + 1) by omega] at this
theorem compF_sti {σ : Type} {vs : List Nat} {ri : Env → Out (List D)} {rg : D → Env → Option Env} {rt : Env → Out Bool} {re : Env → Out D} {env e1 : Env} (ds : List D) (s0 : σ) (E : σ → Env) (I : Nat → σ → Prop) (R : Nat → D → Prop) {Q : List D → Env → Prop} (hi : ri env = .ok ds e1) (fr : freeE e1 vs = true) (hl : ds.length ≤ sizeLine)
    (h0 : wipeE e1 vs = E s0) (hI : I 0 s0)
    (h : ∀ i d s, ds[i]? = some d → I i s → ∃ e2, rg d (E s) = some e2 ∧ freeE e2 vs = true ∧ rt e2 = .ok true e2 ∧ Wp (re e2) fun y e4 => freeE e4 vs = true ∧ R i y ∧ ∃ s', I (i + 1) s' ∧ wipeE e4 vs = E s')
    (hq : ∀ ys s', I ds.length s' → ys.length = ds.length → (∀ (i : Nat) y, ys[i]? = some y → R i y) → Q ys (backE e1 (E s') vs)) : Wp (compF vs ri rg rt re env) Q := by
  obtain ⟨ys, s', k1, k2, k3, k4⟩ := compL_sti (re := re) (rt := rt) (rg := rg) (vs := vs) E I R (ds := ds) (n := 0) (s := s0) hI fun i d s q r => by
    rw [Nat.zero_add] at r ⊢; exact h i d s q r
  rw [Nat.zero_add] at k2
  refine ⟨ys, _, ?_, hq ys s' k2 k3 fun i y hy => by have := k4 i y hy; rwa [Nat.zero_add] at this⟩
  unfold compF
  rw [hi]
  simp only [bind_ok, fr, hl, decide_true, Bool.and_true, if_true, h0, k1, noEx]
theorem seqLn {r1 : Env → Out Fl} {r2 : Env → Out (Option (List D))} {e e1 : Env} {r : Out (Option (List D))} (h : r1 e = .ok .nx e1) (h2 : r2 e1 = r) : seqL r1 r2 e = r := by unfold seqL; rw [h]; exact h2
theorem retLn {r : Env → Out (List D)} {r2 : Env → Out (Option (List D))} {e e1 : Env} {l : List D} (h : r e = .ok l e1) : thenL (retL r) r2 e = .ok (some l) e1 := by unfold thenL retL; rw [h]; rfl
theorem fnLn {n tot : Nat} {rb : Env → Out (Option (List D))} {svs : List SV} {e : Env} {l : List D} (hl : svs.length = n) (h : rb (svs ++ List.replicate (tot - n) .un) = .ok (some l) e) : fnOfL n tot rb svs = .ok l (backA svs e) := by unfold fnOfL; rw [if_pos hl, h]
theorem callLSn {fl : List SV → Out (List D)} {rr : Env → Out (List It)} {its : List It} {e e1 : Env} {l : List D} {svs : List SV} (h1 : rr e = .ok its e1) (h2 : fl (svsOf e1 its) = .ok l svs) (hn : nodupB (refsOf its) = true := by rfl) : callLS fl rr e = .ok l (putBack its svs e1) := by
  unfold callLS
  rw [h1, bind_ok]
  unfold fnCallL
  rw [if_pos hn, h2]
end DL
namespace DL
open PySem L2
section
variable {e e1 e2 e3 e4 : Env} {ra rb : Env → Out D} {d : D} {i j : Nat}
theorem store1 {l l0 : List D} {n : Int} {k : Nat} (h : ra e = .ok d e1) (h0 : lstOf e1[i]? = some l0) (h2 : rb e1 = .ok (.int n) e2) (h3 : lstOf e2[i]? = some l) (h4 : ixN l.length n = some k) (h5 : putOv i (.L (l.set k d)) e2 = some e3) : storeS i rb ra e = .ok .nx e3 := by
  unfold storeS
  rw [h, bind_ok, h0]
  dsimp only
  rw [h2, bind_ok, h3]
  dsimp only
  rw [h4]
  dsimp only
  rw [h5]
theorem split1 {u v : D} {l l0 : List D} {n : Int} {k : Nat} (h : ra e = .ok (.tu [u, v]) e1) (h0 : lstOf e1[i]? = some l0) (h2 : rb e1 = .ok (.int n) e2) (h3 : lstOf e2[i]? = some l) (h4 : ixN l.length n = some k) (h5 : putOv i (.L (l.set k u)) e2 = some e3) (h6 : setD j v e3 = some e4) (h7 : (keepsB e3 e4 && freeE e4 [j]) = true) : splitS i j ra rb e = .ok .nx e4 := by
  unfold splitS
  rw [h, bind_ok, h0]
  dsimp only
  rw [h2, bind_ok, h3]
  dsimp only
  rw [h4]
  dsimp only
  rw [h5]
  dsimp only
  rw [h6]
  dsimp only
  rw [if_pos h7]
end
end DL
namespace DL.K14
open PySem L2 K04
local macro_rules
  | `(tactic| walk_at "ev_leaf") => `(tactic| first | with_reducible assumption | rfl | assumption | decide)
local macro_rules
  | `(tactic| walk_at "ev_if") => `(tactic| first
    | ((refine (if_pos ?_).trans ?_); (rfl); (first | with_reducible rfl | walk_at "evc"))
    | ((refine (if_neg ?_).trans ?_); (decide); (first | with_reducible rfl | walk_at "evc"))
    | ((refine (if_pos ?_).trans ?_); (assumption); (first | with_reducible rfl | walk_at "evc"))
    | ((refine (if_neg ?_).trans ?_); (assumption); (first | with_reducible rfl | walk_at "evc")))
local macro_rules
  | `(tactic| walk_at "evc") => `(tactic| first
    | with_reducible assumption
    | with_reducible exact cn1
    | with_reducible exact nx1
    | with_reducible exact nR
    | with_reducible exact nA
    | with_reducible exact nO
    | with_reducible exact mN
    | ((with_reducible apply nm1); rfl)
    | ((with_reducible apply nmO); rfl)
    | ((with_reducible apply bin1); walk_at "evc"; walk_at "evc"; walk_at "ev_leaf")
    | ((with_reducible apply callo); walk_at "evc"; walk_at "ev_leaf")
    | ((with_reducible apply call1); walk_at "evc"; walk_at "ev_leaf")
    | ((with_reducible apply consA2); walk_at "evc"; walk_at "evc")
    | ((with_reducible apply tup1); walk_at "evc"; walk_at "ev_leaf")
    | ((with_reducible refine held_ok ?_); walk_at "evc")
    | ((with_reducible apply heldO1); walk_at "evc")
    | ((with_reducible apply lst1); walk_at "evc"; walk_at "ev_leaf")
    | ((with_reducible apply fld1); walk_at "evc"; walk_at "ev_leaf")
    | ((with_reducible apply un1'); walk_at "evc"; walk_at "ev_leaf")
    | ((with_reducible apply notD1); walk_at "evc"; rfl)
    | ((with_reducible apply andD3); walk_at "evc"; walk_at "ev_if")
    | ((with_reducible apply orD3); walk_at "evc"; walk_at "ev_if")
    | ((with_reducible apply ifD3); walk_at "evc"; walk_at "ev_if")
    | ((with_reducible apply chain2); walk_at "evc"; walk_at "evc"; walk_at "ev_leaf"; walk_at "evc"; walk_at "ev_leaf")
    | ((with_reducible apply chain1); walk_at "evc"; walk_at "evc"; walk_at "ev_leaf")
    | ((with_reducible apply val1); walk_at "evc")
    | ((with_reducible apply not1); walk_at "evc"; rfl)
    | ((with_reducible apply or3); walk_at "evc"; walk_at "ev_if")
    | ((with_reducible apply and3); walk_at "evc"; walk_at "ev_if")
    | ((with_reducible apply seqSr); (with_reducible apply ret1); walk_at "evc")
    | ((with_reducible apply ret1); walk_at "evc")
    | ((with_reducible apply seqS1); walk_at "evc"; walk_at "evc")
    | ((with_reducible apply seqSr); walk_at "evc")
    | ((with_reducible apply ifS3); walk_at "evc"; walk_at "ev_if")
    | ((with_reducible apply asg1); walk_at "evc"; walk_at "ev_leaf"; rfl)
    | ((with_reducible apply asgO1); walk_at "evc"; rfl; rfl)
    | ((with_reducible apply asgV1); walk_at "evc"; rfl; rfl)
    | ((with_reducible apply app1); rfl; walk_at "evc"; rfl; walk_at "ev_leaf"; rfl)
    | ((with_reducible apply par1); walk_at "evc"; rfl)
    | ((with_reducible apply parT1); walk_at "evc"; walk_at "ev_leaf"; rfl)
    | ((with_reducible apply mD); walk_at "evc"; walk_at "evc")
    | ((with_reducible apply mF); walk_at "evc"; walk_at "evc")
    | ((with_reducible apply newL1); walk_at "evc")
    | ((with_reducible apply drop1); walk_at "evc")
    | ((with_reducible apply listF1); walk_at "evc")
    | ((with_reducible apply listF2); walk_at "evc")
    | ((with_reducible apply cat1); walk_at "evc"; walk_at "evc"; walk_at "ev_leaf")
    | ((with_reducible apply ownIx1); rfl; walk_at "evc"; rfl; walk_at "ev_leaf")
    | ((with_reducible apply callS1); walk_at "evc"; walk_at "evc"; walk_at "evc"; rfl)
    | ((with_reducible apply cRd); walk_at "evc"; walk_at "evc")
    | ((with_reducible apply cRr); rfl; walk_at "evc"; rfl)
    | ((with_reducible apply fnC2); assumption; rfl; rfl)
    | ((with_reducible apply methS1); walk_at "evc"; walk_at "evc"; walk_at "evc"; (decide +kernel); rfl)
    | ((with_reducible apply methK1); walk_at "evc"; walk_at "evc"; walk_at "evc"; walk_at "evc"; (decide +kernel); rfl)
    | ((with_reducible apply cutS1); walk_at "evc"; walk_at "evc"; walk_at "evc"; walk_at "ev_leaf")
    | ((with_reducible apply cutT1); walk_at "evc"; walk_at "evc"; walk_at "evc"; walk_at "ev_leaf")
    | ((with_reducible apply cutL1); walk_at "evc"; walk_at "evc"; walk_at "evc"; walk_at "ev_leaf")
    | ((with_reducible apply sO); walk_at "evc")
    | ((with_reducible apply itT1); walk_at "evc")
    | ((with_reducible apply itL1); walk_at "evc")
    | ((with_reducible apply itS1); walk_at "evc")
    | ((with_reducible apply itEA1); walk_at "evc")
    | ((with_reducible apply itEA2); walk_at "evc")
    | ((with_reducible apply itZ1); walk_at "evc")
    | ((with_reducible apply itZ2); walk_at "evc")
    | assumption
    | rfl)
structure PO (K : Nat) (p : Int × Int × Int) : Prop where
  c : 0 ≤ p.2.2
  k : p.2.2 ≤ K
theorem PO.mono {K K' : Nat} {p : Int × Int × Int} (h : PO K p) (k : K ≤ K') : PO K' p := ⟨h.c, by have := h.k; omega⟩
noncomputable def pd (p : Int × Int × Int) : OV := .L [.int p.1, .int p.2.1, .int p.2.2]
theorem draw_ok {K : Nat} {p : Int × Int × Int} {u : Int} (hp : PO K p) (hK : K ≤ 1000000) (hu : 1 ≤ u) (hu2 : u < 1267650600228229401496703205376) : ∃ r p', PO (K + 1) p' ∧ 0 ≤ r ∧ r < u ∧ f_law_draw [.bor (pd p), .dat (.int u)] = .ok (.int r) [.bor (pd p'), .dat (.int u)] := by
  obtain ⟨d, s, n⟩ := p
  have hc := hp.c
  have hk := hp.k
  dsimp only at hc hk
  have hu0 : 0 < u := by omega
  have dv : divF [.int d, .int u] = some (.tu [.int (d / u), .int (d % u)]) := if_pos ⟨hu0, by have := log2_100 (n := u.natAbs) (by omega); omega⟩
  have po : ∀ d s, PO (K + 1) (d, s, n + 1) := fun d s => ⟨by dsimp only; omega, by dsimp only; omega⟩
  by_cases hd : 0 < d
  · have hb : decide (0 < d) = true := decide_eq_true hd
    refine ⟨d % u, (d / u, s, n + 1), po _ _, Int.emod_nonneg _ (by omega), Int.emod_lt_of_pos _ hu0, ?_⟩
    have h : b_law_draw [.bor (pd (d, s, n)), .dat (.int u), .un, .un] = .ok (.rt (.int (d % u))) [.bor (pd (d / u, s, n + 1)), .dat (.int u), .un, .dat (.int (d % u))] := by
      unfold b_law_draw
      refine seqS1 (e1 := [.bor (pd (d, s, n + 1)), .dat (.int u), .un, .un]) (store1 (i := 0) (by walk_at "evc") rfl cn1 rfl rfl rfl) ?_
      refine seqSr (ifSt (val1 (bin1 (ownIx1 rfl cn1 rfl rfl) cn1 (congrArg (fun b => some (D.bl b)) hb))) ?_)
      refine seqS1 (e1 := [.bor (pd (d / u, s, n + 1)), .dat (.int u), .un, .dat (.int (d % u))]) (split1 (i := 0) (j := 3) (call1 (consA2 (ownIx1 rfl cn1 rfl rfl) (consA2 (nm1 rfl) nA)) dv) rfl cn1 rfl rfl rfl rfl rfl) ?_
      exact seqSr (ret1 (nm1 rfl))
    exact fn1 (n := 2) (tot := 4) (svs := [.bor (pd (d, s, n)), .dat (.int u)]) h
  · have hb : decide (0 < d) = false := decide_eq_false hd
    let s1 : Int := s % 1000000123
    have hs1 : 0 ≤ s1 ∧ s1 < 1000000123 := ⟨Int.emod_nonneg _ (by decide), Int.emod_lt_of_pos _ (by decide)⟩
    have hs2 : 0 ≤ s1 % 48017 ∧ s1 % 48017 < 48017 := ⟨Int.emod_nonneg _ (by decide), Int.emod_lt_of_pos _ (by decide)⟩
    have m1 : mulA (.int s1) (.int (s1 % 48017 + 20011)) = some (.int (s1 * (s1 % 48017 + 20011))) := mul_int (by omega) (by omega)
    have m2 : mulA (.int 90001) (.int (n + 1)) = some (.int (90001 * (n + 1))) := mul_int (by decide) (by omega)
    let s2 : Int := s1 * (s1 % 48017 + 20011) + 90001 * (n + 1)
    refine ⟨s2 % 1000000123 / 16 % u, (d, s2, n + 1), po _ _, Int.emod_nonneg _ (by omega), Int.emod_lt_of_pos _ hu0, ?_⟩
    have h : b_law_draw [.bor (pd (d, s, n)), .dat (.int u), .un, .un] = .ok (.rt (.int (s2 % 1000000123 / 16 % u))) [.bor (pd (d, s2, n + 1)), .dat (.int u), .dat (.int s1), .un] := by
      unfold b_law_draw
      refine seqS1 (e1 := [.bor (pd (d, s, n + 1)), .dat (.int u), .un, .un]) (store1 (i := 0) (by walk_at "evc") rfl cn1 rfl rfl rfl) ?_
      refine seqS1 (e1 := [.bor (pd (d, s, n + 1)), .dat (.int u), .un, .un]) (ifSf (val1 (bin1 (ownIx1 rfl cn1 rfl rfl) cn1 (congrArg (fun b => some (D.bl b)) hb))) nx1) ?_
      refine seqS1 (e1 := [.bor (pd (d, s, n + 1)), .dat (.int u), .dat (.int s1), .un]) (asg1 (bin1 (ownIx1 rfl cn1 rfl rfl) cn1 (mod_int (by decide))) rfl rfl) ?_
      refine seqS1 (e1 := [.bor (pd (d, s2, n + 1)), .dat (.int u), .dat (.int s1), .un]) (store1 (i := 0) (bin1 (bin1 (nm1 rfl) (bin1 (bin1 (nm1 rfl) cn1 (mod_int (by decide))) cn1 rfl) m1) (bin1 cn1 (ownIx1 rfl cn1 rfl rfl) m2) rfl) rfl cn1 rfl rfl rfl) ?_
      exact seqSr (ret1 (bin1 (bin1 (bin1 (ownIx1 rfl cn1 rfl rfl) cn1 (mod_int (by decide))) cn1 (fdiv_int (by decide) (by decide))) (nm1 rfl) (mod_int hu0)))
    exact fn1 (n := 2) (tot := 4) (svs := [.bor (pd (d, s, n)), .dat (.int u)]) h
theorem callT {e : Env} {i : Nat} {K : Nat} {p : Int × Int × Int} {ru : Env → Out D} {u : Int} (h : e[i]? = some (.bor (pd p))) (hp : PO K p) (hK : K ≤ 1000000) (hr : ru e = .ok (.int u) e) (hu : 1 ≤ u) (hu2 : u < 1267650600228229401496703205376) :
    ∃ r p', PO (K + 1) p' ∧ 0 ≤ r ∧ r < u ∧ callS (fnCall f_law_draw) (posA []) (consRr i (consRd ru nilR)) nilR e = .ok (.int r) (e.set i (.bor (pd p'))) := by
  obtain ⟨r, p', h1, h2, h3, h4⟩ := draw_ok hp hK hu hu2
  exact ⟨r, p', h1, h2, h3, callRd ⟨pd p, by rw [h]; rfl⟩ hr h h4⟩
/-- .. a natural number -/
theorem callN {e : Env} {i : Nat} {K : Nat} {p : Int × Int × Int} {ru : Env → Out D} {u : Nat} (h : e[i]? = some (.bor (pd p))) (hp : PO K p) (hK : K ≤ 1000000) (hr : ru e = .ok (.int (u : Int)) e) (hu : 1 ≤ u) (hu2 : u < 1267650600228229401496703205376) :
    ∃ (r : Nat) (p' : Int × Int × Int), PO (K + 1) p' ∧ r < u ∧ callS (fnCall f_law_draw) (posA []) (consRr i (consRd ru nilR)) nilR e = .ok (.int (r : Int)) (e.set i (.bor (pd p'))) := by
  obtain ⟨r, p', h1, h2, h3, h4⟩ := callT h hp hK hr (u := (u : Int)) (by omega) (by omega)
  obtain ⟨r, rfl⟩ := Int.eq_ofNat_of_zero_le h2
  exact ⟨r, p', h1, by omega, h4⟩
theorem purse_ok (c : Int) : ∃ p, PO 0 p ∧ f_law_purse [.dat (.int c)] = .ok [.int p.1, .int p.2.1, .int p.2.2] [.dat (.int c)] := by
  have pw : powF (.int 10) (.int 18) = some (.int 1000000000000000000) := by
    have : (10 : Int) ^ (18 : Int).toNat = 1000000000000000000 := by decide +kernel
    simp [intF, this]
  have hm : 0 ≤ c % 1000000123 ∧ c % 1000000123 < 1000000123 := ⟨Int.emod_nonneg _ (by decide), Int.emod_lt_of_pos _ (by decide)⟩
  have m1 : mulA (.int (c % 1000000123)) (.int 7001) = some (.int (c % 1000000123 * 7001)) := mul_int (by omega) (by decide)
  have key : ∀ d : Int, ifD (orT (valT (bin2 (pur2 ltF) (nameD 0) (constD (.int 0)))) (valT (bin2 (pur2 geF) (nameD 0) (bin2 (pur2 powF) (constD (.int 10)) (constD (.int 18)))))) (callD (one absF) (consA (nameD 0) nilA)) (constD (.int 0)) [.dat (.int c), .un] = .ok (.int d) [.dat (.int c), .un] →
      f_law_purse [.dat (.int c)] = .ok [.int d, .int (c % 1000000123 * 7001 + 3007), .int 0] [.dat (.int c)] := fun d h => by
    have hb : b_law_purse [.dat (.int c), .un] = .ok (some [.int d, .int (c % 1000000123 * 7001 + 3007), .int 0]) [.dat (.int c), .dat (.int d)] :=
      seqLn (asg1 (e2 := [.dat (.int c), .dat (.int d)]) h rfl rfl) (retLn (lst1 (consA2 (nm1 rfl) (consA2 (bin1 (bin1 (bin1 (nm1 rfl) cn1 (mod_int (by decide))) cn1 m1) cn1 rfl) (consA2 cn1 nA))) (show 3 ≤ sizeLine by decide)))
    exact fnLn (n := 1) (tot := 2) (rb := b_law_purse) (svs := [.dat (.int c)]) rfl hb
  have t1 : valT (bin2 (pur2 ltF) (nameD 0) (constD (.int 0))) [.dat (.int c), .un] = .ok (decide (c < 0)) [.dat (.int c), .un] := val1 (bin1 (nm1 rfl) cn1 rfl)
  have t2 : valT (bin2 (pur2 geF) (nameD 0) (bin2 (pur2 powF) (constD (.int 10)) (constD (.int 18)))) [.dat (.int c), .un] = .ok (decide ((1000000000000000000 : Int) ≤ c)) [.dat (.int c), .un] := val1 (bin1 (nm1 rfl) (bin1 cn1 cn1 pw) rfl)
  by_cases h1 : c < 0
  · exact ⟨(-c, _, 0), ⟨Int.le_refl _, Int.le_refl _⟩, key _ (ifDt (or1 (t1.trans (by simp [h1]))) (callo (nm1 rfl) (by simp [absF, h1])))⟩
  · by_cases h2 : (1000000000000000000 : Int) ≤ c
    · exact ⟨(c, _, 0), ⟨Int.le_refl _, Int.le_refl _⟩, key _ (ifDt (or2 (t1.trans (by simp [h1])) (t2.trans (by simp [h2]))) (callo (nm1 rfl) (by simp [absF, h1])))⟩
    · exact ⟨(0, _, 0), ⟨Int.le_refl _, Int.le_refl _⟩, key _ (ifDf (or2 (t1.trans (by simp [h1])) (t2.trans (by simp [h2]))) cn1)⟩
theorem cell_ok {ns : List Int} {k : Nat} (hk : k < 100) (hl : ns.length ≤ 63) : ∃ c : Int, f_law_cell [.dat (.ro (ns.map .int)), .dat (.int (k : Int))] = .ok (.int c) [.dat (.ro (ns.map .int)), .dat (.int (k : Int))] := by
  have ln : lenF (.ro (ns.map .int)) = some (.int ns.length) := by
    show some (D.int ((ns.map D.int).length : Nat)) = _
    rw [List.length_map]
  suffices h : Wp (f_law_cell [.dat (.ro (ns.map .int)), .dat (.int (k : Int))]) fun d svs => ∃ c : Int, d = .int c ∧ svs = [.dat (.ro (ns.map .int)), .dat (.int (k : Int))] by
    obtain ⟨d, svs, e, c, rfl, rfl⟩ := h
    exact ⟨c, e⟩
  refine fn_wp ?_
  unfold b_law_cell
  by_cases hlt : k < ns.length
  · have hb : decide ((k : Int) < ns.length) = true := decide_eq_true (by omega)
    refine wp_seq (wp_eq (a := .rt (.int ns[k])) (e := [.dat (.ro (ns.map .int)), .dat (.int (k : Int)), .un, .un]) (ifSt (val1 (bin1 (nm1 rfl) (callo (nm1 rfl) ln) (congrArg (fun b => some (D.bl b)) hb))) (seqSr (ret1 (bin1 (nm1 rfl) (nm1 rfl) (ix_ro (d := .int ns[k]) (by rw [List.getElem?_map, List.getElem?_eq_getElem hlt]; rfl)))))) ⟨_, rfl, rfl⟩)
  · have hb : decide ((k : Int) < ns.length) = false := decide_eq_false (by omega)
    refine wp_seq (wp_eq (a := .nx) (e := [.dat (.ro (ns.map .int)), .dat (.int (k : Int)), .un, .un]) (ifSf (val1 (bin1 (nm1 rfl) (callo (nm1 rfl) ln) (congrArg (fun b => some (D.bl b)) hb))) nx1) ?_)
    have m1 : mulA (.int (k : Int)) (.int k) = some (.int (k * k)) := mul_int (by omega) (by omega)
    have m2 : mulA (.int 7) (.int (k : Int)) = some (.int (7 * k)) := mul_int (by decide) (by omega)
    have kk : (k : Int) * k ≤ 10000 := by
      have : k * k ≤ 100 * 100 := Nat.mul_le_mul (by omega) (by omega)
      have h2 : ((k * k : Nat) : Int) ≤ 10000 := by omega
      rwa [Int.natCast_mul] at h2
    have kp : 0 ≤ (k : Int) * k := Int.mul_nonneg (by omega) (by omega)
    have m3 : mulA (.int 80021) (.int ((k : Int) * k + 7 * k + 3)) = some (.int (80021 * ((k : Int) * k + 7 * k + 3))) := mul_int (by decide) (by omega)
    refine wp_seq (wp_eq (a := .nx) (e := [.dat (.ro (ns.map .int)), .dat (.int (k : Int)), .dat (.int (80021 * ((k : Int) * k + 7 * k + 3) % 1000000123)), .un]) (asg1 (bin1 (bin1 cn1 (bin1 (bin1 (bin1 (nm1 rfl) (nm1 rfl) m1) (bin1 cn1 (nm1 rfl) m2) rfl) cn1 rfl) m3) cn1 (mod_int (by decide))) rfl rfl) ?_)
    let ms : List Int := cutL ns none (some 3)
    have hm : cutL (ns.map D.int) none (some 3) = ms.map D.int := by
      show ((ns.map D.int).drop _).take _ = (((ns.drop _).take _)).map D.int
      rw [List.length_map, List.map_take, List.map_drop]
    have c1 : itA (cutA (nameD 0) noO (someO (constD (.int 3)))) [.dat (.ro (ns.map .int)), .dat (.int (k : Int)), .dat (.int (80021 * ((k : Int) * k + 7 * k + 3) % 1000000123)), .un] = .ok (ms.map .int) [.dat (.ro (ns.map .int)), .dat (.int (k : Int)), .dat (.int (80021 * ((k : Int) * k + 7 * k + 3) % 1000000123)), .un] := by
      refine itL1 ?_
      unfold cutA
      rw [nm1 (e := [.dat (.ro (ns.map .int)), .dat (.int (k : Int)), .dat (.int (80021 * ((k : Int) * k + 7 * k + 3) % 1000000123)), .un]) (i := 0) (d := .ro (ns.map .int)) rfl]
      show heldD (sl3 _ _ _ cutLF) _ = _
      unfold heldD sl3
      rw [nm1 (e := [.dat (.ro (ns.map .int)), .dat (.int (k : Int)), .dat (.int (80021 * ((k : Int) * k + 7 * k + 3) % 1000000123)), .un]) (i := 0) (d := .ro (ns.map .int)) rfl, bind_ok, nO, bind_ok, sO cn1, bind_ok]
      show Out.ok (D.lst (cutL (ns.map D.int) none (some 3))) _ = _
      rw [hm]
    refine wp_seq (wp_for (fun _ e => ∃ (s : Int) (o : Option D), 0 ≤ s ∧ s < 1000000123 ∧ e = [.dat (.ro (ns.map .int)), .dat (.int (k : Int)), .dat (.int s), fr o]) (ms.map .int) _ c1 ⟨_, none, Int.emod_nonneg _ (by decide), Int.emod_lt_of_pos _ (by decide), rfl⟩ ?_ ?_)
    · rintro i d e hd ⟨s, o, hs0, hs1, rfl⟩
      rw [List.getElem?_map] at hd
      obtain ⟨n, _, rfl⟩ := Option.map_eq_some_iff.mp hd
      refine ⟨[.dat (.ro (ns.map .int)), .dat (.int (k : Int)), .dat (.int s), .dat (.int n)], setD_fr (o := o) rfl, by cases o <;> rfl, ?_⟩
      have m4 : mulA (.int s) (.int 50021) = some (.int (s * 50021)) := mul_int (by omega) (by decide)
      refine wp_seq (wp_eq (a := .nx) (e := [.dat (.ro (ns.map .int)), .dat (.int (k : Int)), .dat (.int ((s * 50021 + n) % 1000000123)), .dat (.int n)]) (asg1 (bin1 (bin1 (bin1 (nm1 rfl) cn1 m4) (nm1 rfl) rfl) cn1 (mod_int (by decide))) rfl rfl) ?_)
      exact wp_nx.mpr ⟨rfl, _, some _, Int.emod_nonneg _ (by decide), Int.emod_lt_of_pos _ (by decide), rfl⟩
    · rintro e' ⟨s, o, _, _, rfl⟩
      exact wp_seq (wp_eq (ret1 (nm1 rfl)) ⟨s, rfl, rfl⟩)
end DL.K14
namespace DL.K14
open PySem L2 K04
noncomputable def wordsL : List Str := [("pull" : Str), ("put" : Str), ("strike" : Str), ("wake" : Str), ("unwake" : Str), ("back" : Str), ("web" : Str), ("heard" : Str), ("live" : Str), ("rung" : Str), ("can" : Str), ("most" : Str), ("end" : Str)]
theorem words_nd : wordsL.Nodup := by decide +kernel
theorem words_nm : ∀ s ∈ wordsL, Nm s := by
  have : ∀ s ∈ wordsL, 1 ≤ s.length ∧ s.length ≤ 8 ∧ ∀ c ∈ s.cps.toList, c ∈ abc.cps.toList := by decide +kernel
  exact fun s m => ⟨(this s m).1, (this s m).2.1, (this s m).2.2⟩
theorem words_len : wordsL.length = 13 := rfl
noncomputable def pickW (t s k : Nat) : Str := wordsL.getD ((t + s * k) % 13) abc
theorem pickW_at (t s k : Nat) : wordsL[(t + s * k) % 13]? = some (pickW t s k) := by
  have : (t + s * k) % 13 < wordsL.length := by rw [words_len]; omega
  unfold pickW
  rw [List.getD_eq_getElem?_getD, List.getElem?_eq_getElem this]
  rfl
theorem pickW_inj (t s n : Nat) (hs : s = 1 ∨ s = 5 ∨ s = 7 ∨ s = 11) (hn : n ≤ 12) : ∀ i j, i < n → j < n → pickW t s i = pickW t s j → i = j := fun i j hi hj e => by
  have a := pickW_at t s i
  have b := pickW_at t s j
  rw [e] at a
  have li : (t + s * i) % 13 < wordsL.length := by rw [words_len]; omega
  have := (List.getElem?_inj li words_nd).mp (a.trans b.symm)
  rcases hs with rfl | rfl | rfl | rfl <;> omega
/-- a stem with a letter put in -/
theorem stemG {s : Str} {at_ c : Nat} (hc : c ∈ abc.cps.toList) (hs : ∀ c ∈ s.cps.toList, c ∈ abc.cps.toList) (hl : s.length ≤ 7) (ha : at_ ≤ s.length) : ∃ z1 z2 z : Str, Nm z ∧ z.cps.toList[at_]? = some c ∧
    (∀ e : Env, cutF (.str s) none (some (at_ : Int)) e = .ok (.str z1) e) ∧ (∀ e : Env, cutF (.str s) (some (at_ : Int)) none e = .ok (.str z2) e) ∧ addF (.str z1) (.str ⟨#[c]⟩) = some (.str (z1 ++ ⟨#[c]⟩)) ∧ addF (.str (z1 ++ ⟨#[c]⟩)) (.str z2) = some (.str z) := by
  have hlen : s.cps.toList.length = s.length := Array.length_toList
  let z1 := cutS s none (some (at_ : Int))
  let z2 := cutS s (some (at_ : Int)) none
  have c1 : z1.cps.toList = s.cps.toList.take at_ := by
    show (((s.cps.toList.drop (HT.sIx s.length 0 none)).take (HT.sIx s.length s.length (some (at_ : Int)) - HT.sIx s.length 0 none)).toArray).toList = _
    rw [HT.sIx_none, HT.sIx_nat]
    simp [Nat.min_eq_left ha]
  have c2 : z2.cps.toList = s.cps.toList.drop at_ := by
    show (((s.cps.toList.drop (HT.sIx s.length 0 (some (at_ : Int)))).take (HT.sIx s.length s.length none - HT.sIx s.length 0 (some (at_ : Int)))).toArray).toList = _
    rw [HT.sIx_none, HT.sIx_nat, Nat.min_eq_left ha]
    rw [List.take_of_length_le (by rw [List.length_drop, hlen]; exact Nat.le_refl _)]
  have l1 : z1.length = at_ := by
    show z1.cps.size = _
    rw [← Array.length_toList, c1, List.length_take, hlen]; omega
  have l2 : z2.length = s.length - at_ := by
    show z2.cps.size = _
    rw [← Array.length_toList, c2, List.length_drop, hlen]
  have hz : ((z1 ++ (⟨#[c]⟩ : Str)) ++ z2).cps.toList = s.cps.toList.take at_ ++ [c] ++ s.cps.toList.drop at_ := by
    show ((z1.cps ++ #[c]) ++ z2.cps).toList = _
    rw [Array.toList_append, Array.toList_append, c1, c2]
  have lz : ((z1 ++ (⟨#[c]⟩ : Str)) ++ z2).length = s.length + 1 := by
    show ((z1 ++ (⟨#[c]⟩ : Str)) ++ z2).cps.size = _
    rw [← Array.length_toList, hz]
    simp only [List.length_append, List.length_take, List.length_drop, hlen, List.length_singleton]
    omega
  have sl : s.length ≤ sizeLine := Nat.le_trans hl (by decide)
  have s16 : (16 : Nat) ≤ sizeLine := by decide
  refine ⟨z1, z2, (z1 ++ (⟨#[c]⟩ : Str)) ++ z2, ⟨by omega, by omega, fun x m => ?_⟩, ?_, fun e => ?_, fun e => ?_, ?_, ?_⟩
  · rw [hz] at m
    simp only [List.mem_append, List.mem_singleton] at m
    rcases m with (m | m) | m
    · exact hs x (List.mem_of_mem_take m)
    · subst m; exact hc
    · exact hs x (List.mem_of_mem_drop m)
  · rw [hz]
    have lt : (s.cps.toList.take at_).length = at_ := by rw [List.length_take, hlen]; omega
    rw [List.append_assoc, List.getElem?_append_right (by omega), lt]
    simp
  · simp only [cutF, sl, if_true]
    rfl
  · simp only [cutF, sl, if_true]
    rfl
  · have : z1.length + (⟨#[c]⟩ : Str).length ≤ sizeLine := by
      have : (⟨#[c]⟩ : Str).length = 1 := rfl
      omega
    simp only [addF, this, if_true]
  · have : (z1 ++ (⟨#[c]⟩ : Str)).length + z2.length ≤ sizeLine := by
      have e1 : (z1 ++ (⟨#[c]⟩ : Str)).length = z1.length + 1 := by
        show (z1.cps ++ #[c]).size = z1.cps.size + 1
        simp
      omega
    simp only [addF, this, if_true]
theorem steps_ok {r : Nat} (hr : r < 4) : ∃ s : Nat, (s = 1 ∨ s = 5 ∨ s = 7 ∨ s = 11) ∧ ixF (.lst [.int 1, .int 5, .int 7, .int 11]) (.int (r : Int)) = some (.int (s : Int)) := by
  match r, hr with
  | 0, _ => exact ⟨1, by simp, rfl⟩
  | 1, _ => exact ⟨5, by simp, rfl⟩
  | 2, _ => exact ⟨7, by simp, rfl⟩
  | 3, _ => exact ⟨11, by simp, rfl⟩
end DL.K14
namespace DL
open PySem L2
section
variable {e : Env}
theorem andD_ex {r1 r2 : Env → Out D} (h1 : ∃ b, r1 e = .ok (.bl b) e) (h2 : ∃ b, r2 e = .ok (.bl b) e) : ∃ b, andD r1 r2 e = .ok (.bl b) e := by
  obtain ⟨b, h1⟩ := h1
  cases b with
  | true => exact h2.imp fun c h2 => andD3 h1 h2
  | false => exact ⟨false, andD3 h1 rfl⟩
end
end DL
namespace DL.K14
open PySem L2 K04
theorem ratio_ok {k : Nat} (hk : k < 9) : ∃ g : Nat, 1 ≤ g ∧ g ≤ 6 ∧ ixF (.lst [.int 3, .int 2, .int 6, .int 4, .int 2, .int 5, .int 1, .int 3, .int 4]) (.int (k : Int)) = some (.int (g : Int)) := by
  match k, hk with
  | 0, _ => exact ⟨3, by decide, by decide, rfl⟩
  | 1, _ => exact ⟨2, by decide, by decide, rfl⟩
  | 2, _ => exact ⟨6, by decide, by decide, rfl⟩
  | 3, _ => exact ⟨4, by decide, by decide, rfl⟩
  | 4, _ => exact ⟨2, by decide, by decide, rfl⟩
  | 5, _ => exact ⟨5, by decide, by decide, rfl⟩
  | 6, _ => exact ⟨1, by decide, by decide, rfl⟩
  | 7, _ => exact ⟨3, by decide, by decide, rfl⟩
  | 8, _ => exact ⟨4, by decide, by decide, rfl⟩
end DL.K14
namespace DL
open PySem L2
section
variable {e e1 e2 e3 : Env} {ra rb : Env → Out D} {d : D} {i j : Nat}
noncomputable abbrev ksOf (l : List Str) : List Key := l.map Sum.inr
theorem putA_new {k : Key} : ∀ {kd : List (Key × D)}, k ∉ kd.map (·.1) → putA k d kd = kd ++ [(k, d)]
  | [], _ => rfl
  | p :: r, h => by
    show (if p.1 = k then (p.1, d) :: r else p :: putA k d r) = _
    rw [if_neg (fun z => h (by rw [List.map_cons, z]; exact List.mem_cons_self)), putA_new fun m => h (List.mem_cons_of_mem _ m)]
    rfl
theorem ownIxA1 {y : D} {o0 o : OV} (h0 : ovL e[i]? = some o0) (h2 : rb e = .ok y e1) (h3 : ovL e1[i]? = some o) (h4 : isL o = isL o0) (h5 : getO o y = some d) : ownIxA i rb e = .ok d e1 := by
  unfold ownIxA
  rw [h0]
  dsimp only
  rw [h2, bind_ok, h3]
  dsimp only
  rw [if_pos h4, h5]
end
end DL
namespace DL.K14
open PySem L2 K04
noncomputable def liveK (l : List Str) (S : Str → Bool) : OV := .K (ksOf l) (l.map fun a => .bl (S a))
noncomputable def wakD (l : List Str) (w : List (Str × Str)) : D := .dK (ksOf l) (l.map fun a => .lst ((wok w a).map .str))
noncomputable def pull (w : List (Str × Str)) (S : Str → Bool) (a : Str) : Str → Bool := if S a = true then fun x => decide ((a, x) ∈ w) || (decide (x ≠ a) && S x) else S
noncomputable def endOf (w : List (Str × Str)) : (Str → Bool) → List Str → (Str → Bool)
  | S, [] => S
  | S, a :: r => endOf w (pull w S a) r
noncomputable def marksOf (w : List (Str × Str)) : (Str → Bool) → List Str → List Bool
  | _, [] => []
  | S, a :: r => S a :: marksOf w (pull w S a) r
theorem endOf_snoc (w : List (Str × Str)) (a : Str) : ∀ (r : List Str) (S : Str → Bool), endOf w S (r ++ [a]) = pull w (endOf w S r) a
  | [], S => rfl
  | b :: r, S => endOf_snoc w a r (pull w S b)
theorem marksOf_snoc (w : List (Str × Str)) (a : Str) : ∀ (r : List Str) (S : Str → Bool), marksOf w S (r ++ [a]) = marksOf w S r ++ [endOf w S r a]
  | [], S => rfl
  | b :: r, S => by
    show S b :: marksOf w (pull w S b) (r ++ [a]) = _
    rw [marksOf_snoc w a r]
    rfl
theorem marksOf_len (w : List (Str × Str)) : ∀ (r : List Str) (S : Str → Bool), (marksOf w S r).length = r.length
  | [], S => rfl
  | b :: r, S => by simp [marksOf, marksOf_len w r]
theorem l1000 : (1000 : Nat) ≤ sizeLine := by decide
theorem check_web_ok {l : List Str} {w : List (Str × Str)} : f_check_web [.dat (webD l w)] = .ok .non [.dat (webD l w)] := by
  have c1 : isiD (fun _ => none) (fun n => if n = ("Web" : Str) then some true else none) (nameD 0) [.dat (webD l w)] = .ok (.bl true) [.dat (webD l w)] := by
    unfold isiD
    rw [nm1 (e := [.dat (webD l w)]) (i := 0) (d := webD l w) rfl, bind_ok]
    rfl
  exact fn0 (n := 1) (tot := 1) (svs := [.dat (webD l w)]) (seqS1 (e1 := [.dat (webD l w)]) (ifSf (not1 (val1 c1)) nx1) nx1)
/-- a lot: some of the bells, in order -/
structure Lot (l s : List Str) : Prop where
  sub : ∀ x ∈ s, x ∈ l
  ri : Ri ltS s
  len : s.length ≤ 400
/-- a stand as it is given: a lot, or none for all -/
inductive StD (l : List Str) : D → List Str → Prop where
  | lot {s : List Str} (h : Lot l s) : StD l (.tup (s.map .str)) s
  | all : StD l .non l
section
variable {l r s : List Str} {w : List (Str × Str)} {d : D}
end
end DL.K14
namespace DL
open PySem L2
section
variable {e e1 e2 e3 : Env} {ra rb : Env → Out D} {d : D} {i j : Nat}
theorem inO_S (n : Bool) (a : Str) (l : List Str) : inO n (.str a) (l.map .str) = some (tst n (decide (a ∈ l))) := by
  have := flat_S l
  simp only [inO, flatD, asV_S, flatV, this, inV_S, Bool.true_and, Bool.and_true, if_true, tst]
theorem ownIn1 {n b : Bool} {l : List D} (h : ra e = .ok d e1) (h2 : lstOf e1[i]? = some l) (h3 : inO n d l = some b) : ownIn n i ra e = .ok (.bl b) e1 := by
  unfold ownIn
  rw [h, bind_ok, h2]
  dsimp only
  rw [h3]
theorem ownIn2 {n : Bool} {y r : D} (h : ra e = .ok d e1) (h2 : e1[i]? = some (.dat y)) (h3 : inF n d y = some r) : ownIn n i ra e = .ok r e1 := by
  unfold ownIn
  rw [h, bind_ok, h2]
  show pur2 (inF n) d y e1 = _
  unfold pur2
  rw [h3]
theorem posS_map {a : Str} : ∀ {l : List Str}, l.Nodup → a ∈ l → ∃ j, posS a l = some j ∧ l.eraseIdx j = l.filter fun x => decide (x ≠ a)
  | [], _, h => by cases h
  | b :: l, n, h => by
    obtain ⟨n1, n2⟩ := List.nodup_cons.mp n
    by_cases hb : b = a
    · subst hb
      refine ⟨0, by simp [posS], ?_⟩
      have : (l.filter fun x => decide (x ≠ b)) = l := List.filter_eq_self.mpr fun x m => by
        have : x ≠ b := fun z => n1 (z ▸ m)
        simp [this]
      simp [List.filter_cons]
      exact (List.filter_eq_self.mpr fun x m => by
        have : x ≠ b := fun z => n1 (z ▸ m)
        simp [this]).symm
    · obtain ⟨j, h1, h2⟩ := posS_map n2 ((List.mem_cons.mp h).resolve_left (Ne.symm hb))
      refine ⟨j + 1, by simp [posS, hb, h1], ?_⟩
      simp only [List.eraseIdx_cons_succ, List.filter_cons, h2]
      simp [hb]
theorem rem1 {l : List Str} {a : Str} (h0 : ∃ l0, lstOf e[i]? = some l0) (h : ra e = .ok (.str a) e1) (h1 : lstOf e1[i]? = some (l.map .str)) (n : l.Nodup) (m : a ∈ l) (h2 : putOv i (.L ((l.filter fun x => decide (x ≠ a)).map .str)) e1 = some e2) : remS i ra e = .ok .nx e2 := by
  obtain ⟨l0, h0⟩ := h0
  obtain ⟨j, p1, p2⟩ := posS_map n m
  unfold remS
  rw [h0]
  dsimp only
  rw [h, bind_ok, h1]
  dsimp only
  rw [K04.asS_map]
  simp only [Option.bind_some, p1, Option.map_some, p2, h2]
end
/-- a list or a tuple of texts -/
inductive Ss : D → List Str → Prop where
  | l (s : List Str) : Ss (.lst (s.map .str)) s
  | t (s : List Str) : Ss (.tup (s.map .str)) s
theorem Ss.it {e e1 : Env} {d : D} {s : List Str} {ra : Env → Out D} (h : Ss d s) (k : ra e = .ok d e1) : itA ra e = .ok (s.map .str) e1 := by
  cases h with
  | l => exact itL1 k
  | t => exact itT1 k
theorem Ss.list {e e1 : Env} {d : D} {s : List Str} {rA : Env → Out (List D)} (h : Ss d s) (k : rA e = .ok [d] e1) : listF rA e = .ok (s.map .str) e1 := by
  cases h with
  | l => exact listF1 k
  | t => exact listF2 k
end DL
namespace DL.K14
open PySem L2 K04
theorem step_mem {w : List (Str × Str)} {S : Str → Bool} {now : List Str} {a : Str} (hn : ∀ x, x ∈ now ↔ S x = true) (ha : S a = true) : ∀ x, x ∈ (now.filter fun x => decide (x ≠ a)) ++ (w.filter fun p => decide (p.1 = a) && !decide (p.2 ∈ now.filter fun x => decide (x ≠ a))).map (·.2) ↔ pull w S a x = true := fun x => by
  unfold pull
  rw [if_pos ha]
  simp only [List.mem_append, List.mem_filter, List.mem_map, decide_eq_true_eq, Bool.and_eq_true, Bool.or_eq_true, hn, Bool.not_eq_true']
  constructor
  · rintro (⟨h1, h2⟩ | ⟨⟨p, q⟩, ⟨h1, h2, h3⟩, h4⟩)
    · exact .inr ⟨h2, h1⟩
    · dsimp only at h2 h4
      rw [← h2, ← h4]; exact .inl h1
  · rintro (h | ⟨h1, h2⟩)
    · by_cases hx : S x = true ∧ x ≠ a
      · exact .inl hx
      · exact .inr ⟨(a, x), ⟨h, rfl, decide_eq_false hx⟩, rfl⟩
    · exact .inl ⟨h2, h1⟩
theorem step_nd {w : List (Str × Str)} {now : List Str} {a : Str} (hw : Ri ltP w) (hn : now.Nodup) : ((now.filter fun x => decide (x ≠ a)) ++ (w.filter fun p => decide (p.1 = a) && !decide (p.2 ∈ now.filter fun x => decide (x ≠ a))).map (·.2)).Nodup := by
  have n1 : (now.filter fun x => decide (x ≠ a)).Nodup := List.Pairwise.filter _ hn
  generalize (now.filter fun x => decide (x ≠ a)) = nw at n1 ⊢
  rw [List.nodup_append]
  refine ⟨n1, ?_, fun x m y my => ?_⟩
  · have h1 := (ri_wok hw a).nodup ordS
    have : (w.filter fun p => decide (p.1 = a) && !decide (p.2 ∈ nw)).map (·.2) = (wok w a).filter fun x => !decide (x ∈ nw) := by
      unfold wok
      rw [List.filter_map, List.filter_filter]
      congr 1
      exact List.filter_congr fun p _ => by simp [Bool.and_comm]
    rw [this]
    exact List.Pairwise.filter _ h1
  · simp only [List.mem_map, List.mem_filter, Bool.and_eq_true, Bool.not_eq_true', decide_eq_false_iff_not] at my
    obtain ⟨p, ⟨_, _, h3⟩, rfl⟩ := my
    intro z
    exact h3 (z ▸ m)
theorem endOf_sub {l : List Str} {w : List (Str × Str)} (hw : Wk l w) : ∀ {r : List Str} {S : Str → Bool}, (∀ x, S x = true → x ∈ l) → ∀ x, endOf w S r x = true → x ∈ l
  | [], S, h => h
  | a :: r, S, h => endOf_sub hw (r := r) fun x hx => by
    unfold pull at hx
    split at hx
    · simp only [Bool.or_eq_true, Bool.and_eq_true, decide_eq_true_eq] at hx
      rcases hx with hx | hx
      · exact (hw.mem _ hx).2
      · exact h x hx.2
    · exact h x hx
theorem walk_ok {l r s : List Str} {w : List (Str × Str)} {dr ds : D} (h : Bl l) (hw : Wk l w) (hdr : Ss dr r) (hds : Ss ds s) (hrl : r.length ≤ 400) (hs : ∀ x ∈ s, x ∈ l) (hsn : s.Nodup) :
    f_law_walk [.dat (.tup (w.map dP)), .dat dr, .dat ds] = .ok (.lst [.tup ((marksOf w (fun a => decide (a ∈ s)) r).map .bl), .tup ((l.filter (endOf w (fun a => decide (a ∈ s)) r)).map .str)]) [.dat (.tup (w.map dP)), .dat dr, .dat ds] := by
  refine Wp.out (fn_wp ?_)
  unfold b_law_walk
  refine wp_seq (wp_eq (a := .nx) (e := [.dat (.tup (w.map dP)), .dat dr, .dat ds, .own (.L (s.map .str)), .own (.L []), fr none, .un]) (parT1 (mF (newL1 (hds.list (consA2 (nm1 rfl) nA))) (mF (newL1 (lst1 nA (Nat.zero_le _))) mN)) (show 2 ≤ sizeLine by decide) rfl) ?_)
  refine wp_seq (wp_for (fun i e => ∃ (now : List Str) (o : Option D), now.Nodup ∧ (∀ x, x ∈ now ↔ endOf w (fun a => decide (a ∈ s)) (r.take i) x = true) ∧ e = [.dat (.tup (w.map dP)), .dat dr, .dat ds, .own (.L (now.map .str)), .own (.L ((marksOf w (fun a => decide (a ∈ s)) (r.take i)).map .bl)), fr o, .un]) _ _ (hdr.it (nm1 rfl)) ⟨s, none, hsn, fun x => by simp [endOf], rfl⟩ ?_ ?_)
  · rintro i d e hd ⟨now, o, nd, hm, rfl⟩
    rw [List.getElem?_map] at hd
    obtain ⟨a, hy, rfl⟩ := Option.map_eq_some_iff.mp hd
    have sub : ∀ x, endOf w (fun a => decide (a ∈ s)) (r.take i) x = true → x ∈ l := endOf_sub hw fun x hx => hs x (of_decide_eq_true hx)
    refine ⟨[.dat (.tup (w.map dP)), .dat dr, .dat ds, .own (.L (now.map .str)), .own (.L ((marksOf w (fun a => decide (a ∈ s)) (r.take i)).map .bl)), .dat (.str a), .un], setD_fr (o := o) rfl, by cases o <;> rfl, ?_⟩
    have tk : r.take (i + 1) = r.take i ++ [a] := by rw [List.take_add_one, hy]; rfl
    rw [tk, endOf_snoc, marksOf_snoc]
    have hz : ((marksOf w (fun a => decide (a ∈ s)) (r.take i)).map D.bl).length < sizeLine := by
      rw [List.length_map, marksOf_len, List.length_take]
      have := l1000; omega
    generalize endOf w (fun a => decide (a ∈ s)) (r.take i) = S at hm sub ⊢
    generalize marksOf w (fun a => decide (a ∈ s)) (r.take i) = ms at hz ⊢
    have hb : decide (a ∈ now) = S a := by
      rw [Bool.eq_iff_iff, decide_eq_true_eq]; exact hm a
    have hl : now.length ≤ 12 := Nat.le_trans (List.Nodup.length_le_of_subset nd fun x m => sub x ((hm x).mp m)) h.hi
    refine wp_seq (wp_eq (a := .nx) (e := [.dat (.tup (w.map dP)), .dat dr, .dat ds, .own (.L (now.map .str)), .own (.L ((ms ++ [S a]).map .bl)), .dat (.str a), .un]) (app1 rfl (ownIn1 (nm1 rfl) rfl (inO_S false a now)) rfl hz (by rw [List.map_append, ← hb]; rfl)) ?_)
    have cc : valT (ownIn false 3 (nameD 5)) [.dat (.tup (w.map dP)), .dat dr, .dat ds, .own (.L (now.map .str)), .own (.L ((ms ++ [S a]).map .bl)), .dat (.str a), .un] = .ok (S a) [.dat (.tup (w.map dP)), .dat dr, .dat ds, .own (.L (now.map .str)), .own (.L ((ms ++ [S a]).map .bl)), .dat (.str a), .un] := val1 (ownIn1 (nm1 rfl) rfl ((inO_S false a now).trans (by rw [← hb]; rfl)))
    generalize ms ++ [S a] = ms2 at cc ⊢
    cases hS : S a with
    | false =>
      rw [hS] at cc
      refine wp_seq (wp_eq (ifSf cc nx1) (wp_nx.mpr ⟨rfl, now, some (.str a), nd, fun x => ?_, rfl⟩))
      unfold pull
      rw [hS, if_neg Bool.false_ne_true]
      exact hm x
    | true =>
      rw [hS] at cc
      have nn := step_nd (a := a) hw.ri nd
      have nm := step_mem (w := w) hm hS
      have nl := Nat.le_trans (List.Nodup.length_le_of_subset nn fun x m => endOf_sub hw (r := [a]) sub x ((nm x).mp m)) h.hi
      have am : a ∈ now := (hm a).mpr hS
      have k2 : nameD 3 [.dat (.tup (w.map dP)), .dat dr, .dat ds, .own (.L ((now.filter fun x => decide (x ≠ a)).map .str)), .own (.L (ms2.map .bl)), .dat (.str a), .un] = .ok (.lst ((now.filter fun x => decide (x ≠ a)).map .str)) [.dat (.tup (w.map dP)), .dat dr, .dat ds, .dat (.lst ((now.filter fun x => decide (x ≠ a)).map .str)), .own (.L (ms2.map .bl)), .dat (.str a), .un] := nmO (o := .L ((now.filter fun x => decide (x ≠ a)).map .str)) rfl
      have hwl : w.length ≤ sizeLine := by have := hw.len; have := l1000; omega
      generalize hnow : (now.filter fun x => decide (x ≠ a)) = nw at nn nm nl k2
      have k3 : compF [6] (itA (nameD 0)) (setD 6) (andT (valT (bin2 (pur2 (eqF false)) (bin2 (pur2 ixF) (nameD 6) (constD (.int 0))) (nameD 5))) (valT (ownIn true 3 (bin2 (pur2 ixF) (nameD 6) (constD (.int 1)))))) (bin2 (pur2 ixF) (nameD 6) (constD (.int 1))) [.dat (.tup (w.map dP)), .dat dr, .dat ds, .dat (.lst (nw.map .str)), .own (.L (ms2.map .bl)), .dat (.str a), .un] = .ok ((w.filter fun p => decide (p.1 = a) && !decide (p.2 ∈ nw)).map fun p => .str p.2) [.dat (.tup (w.map dP)), .dat dr, .dat ds, .dat (.lst (nw.map .str)), .own (.L (ms2.map .bl)), .dat (.str a), .un] := by
        refine compF_map (f := dP) (itT1 (nm1 rfl)) rfl hwl rfl fun p m => ⟨[.dat (.tup (w.map dP)), .dat dr, .dat ds, .dat (.lst (nw.map .str)), .own (.L (ms2.map .bl)), .dat (.str a), .dat (dP p)], rfl, rfl, rfl, ?_, fun _ => bin1 (nm1 rfl) cn1 (ix_tup (k := 1) rfl)⟩
        refine and3 (val1 (bin1 (bin1 (nm1 rfl) cn1 (ix_tup (k := 0) rfl)) (nm1 rfl) (eqF_s false _ _))) ?_
        by_cases hp : p.1 = a
        · rw [if_pos (by simp [tst, hp])]
          have : (decide (p.1 = a) && !decide (p.2 ∈ nw)) = !decide (p.2 ∈ nw) := by simp [hp]
          rw [this]
          exact val1 (ownIn2 (bin1 (nm1 rfl) cn1 (ix_tup (k := 1) rfl)) rfl (inF_lS true _ _))
        · rw [if_neg (by simp [tst, hp])]
          simp [hp]
      have hz2 : (nw.map D.str).length + ((w.filter fun p => decide (p.1 = a) && !decide (p.2 ∈ nw)).map fun p => D.str p.2).length ≤ sizeLine := by
        rw [List.length_append] at nl
        simp only [List.length_map] at nl ⊢
        have := l1000; omega
      refine wp_seq (wp_eq (ifSt cc (seqS1 (e1 := [.dat (.tup (w.map dP)), .dat dr, .dat ds, .own (.L (nw.map .str)), .own (.L (ms2.map .bl)), .dat (.str a), .un]) (rem1 ⟨_, rfl⟩ (nm1 rfl) rfl nd am (by rw [hnow]; rfl)) (seqS1 (asgO1 (cat1 k2 (held_ok k3) hz2) rfl rfl) nx1))) (wp_nx.mpr ⟨rfl, nw ++ (w.filter fun p => decide (p.1 = a) && !decide (p.2 ∈ nw)).map (·.2), some (.str a), nn, nm, ?_⟩))
      rw [List.map_append, List.map_map]
      rfl
  · rintro e' ⟨now, o, nd, hm, rfl⟩
    rw [List.length_map, List.take_length] at hm ⊢
    have sub : ∀ x, endOf w (fun a => decide (a ∈ s)) r x = true → x ∈ l := endOf_sub hw fun x hx => hs x (of_decide_eq_true hx)
    have es : srt ltS now = l.filter (endOf w (fun a => decide (a ∈ s)) r) := (srt_ri ordS nd).eq ordS (h.ri.filter _) fun x => by
      rw [srt_mem, hm, List.mem_filter]
      exact ⟨fun k => ⟨sub x k, k⟩, fun k => k.2⟩
    have k1 : nameD 4 [.dat (.tup (w.map dP)), .dat dr, .dat ds, .own (.L (now.map .str)), .own (.L ((marksOf w (fun a => decide (a ∈ s)) r).map .bl)), fr o, .un] = .ok (.lst ((marksOf w (fun a => decide (a ∈ s)) r).map .bl)) [.dat (.tup (w.map dP)), .dat dr, .dat ds, .own (.L (now.map .str)), .dat (.lst ((marksOf w (fun a => decide (a ∈ s)) r).map .bl)), fr o, .un] := nmO (o := .L ((marksOf w (fun a => decide (a ∈ s)) r).map .bl)) rfl
    have k2 : nameD 3 [.dat (.tup (w.map dP)), .dat dr, .dat ds, .own (.L (now.map .str)), .dat (.lst ((marksOf w (fun a => decide (a ∈ s)) r).map .bl)), fr o, .un] = .ok (.lst (now.map .str)) [.dat (.tup (w.map dP)), .dat dr, .dat ds, .dat (.lst (now.map .str)), .dat (.lst ((marksOf w (fun a => decide (a ∈ s)) r).map .bl)), fr o, .un] := nmO (o := .L (now.map .str)) rfl
    have k3 := sort_S (consA2 k2 nA)
    rw [es] at k3
    exact wp_seq (wp_eq (ret1 (held_ok (lst1 (consA2 (callo (f := tupleF) k1 rfl) (consA2 (callo (f := tupleF) (held_ok k3) rfl) nA)) (show 2 ≤ sizeLine by decide)))) ⟨rfl, rfl⟩)
end DL.K14
namespace DL.K14
open PySem L2 K04
noncomputable def lsD (ls : List (List Str)) : D := .lst (ls.map fun s => .tup (s.map .str))
end DL.K14
namespace DL
open PySem L2
theorem mk1 {cn : Str} {fn : List SV → Out (List (Str × D))} {its : List It} {e e2 : Env} {fs : List (Str × D)} {svs : List SV} (h : fn (svsOf e its) = .ok fs svs) (hn : nodupB (refsOf its) = true) (he : putBack its svs e = e2) : mkCall cn fn its e = .ok (.obj cn (fs.map (·.1)) (fs.map (·.2))) e2 := by
  unfold mkCall
  rw [if_pos hn, h, ← he]
end DL
namespace DL.K14
open PySem L2 K04
end DL.K14
namespace DL.K57
open PySem L2 K14
open K04 hiding pd PO
local macro_rules
  | `(tactic| walk_at "ev_leaf") => `(tactic| first | with_reducible assumption | rfl | assumption | decide)
local macro_rules
  | `(tactic| walk_at "ev_if") => `(tactic| first
    | ((refine (if_pos ?_).trans ?_); (rfl); (first | with_reducible rfl | walk_at "evc"))
    | ((refine (if_neg ?_).trans ?_); (decide); (first | with_reducible rfl | walk_at "evc"))
    | ((refine (if_pos ?_).trans ?_); (assumption); (first | with_reducible rfl | walk_at "evc"))
    | ((refine (if_neg ?_).trans ?_); (assumption); (first | with_reducible rfl | walk_at "evc")))
local macro_rules
  | `(tactic| walk_at "evc") => `(tactic| first
    | with_reducible assumption
    | with_reducible exact cn1
    | with_reducible exact nx1
    | with_reducible exact nR
    | with_reducible exact nA
    | with_reducible exact nO
    | with_reducible exact mN
    | ((with_reducible apply nm1); rfl)
    | ((with_reducible apply nmO); rfl)
    | ((with_reducible apply bin1); walk_at "evc"; walk_at "evc"; walk_at "ev_leaf")
    | ((with_reducible apply callo); walk_at "evc"; walk_at "ev_leaf")
    | ((with_reducible apply call1); walk_at "evc"; walk_at "ev_leaf")
    | ((with_reducible apply consA2); walk_at "evc"; walk_at "evc")
    | ((with_reducible apply tup1); walk_at "evc"; walk_at "ev_leaf")
    | ((with_reducible refine held_ok ?_); walk_at "evc")
    | ((with_reducible apply heldO1); walk_at "evc")
    | ((with_reducible apply lst1); walk_at "evc"; walk_at "ev_leaf")
    | ((with_reducible apply fld1); walk_at "evc"; walk_at "ev_leaf")
    | ((with_reducible apply un1'); walk_at "evc"; walk_at "ev_leaf")
    | ((with_reducible apply notD1); walk_at "evc"; rfl)
    | ((with_reducible apply andD3); walk_at "evc"; walk_at "ev_if")
    | ((with_reducible apply orD3); walk_at "evc"; walk_at "ev_if")
    | ((with_reducible apply ifD3); walk_at "evc"; walk_at "ev_if")
    | ((with_reducible apply chain2); walk_at "evc"; walk_at "evc"; walk_at "ev_leaf"; walk_at "evc"; walk_at "ev_leaf")
    | ((with_reducible apply chain1); walk_at "evc"; walk_at "evc"; walk_at "ev_leaf")
    | ((with_reducible apply val1); walk_at "evc")
    | ((with_reducible apply not1); walk_at "evc"; rfl)
    | ((with_reducible apply or3); walk_at "evc"; walk_at "ev_if")
    | ((with_reducible apply and3); walk_at "evc"; walk_at "ev_if")
    | ((with_reducible apply seqSr); (with_reducible apply ret1); walk_at "evc")
    | ((with_reducible apply ret1); walk_at "evc")
    | ((with_reducible apply seqS1); walk_at "evc"; walk_at "evc")
    | ((with_reducible apply seqSr); walk_at "evc")
    | ((with_reducible apply ifS3); walk_at "evc"; walk_at "ev_if")
    | ((with_reducible apply asg1); walk_at "evc"; walk_at "ev_leaf"; rfl)
    | ((with_reducible apply asgO1); walk_at "evc"; rfl; rfl)
    | ((with_reducible apply asgV1); walk_at "evc"; rfl; rfl)
    | ((with_reducible apply app1); rfl; walk_at "evc"; rfl; walk_at "ev_leaf"; rfl)
    | ((with_reducible apply par1); walk_at "evc"; rfl)
    | ((with_reducible apply parT1); walk_at "evc"; walk_at "ev_leaf"; rfl)
    | ((with_reducible apply mD); walk_at "evc"; walk_at "evc")
    | ((with_reducible apply mF); walk_at "evc"; walk_at "evc")
    | ((with_reducible apply newL1); walk_at "evc")
    | ((with_reducible apply drop1); walk_at "evc")
    | ((with_reducible apply listF1); walk_at "evc")
    | ((with_reducible apply listF2); walk_at "evc")
    | ((with_reducible apply cat1); walk_at "evc"; walk_at "evc"; walk_at "ev_leaf")
    | ((with_reducible apply ownIx1); rfl; walk_at "evc"; rfl; walk_at "ev_leaf")
    | ((with_reducible apply callS1); walk_at "evc"; walk_at "evc"; walk_at "evc"; rfl)
    | ((with_reducible apply cRd); walk_at "evc"; walk_at "evc")
    | ((with_reducible apply cRr); rfl; walk_at "evc"; rfl)
    | ((with_reducible apply fnC2); assumption; rfl; rfl)
    | ((with_reducible apply methS1); walk_at "evc"; walk_at "evc"; walk_at "evc"; (decide +kernel); rfl)
    | ((with_reducible apply methK1); walk_at "evc"; walk_at "evc"; walk_at "evc"; walk_at "evc"; (decide +kernel); rfl)
    | ((with_reducible apply cutS1); walk_at "evc"; walk_at "evc"; walk_at "evc"; walk_at "ev_leaf")
    | ((with_reducible apply cutT1); walk_at "evc"; walk_at "evc"; walk_at "evc"; walk_at "ev_leaf")
    | ((with_reducible apply cutL1); walk_at "evc"; walk_at "evc"; walk_at "evc"; walk_at "ev_leaf")
    | ((with_reducible apply sO); walk_at "evc")
    | ((with_reducible apply itT1); walk_at "evc")
    | ((with_reducible apply itL1); walk_at "evc")
    | ((with_reducible apply itS1); walk_at "evc")
    | ((with_reducible apply itEA1); walk_at "evc")
    | ((with_reducible apply itEA2); walk_at "evc")
    | ((with_reducible apply itZ1); walk_at "evc")
    | ((with_reducible apply itZ2); walk_at "evc")
    | assumption
    | rfl)
theorem calls_ok {K n : Nat} {p : Int × Int × Int} (hp : PO K p) (hK : K ≤ 900000) (h1 : 1 ≤ n) (h2 : n ≤ 12) : ∃ l p', PO (K + 20) p' ∧ Bl l ∧ l.length = n ∧ f_law_calls [.bor (pd p), .dat (.int n)] = .ok (.tup (l.map .str)) [.bor (pd p'), .dat (.int n)] := by
  have hz : (List.range n).length ≤ sizeLine := by rw [List.length_range]; exact Nat.le_trans h2 (by decide)
  have s16 : (16 : Nat) ≤ sizeLine := by decide
  suffices h : Wp (f_law_calls [.bor (pd p), .dat (.int n)]) fun d svs => ∃ l p', PO (K + 20) p' ∧ Bl l ∧ l.length = n ∧ d = .tup (l.map .str) ∧ svs = [.bor (pd p'), .dat (.int n)] by
    obtain ⟨d, svs, e, l, p', q1, q2, q3, rfl, rfl⟩ := h
    exact ⟨l, p', q1, q2, q3, e⟩
  refine fn_wp ?_
  unfold b_law_calls
  refine wp_seq (wp_eq (a := .nx) (e := [.bor (pd p), .dat (.int n), .dat (.lst (wordsL.map .str)), .un, .un, .un, .un, .un, .un, .un, .un]) rfl ?_)
  obtain ⟨t, p1, hp1, t1, c1⟩ := callN (e := [.bor (pd p), .dat (.int n), .dat (.lst (wordsL.map .str)), .un, .un, .un, .un, .un, .un, .un, .un]) (i := 0) (u := 13) rfl hp (by omega) cn1 (by decide) (by decide)
  obtain ⟨r, p2, hp2, r1, c2⟩ := callN (e := [.bor (pd p1), .dat (.int n), .dat (.lst (wordsL.map .str)), .un, .un, .un, .un, .un, .un, .un, .un]) (i := 0) (u := 4) rfl hp1 (by omega) cn1 (by decide) (by decide)
  obtain ⟨s, hs, ixs⟩ := steps_ok r1
  have sb : s ≤ 11 := by omega
  have l4 : lstF (consA (constD (.int 1)) (consA (constD (.int 5)) (consA (constD (.int 7)) (consA (constD (.int 11)) nilA)))) [.bor (pd p1), .dat (.int n), .dat (.lst (wordsL.map .str)), .un, .un, .un, .un, .un, .un, .un, .un] = .ok [.int 1, .int 5, .int 7, .int 11] [.bor (pd p1), .dat (.int n), .dat (.lst (wordsL.map .str)), .un, .un, .un, .un, .un, .un, .un, .un] := rfl
  refine wp_seq (wp_eq (a := .nx) (e := [.bor (pd p2), .dat (.int n), .dat (.lst (wordsL.map .str)), .dat (.int t), .dat (.int s), .un, .un, .un, .un, .un, .un]) (parT1 (mD c1 (mD (bin1 (held_ok l4) c2 ixs) mN)) (show 2 ≤ sizeLine by decide) rfl) ?_)
  obtain ⟨w, p3, hp3, w1, c3⟩ := callN (e := [.bor (pd p2), .dat (.int n), .dat (.lst (wordsL.map .str)), .dat (.int t), .dat (.int s), .un, .un, .un, .un, .un, .un]) (i := 0) (u := 4) rfl hp2 (by omega) cn1 (by decide) (by decide)
  by_cases hw : w = 1
  · subst hw
    have cc : compF [9] (itR1 (consA (nameD 1) nilA)) (setD 9) yesT (bin2 (pur2 ixF) (nameD 2) (bin2 (pur2 modF) (bin2 (pur2 addF) (nameD 3) (bin2 (pur2 mulA) (nameD 4) (nameD 9))) (constD (.int 13)))) [.bor (pd p3), .dat (.int n), .dat (.lst (wordsL.map .str)), .dat (.int t), .dat (.int s), .un, .un, .un, .un, .un, .un] = .ok (((List.range n).filter fun _ => true).map fun k => .str (pickW t s k)) [.bor (pd p3), .dat (.int n), .dat (.lst (wordsL.map .str)), .dat (.int t), .dat (.int s), .un, .un, .un, .un, .un, .un] := by
      refine compF_map (r1_ok (nm1 rfl) (by omega)) rfl hz rfl fun k m => ⟨[.bor (pd p3), .dat (.int n), .dat (.lst (wordsL.map .str)), .dat (.int t), .dat (.int s), .un, .un, .un, .un, .dat (.int k), .un], rfl, rfl, rfl, rfl, fun _ => ?_⟩
      have hk := List.mem_range.mp m
      refine bin1 (nm1 rfl) (bin1 (bin1 (nm1 rfl) (bin1 (nm1 rfl) (nm1 rfl) (mul_int (by omega) (by omega))) (d := .int ((t : Int) + s * k)) rfl) cn1 ((mod_int (by decide)).trans (show _ = some (.int (((t + s * k) % 13 : Nat) : Int)) by congr 2))) (ix_lst ?_)
      rw [List.getElem?_map, pickW_at]
      rfl
    rw [show (List.range n).filter (fun _ => true) = List.range n from List.filter_eq_self.mpr fun _ _ => rfl, show ((List.range n).map fun k => D.str (pickW t s k)) = ((List.range n).map (pickW t s)).map D.str by simp] at cc
    have ll : ((List.range n).map (pickW t s)).length = n := by simp
    refine wp_seq (wp_eq (a := .rt (.tup ((srt ltS ((List.range n).map (pickW t s))).map .str))) (e := [.bor (pd p3), .dat (.int n), .dat (.lst (wordsL.map .str)), .dat (.int t), .dat (.int s), .un, .un, .un, .un, .un, .un]) (ifSt (val1 (bin1 c3 cn1 (eqF_int false _ _))) (seqSr (ret1 (callo (f := tupleF) (held_ok (sort_S (consA1 (held_ok cc)))) rfl)))) ?_)
    refine ⟨_, p3, hp3.mono (by omega), bl_srt (nodup_range (pickW_inj t s n hs h2)) (fun s m => ?_) (by rw [ll]; exact h1) (by rw [ll]; exact h2), by rw [srt_len, ll], rfl, rfl⟩
    obtain ⟨k, _, rfl⟩ := List.mem_map.mp m
    exact words_nm _ (List.mem_of_getElem? (pickW_at t _ k))
  · have hw' : ¬ (w : Int) = 1 := by omega
    refine wp_seq (wp_eq (a := .nx) (e := [.bor (pd p3), .dat (.int n), .dat (.lst (wordsL.map .str)), .dat (.int t), .dat (.int s), .un, .un, .un, .un, .un, .un]) (ifSf (val1 (bin1 c3 cn1 ((eqF_int false _ _).trans (by simp [tst, hw'])))) nx1) ?_)
    refine wp_seq (wp_eq (a := .nx) (e := [.bor (pd p3), .dat (.int n), .dat (.lst (wordsL.map .str)), .dat (.int t), .dat (.int s), .dat (.str abc), .un, .un, .un, .un, .un]) rfl ?_)
    obtain ⟨u, p4, hp4, u1, c4⟩ := callN (e := [.bor (pd p3), .dat (.int n), .dat (.lst (wordsL.map .str)), .dat (.int t), .dat (.int s), .dat (.str abc), .un, .un, .un, .un, .un]) (i := 0) (u := 8) rfl hp3 (by omega) cn1 (by decide) (by decide)
    have w1 : Wp (compF [9] (itR1 (consA (callS (fnCall K14.f_law_draw) (posA []) (consRr 0 (consRd (constD (.int 8)) nilR)) nilR) nilA)) (setD 9) yesT (bin2 (pur2 ixF) (nameD 5) (callS (fnCall K14.f_law_draw) (posA []) (consRr 0 (consRd (constD (.int 26)) nilR)) nilR)) [.bor (pd p3), .dat (.int n), .dat (.lst (wordsL.map .str)), .dat (.int t), .dat (.int s), .dat (.str abc), .un, .un, .un, .un, .un]) fun ys e => ∃ (cs : List Nat) (p5 : Int × Int × Int), PO (K + 12) p5 ∧ cs.length ≤ 7 ∧ (∀ c ∈ cs, c ∈ abc.cps.toList) ∧ ys = cs.map (fun c => .str ⟨#[c]⟩) ∧ e = [.bor (pd p5), .dat (.int n), .dat (.lst (wordsL.map .str)), .dat (.int t), .dat (.int s), .dat (.str abc), .un, .un, .un, .un, .un] := by
      refine compF_sti ((List.range u).map fun (k : Nat) => .int (k : Int)) p4 (fun q => [.bor (pd q), .dat (.int n), .dat (.lst (wordsL.map .str)), .dat (.int t), .dat (.int s), .dat (.str abc), .un, .un, .un, .un, .un]) (fun i q => PO (K + 4 + i) q) (fun _ y => ∃ c, c ∈ abc.cps.toList ∧ y = .str ⟨#[c]⟩) (r1_ok c4 (by omega)) rfl ?_ rfl hp4 ?_ ?_
      · rw [List.length_map, List.length_range]
        exact Nat.le_trans (show u ≤ 8 by omega) (by decide)
      · intro i d q hd hq
        rw [List.getElem?_map] at hd
        obtain ⟨k, hk, rfl⟩ := Option.map_eq_some_iff.mp hd
        have hi : i < u := by have := (List.getElem?_eq_some_iff.mp hk).1; simpa using this
        obtain ⟨r, q', hq', r1, cr⟩ := callN (e := [.bor (pd q), .dat (.int n), .dat (.lst (wordsL.map .str)), .dat (.int t), .dat (.int s), .dat (.str abc), .un, .un, .un, .dat (.int k), .un]) (i := 0) (u := 26) rfl hq (by omega) cn1 (by decide) (by decide)
        obtain ⟨c, hc, hx⟩ := abc_at r1
        exact ⟨[.bor (pd q), .dat (.int n), .dat (.lst (wordsL.map .str)), .dat (.int t), .dat (.int s), .dat (.str abc), .un, .un, .un, .dat (.int k), .un], rfl, rfl, rfl, wp_eq (bin1 (nm1 rfl) cr hx) ⟨rfl, ⟨c, List.mem_of_getElem? hc, rfl⟩, q', hq', rfl⟩⟩
      · intro ys p5 hp5 hl hr
        obtain ⟨cs, rfl, hcs⟩ := all_ex hr
        simp at hl hp5
        exact ⟨cs, p5, hp5.mono (by omega), by omega, hcs, rfl, rfl⟩
    obtain ⟨ys, e, w2, cs, p5, hp5, hcl, hcs, rfl, rfl⟩ := w1
    obtain ⟨z, hzs, hj⟩ := join_ok w2 (by omega)
    have sl : z.length ≤ 7 := by
      have : z.cps.toList.length = z.length := Array.length_toList
      rw [← this, hzs]; exact hcl
    have sc : ∀ c ∈ z.cps.toList, c ∈ abc.cps.toList := fun c m => hcs c (hzs ▸ m)
    refine wp_seq (wp_eq (a := .nx) (e := [.bor (pd p5), .dat (.int n), .dat (.lst (wordsL.map .str)), .dat (.int t), .dat (.int s), .dat (.str abc), .dat (.str z), .un, .un, .un, .un]) (asg1 hj rfl rfl) ?_)
    have ls : lenF (.str z) = some (.int z.length) := by
      have : z.length ≤ sizeLine := Nat.le_trans sl (by decide)
      simp [lenF, this]
    obtain ⟨x, p6, hp6, x1, c6⟩ := callN (e := [.bor (pd p5), .dat (.int n), .dat (.lst (wordsL.map .str)), .dat (.int t), .dat (.int s), .dat (.str abc), .dat (.str z), .un, .un, .un, .un]) (i := 0) (ru := bin2 (pur2 addF) (callD (one lenF) (consA (nameD 6) nilA)) (constD (.int 1))) (u := z.length + 1) rfl hp5 (by omega) (bin1 (callo (nm1 rfl) ls) cn1 rfl) (by omega) (by omega)
    refine wp_seq (wp_eq (a := .nx) (e := [.bor (pd p6), .dat (.int n), .dat (.lst (wordsL.map .str)), .dat (.int t), .dat (.int s), .dat (.str abc), .dat (.str z), .dat (.int x), .un, .un, .un]) (asg1 c6 rfl rfl) ?_)
    refine wp_seq (wp_eq (a := .nx) (e := [.bor (pd p6), .dat (.int n), .dat (.lst (wordsL.map .str)), .dat (.int t), .dat (.int s), .dat (.str abc), .dat (.str z), .dat (.int x), .own (.L []), .un, .un]) (asgO1 (lst1 nA (Nat.zero_le _)) rfl rfl) ?_)
    have hx : x ≤ z.length := by omega
    have so : ∀ k : Nat, k < 26 → ∃ y : Str, Nm y ∧ y.cps.toList[x]? = abc.cps.toList[(2 * t + s * k) % 26]? ∧ ∀ (f : List D) (o : Option D), f.length < sizeLine → Wp (seqS (asgS (bin2 (pur2 ixF) (nameD 5) (bin2 (pur2 modF) (bin2 (pur2 addF) (bin2 (pur2 mulA) (constD (.int 2)) (nameD 3)) (bin2 (pur2 mulA) (nameD 4) (nameD 9))) (constD (.int 26)))) (setD 10) [10]) (seqS (appS 8 (bin2 (pur2 addF) (bin2 (pur2 addF) (cutA (nameD 6) noO (someO (nameD 7))) (nameD 10)) (cutA (nameD 6) (someO (nameD 7)) noO))) nextS) [.bor (pd p6), .dat (.int n), .dat (.lst (wordsL.map .str)), .dat (.int t), .dat (.int s), .dat (.str abc), .dat (.str z), .dat (.int x), .own (.L f), .dat (.int (k : Int)), fr o]) fun fl e => fl = .nx ∧ ∃ o, e = [.bor (pd p6), .dat (.int n), .dat (.lst (wordsL.map .str)), .dat (.int t), .dat (.int s), .dat (.str abc), .dat (.str z), .dat (.int x), .own (.L (f ++ [.str y])), .dat (.int (k : Int)), fr o] := fun k hk => by
      obtain ⟨c, hc, hix⟩ := abc_at (k := (2 * t + s * k) % 26) (by omega)
      obtain ⟨z1, z2, y, hy, hat, q1, q2, a1, a2⟩ := stemG (at_ := x) (List.mem_of_getElem? hc) sc sl hx
      refine ⟨y, hy, by rw [hat, hc], fun f o hf => ?_⟩
      have sk : s * k ≤ 11 * 25 := Nat.mul_le_mul sb (by omega)
      refine wp_seq (wp_eq (a := .nx) (e := [.bor (pd p6), .dat (.int n), .dat (.lst (wordsL.map .str)), .dat (.int t), .dat (.int s), .dat (.str abc), .dat (.str z), .dat (.int x), .own (.L f), .dat (.int (k : Int)), .dat (.str ⟨#[c]⟩)]) (asg1 (bin1 (nm1 rfl) (bin1 (bin1 (bin1 cn1 (nm1 rfl) (mul_int (by decide) (by omega))) (bin1 (nm1 rfl) (nm1 rfl) (mul_int (by omega) (by omega))) (d := .int ((2 : Int) * t + s * k)) rfl) cn1 ((mod_int (by decide)).trans (show _ = some (.int (((2 * t + s * k) % 26 : Nat) : Int)) by congr 2))) hix) (setD_fr (o := o) rfl) (by cases o <;> rfl)) ?_)
      have Q1 := q1 [.bor (pd p6), .dat (.int n), .dat (.lst (wordsL.map .str)), .dat (.int t), .dat (.int s), .dat (.str abc), .dat (.str z), .dat (.int x), .own (.L f), .dat (.int (k : Int)), .dat (.str ⟨#[c]⟩)]
      have Q2 := q2 [.bor (pd p6), .dat (.int n), .dat (.lst (wordsL.map .str)), .dat (.int t), .dat (.int s), .dat (.str abc), .dat (.str z), .dat (.int x), .own (.L f), .dat (.int (k : Int)), .dat (.str ⟨#[c]⟩)]
      refine wp_seq (wp_eq (a := .nx) (e := [.bor (pd p6), .dat (.int n), .dat (.lst (wordsL.map .str)), .dat (.int t), .dat (.int s), .dat (.str abc), .dat (.str z), .dat (.int x), .own (.L (f ++ [.str y])), .dat (.int (k : Int)), .dat (.str ⟨#[c]⟩)]) (by walk_at "evc") ?_)
      exact wp_nx.mpr ⟨rfl, some _, rfl⟩
    refine wp_seq (wp_for (fun i e => ∃ (ys : List Str) (o9 o10 : Option D), ys.length = i ∧ (∀ (j : Nat) y, ys[j]? = some y → Nm y ∧ y.cps.toList[x]? = abc.cps.toList[(2 * t + s * j) % 26]?) ∧ e = [.bor (pd p6), .dat (.int n), .dat (.lst (wordsL.map .str)), .dat (.int t), .dat (.int s), .dat (.str abc), .dat (.str z), .dat (.int x), .own (.L (ys.map .str)), fr o9, fr o10]) _ _ (r1_ok (nm1 rfl) (by omega)) ⟨[], none, none, rfl, fun j y hy => by simp at hy, rfl⟩ ?_ ?_)
    · rintro i d e hd ⟨ys, o9, o10, hl, hy, rfl⟩
      rw [List.getElem?_map] at hd
      obtain ⟨k, hk, rfl⟩ := Option.map_eq_some_iff.mp hd
      have hin : i < n := by have := (List.getElem?_eq_some_iff.mp hk).1; simpa using this
      have hki : k = i := by rw [List.getElem?_range hin] at hk; cases hk; rfl
      subst hki
      obtain ⟨y, y1, y2, y3⟩ := so k (by omega)
      refine ⟨[.bor (pd p6), .dat (.int n), .dat (.lst (wordsL.map .str)), .dat (.int t), .dat (.int s), .dat (.str abc), .dat (.str z), .dat (.int x), .own (.L (ys.map .str)), .dat (.int (k : Int)), fr o10], setD_fr (o := o9) rfl, by cases o9 <;> cases o10 <;> rfl, ?_⟩
      refine (y3 (ys.map .str) o10 (by rw [List.length_map]; have : (1000 : Nat) < sizeLine := by decide
                                       omega)).mono ?_
      rintro fl e ⟨rfl, o, rfl⟩
      refine ⟨rfl, ys ++ [y], some _, o, by simp [hl], fun j y' hj => ?_, by rw [List.map_append]; rfl⟩
      by_cases hj2 : j < ys.length
      · rw [List.getElem?_append_left hj2] at hj
        exact hy j y' hj
      · rw [List.getElem?_append_right (by omega)] at hj
        have : j - ys.length = 0 := by have := (List.getElem?_eq_some_iff.mp hj).1; simp at this; omega
        rw [this] at hj
        simp at hj
        subst hj
        have : j = k := by omega
        subst this
        exact ⟨y1, y2⟩
    · rintro e' ⟨ys, o9, o10, hl, hy, rfl⟩
      rw [List.length_map, List.length_range] at hl
      have nd : ys.Nodup := by
        rw [List.nodup_iff_pairwise_ne, List.pairwise_iff_getElem]
        intro i j hi hj lt e
        have a := (hy i ys[i] (by simp [hi])).2
        have b := (hy j ys[j] (by simp [hj])).2
        rw [e] at a
        have li : (2 * t + s * i) % 26 < abc.cps.toList.length := by rw [abc_len]; omega
        have := (List.getElem?_inj li abc_nd).mp (a.symm.trans b)
        rcases hs with rfl | rfl | rfl | rfl <;> omega
      refine wp_seq (wp_eq (a := .rt (.tup ((srt ltS ys).map .str))) (e := [.bor (pd p6), .dat (.int n), .dat (.lst (wordsL.map .str)), .dat (.int t), .dat (.int s), .dat (.str abc), .dat (.str z), .dat (.int x), .dat (.lst (ys.map .str)), fr o9, fr o10]) (ret1 (callo (f := tupleF) (held_ok (sort_S (consA1 (nmO (o := .L (ys.map .str)) rfl)))) rfl)) ?_)
      refine ⟨_, p6, hp6.mono (by omega), bl_srt nd (fun q m => ?_) (by omega) (by omega), by rw [srt_len, hl], rfl, rfl⟩
      obtain ⟨j, hj⟩ := List.getElem?_of_mem m
      exact (hy j q hj).1
theorem links_ok {K : Nat} {l : List Str} {p : Int × Int × Int} (hp : PO K p) (hK : K ≤ 900000) (h : Bl l) : ∃ (w : List (Str × Str)) (p' : Int × Int × Int), PO (K + 200) p' ∧ Wk l w ∧ f_law_links [.bor (pd p), .dat (.tup (l.map .str))] = .ok (.tup (w.map dP)) [.bor (pd p'), .dat (.tup (l.map .str))] := by
  suffices h : Wp (f_law_links [.bor (pd p), .dat (.tup (l.map .str))]) fun d svs => ∃ w p', PO (K + 200) p' ∧ Wk l w ∧ d = .tup (w.map dP) ∧ svs = [.bor (pd p'), .dat (.tup (l.map .str))] by
    obtain ⟨d, svs, e, w, p', q1, q2, rfl, rfl⟩ := h
    exact ⟨w, p', q1, q2, e⟩
  refine fn_wp ?_
  unfold b_law_links
  have l12 := h.hi
  have l1 := h.lo
  have sq : l.length * l.length ≤ 12 * 12 := Nat.mul_le_mul l12 l12
  obtain ⟨kd, p1, hp1, kd1, c1⟩ := callN (e := [.bor (pd p), .dat (.tup (l.map .str)), .un, .un, .un, .un, .un, .un, .un]) (i := 0) (u := 9) rfl hp (by omega) cn1 (by decide) (by decide)
  let E : Int × Int × Int → List (Str × Str) → SV → SV → SV → SV → SV → Env := fun q acc x4 x5 x6 x7 x8 => [.bor (pd q), .dat (.tup (l.map .str)), .dat (.int kd), .own (.L (acc.map dP)), x4, x5, x6, x7, x8]
  refine wp_seq (wp_eq (a := .nx) (e := E p1 [] (fr none) (fr none) (fr none) (fr none) (fr none)) (par1 (mD c1 (mF (newL1 (lst1 nA (Nat.zero_le _))) mN)) rfl) ?_)
  obtain ⟨g, g1, g2, cg⟩ := ratio_ok kd1
  refine wp_seq (wp_for (fun i e => ∃ q acc o4 o5 o6 o7 o8, e = E q acc (fr o4) (fr o5) (fr o6) (fr o7) (fr o8) ∧ PO (K + 1 + i * l.length) q ∧ LI l i 0 acc) _ _ (r1_ok (callo (nm1 rfl) (len_tm _ _)) (by omega)) ⟨p1, [], none, none, none, none, none, rfl, by rw [Nat.zero_mul]; exact hp1, List.Pairwise.nil, Nat.zero_le _, fun p m => by simp at m⟩ ?_ ?_)
  · rintro i d e hd ⟨q, acc, o4, o5, o6, o7, o8, rfl, hq, hi⟩
    rw [List.getElem?_map] at hd
    obtain ⟨i', hi', rfl⟩ := Option.map_eq_some_iff.mp hd
    have hil : i < l.length := by have := (List.getElem?_eq_some_iff.mp hi').1; simpa using this
    have : i' = i := by rw [List.getElem?_range hil] at hi'; cases hi'; rfl
    subst this
    obtain ⟨a, hs⟩ : ∃ a, l[i']? = some a := ⟨_, List.getElem?_eq_getElem hil⟩
    refine ⟨E q acc (.dat (.int i')) (fr o5) (fr o6) (fr o7) (fr o8), setD_fr (o := o4) rfl, by cases o4 <;> cases o5 <;> cases o6 <;> cases o7 <;> cases o8 <;> rfl, ?_⟩
    refine wp_seq (wp_for (fun j e => ∃ q acc o5 o6 o7 o8, e = E q acc (.dat (.int i')) (fr o5) (fr o6) (fr o7) (fr o8) ∧ PO (K + 1 + i' * l.length + j) q ∧ LI l i' j acc) _ _ (r1_ok (callo (nm1 rfl) (len_tm _ _)) (by omega)) ⟨q, acc, o5, o6, o7, o8, rfl, hq, hi⟩ ?_ ?_)
    · rintro j d e hd ⟨q, acc, o5, o6, o7, o8, rfl, hq, hi⟩
      rw [List.getElem?_map] at hd
      obtain ⟨j', hj', rfl⟩ := Option.map_eq_some_iff.mp hd
      have hjl : j < l.length := by have := (List.getElem?_eq_some_iff.mp hj').1; simpa using this
      have : j' = j := by rw [List.getElem?_range hjl] at hj'; cases hj'; rfl
      subst this
      obtain ⟨b, hj⟩ : ∃ b, l[j']? = some b := ⟨_, List.getElem?_eq_getElem hjl⟩
      have il : i' * l.length ≤ 12 * 12 := Nat.mul_le_mul (by omega) l12
      refine ⟨E q acc (.dat (.int i')) (.dat (.int j')) (fr o6) (fr o7) (fr o8), setD_fr (o := o5) rfl, by cases o5 <;> cases o6 <;> cases o7 <;> cases o8 <;> rfl, ?_⟩
      have rat : bin2 (pur2 ixF) (heldD (lstF (consA (constD (.int 3)) (consA (constD (.int 2)) (consA (constD (.int 6)) (consA (constD (.int 4)) (consA (constD (.int 2)) (consA (constD (.int 5)) (consA (constD (.int 1)) (consA (constD (.int 3)) (consA (constD (.int 4)) nilA))))))))))) (nameD 2) (E q acc (.dat (.int i')) (.dat (.int j')) (fr o6) (fr o7) (fr o8)) = .ok (.int (g : Int)) (E q acc (.dat (.int i')) (.dat (.int j')) (fr o6) (fr o7) (fr o8)) := bin1 (held_ok (lst1 (consA2 cn1 (consA2 cn1 (consA2 cn1 (consA2 cn1 (consA2 cn1 (consA2 cn1 (consA2 cn1 (consA2 cn1 (consA2 cn1 nA))))))))) (show 9 ≤ sizeLine by decide))) (nm1 rfl) cg
      obtain ⟨r, q', hq', _, cr⟩ := callN (e := E q acc (.dat (.int i')) (.dat (.int j')) (fr o6) (fr o7) (fr o8)) (i := 0) (u := g) rfl hq (by omega) rat g1 (by omega)
      obtain ⟨lot, e1⟩ : ∃ lot : Bool, eqF false (.int (r : Int)) (.int 0) = some (.bl lot) := ⟨_, eqF_int false _ _⟩
      obtain ⟨nb, e2⟩ : ∃ nb : Bool, bin2 (pur2 (eqF false)) (bin2 (pur2 modF) (bin2 (pur2 addF) (nameD 4) (constD (.int 1))) (callD (one lenF) (consA (nameD 1) nilA))) (nameD 5) (E q' acc (.dat (.int i')) (.dat (.int j')) (fr o6) (fr o7) (fr o8)) = .ok (.bl nb) (E q' acc (.dat (.int i')) (.dat (.int j')) (fr o6) (fr o7) (fr o8)) := ⟨_, bin1 (bin1 (bin1 (nm1 rfl) cn1 rfl) (callo (nm1 rfl) (len_tm _ _)) (mod_int (by omega))) (nm1 rfl) (eqF_int false _ _)⟩
      refine wp_seq (wp_eq (a := .nx) (e := E q' acc (.dat (.int i')) (.dat (.int j')) (.dat (.bl lot)) (.dat (.bl nb)) (fr o8)) (par1 (mD (bin1 cr cn1 e1) (mD e2 mN)) (by cases o6 <;> cases o7 <;> rfl)) ?_)
      let F : SV → Env := fun x8 => E q' acc (.dat (.int i')) (.dat (.int j')) (.dat (.bl lot)) (.dat (.bl nb)) x8
      obtain ⟨b3, e3⟩ : ∃ b : Bool, orD (nameD 6) (nameD 7) (F (fr o8)) = .ok (.bl b) (F (fr o8)) := by
        cases lot with
        | true => exact ⟨true, orD1 (nm1 rfl)⟩
        | false => exact ⟨nb, orD2 (nm1 rfl) (nm1 rfl)⟩
      obtain ⟨b4, e4⟩ : ∃ b : Bool, andD (nameD 6) (bin2 (pur2 ltF) (nameD 4) (nameD 5)) (F (fr o8)) = .ok (.bl b) (F (fr o8)) := andD_ex ⟨_, nm1 rfl⟩ ⟨_, bin1 (nm1 rfl) (nm1 rfl) rfl⟩
      obtain ⟨sm, es⟩ : ∃ b : Bool, bin2 (pur2 (eqF false)) (nameD 4) (nameD 5) (F (fr o8)) = .ok (.bl b) (F (fr o8)) := ⟨_, bin1 (nm1 rfl) (nm1 rfl) (eqF_int false _ _)⟩
      obtain ⟨b5, e5⟩ : ∃ b : Bool, orD (nameD 6) (bin2 (pur2 (eqF false)) (nameD 4) (nameD 5)) (F (fr o8)) = .ok (.bl b) (F (fr o8)) := by
        cases lot with
        | true => exact ⟨true, orD1 (nm1 rfl)⟩
        | false => exact ⟨sm, orD2 (nm1 rfl) es⟩
      let k1 : List Bool := [lot, lot, b3, nb, b4, b5]
      refine wp_seq (wp_eq (a := .nx) (e := F (.dat (.lst (k1.map .bl)))) (asg1 (held_ok (lst1 (consA2 (nm1 rfl) (consA2 (nm1 rfl) (consA2 e3 (consA2 (nm1 rfl) (consA2 e4 (consA2 e5 nA)))))) (show 6 ≤ sizeLine by decide))) (setD_fr (o := o8) rfl) (by cases o8 <;> rfl)) ?_)
      obtain ⟨b6, e6⟩ : ∃ b : Bool, bin2 (pur2 (eqF true)) (nameD 4) (nameD 5) (F (.dat (.lst (k1.map .bl)))) = .ok (.bl b) (F (.dat (.lst (k1.map .bl)))) := ⟨_, bin1 (nm1 rfl) (nm1 rfl) (eqF_int true _ _)⟩
      obtain ⟨b7, e7⟩ : ∃ b : Bool, orD (nameD 7) (andD (nameD 6) (bin2 (pur2 (eqF false)) (nameD 4) (nameD 5))) (F (.dat (.lst (k1.map .bl)))) = .ok (.bl b) (F (.dat (.lst (k1.map .bl)))) := by
        obtain ⟨z, ez⟩ : ∃ b : Bool, andD (nameD 6) (bin2 (pur2 (eqF false)) (nameD 4) (nameD 5)) (F (.dat (.lst (k1.map .bl)))) = .ok (.bl b) (F (.dat (.lst (k1.map .bl)))) := andD_ex ⟨_, nm1 rfl⟩ ⟨_, bin1 (nm1 rfl) (nm1 rfl) (eqF_int false _ _)⟩
        cases nb with
        | true => exact ⟨true, orD1 (nm1 rfl)⟩
        | false => exact ⟨z, orD2 (nm1 rfl) ez⟩
      let k2 : List Bool := k1 ++ [b6, b7, false]
      have ad : addF (.lst (k1.map .bl)) (.lst [.bl b6, .bl b7, .bl false]) = some (.lst (k2.map .bl)) := by
        show (if (k1.map D.bl).length + [D.bl b6, D.bl b7, D.bl false].length ≤ sizeLine then some (D.lst (k1.map D.bl ++ [D.bl b6, D.bl b7, D.bl false])) else none) = _
        rw [if_pos (show (k1.map D.bl).length + [D.bl b6, D.bl b7, D.bl false].length ≤ sizeLine from (show 9 ≤ sizeLine by decide))]
        rfl
      refine wp_seq (wp_eq (a := .nx) (e := F (.dat (.lst (k2.map .bl)))) (asg1 (bin1 (nm1 rfl) (held_ok (lst1 (consA2 e6 (consA2 e7 (consA2 cn1 nA))) (show 3 ≤ sizeLine by decide))) ad) rfl rfl) ?_)
      have h9 : kd < k2.length := kd1
      have hz : (acc.map dP).length < sizeLine := by
        rw [List.length_map]
        have h1 := hi.len
        have : (1000 : Nat) ≤ sizeLine := by decide
        omega
      have cb : valT (bin2 (pur2 ixA) (nameD 8) (nameD 2)) (F (.dat (.lst (k2.map .bl)))) = .ok k2[kd] (F (.dat (.lst (k2.map .bl)))) := val1 (bin1 (nm1 rfl) (nm1 rfl) ((ix_lst (by rw [List.getElem?_map, List.getElem?_eq_getElem h9]; rfl) : ixF (.lst (k2.map .bl)) (.int (kd : Int)) = _)))
      generalize k2[kd] = bb at cb
      cases bb with
      | false => exact wp_seq (wp_eq (ifSf cb nx1) (wp_nx.mpr ⟨rfl, q', acc, some _, some _, some _, some _, rfl, hq'.mono (by omega), hi.skip⟩))
      | true =>
        have x1 : ixA (.tup (l.map .str)) (.int (i' : Int)) = some (.str a) := (ix_tup (by rw [List.getElem?_map, hs]; rfl) : ixF (.tup (l.map .str)) (.int (i' : Int)) = _)
        have x2 : ixA (.tup (l.map .str)) (.int (j' : Int)) = some (.str b) := (ix_tup (by rw [List.getElem?_map, hj]; rfl) : ixF (.tup (l.map .str)) (.int (j' : Int)) = _)
        refine wp_seq (wp_eq (ifSt cb (seqS1 (e1 := E q' (acc ++ [(a, b)]) (.dat (.int i')) (.dat (.int j')) (.dat (.bl lot)) (.dat (.bl nb)) (.dat (.lst (k2.map .bl)))) (app1 (d := dP (a, b)) rfl (tup1 (consA2 (bin1 (nm1 rfl) (nm1 rfl) x1) (consA2 (bin1 (nm1 rfl) (nm1 rfl) x2) nA)) (show 2 ≤ sizeLine by decide)) rfl hz (by simp only [E]; rw [show (acc ++ [(a, b)]).map dP = acc.map dP ++ [dP (a, b)] from List.map_append]; rfl)) nx1)) ?_)
        exact wp_nx.mpr ⟨rfl, q', acc ++ [(a, b)], some _, some _, some _, some _, rfl, hq'.mono (by omega), hi.add h.ri hs hj⟩
    · rintro e' ⟨q, acc, o5, o6, o7, o8, rfl, hq, hi⟩
      rw [List.length_map, List.length_range] at hi hq
      exact wp_nx.mpr ⟨rfl, q, acc, some _, o5, o6, o7, o8, rfl, by rw [Nat.add_mul]; exact hq.mono (by omega), hi.turn⟩
  · rintro e' ⟨q, acc, o4, o5, o6, o7, o8, rfl, hq, hi⟩
    rw [List.length_map, List.length_range] at hi hq
    refine wp_seq (wp_eq (a := .rt (.tup (acc.map dP))) (e := [.bor (pd q), .dat (.tup (l.map .str)), .dat (.int kd), .dat (.lst (acc.map dP)), fr o4, fr o5, fr o6, fr o7, fr o8]) (ret1 (callo (f := tupleF) (nmO (o := .L (acc.map dP)) rfl) rfl)) ?_)
    refine ⟨acc, q, hq.mono (by omega), ⟨fun p m => ?_, hi.ri, ?_⟩, rfl, rfl⟩
    · obtain ⟨a, b, _, r1, r2⟩ := hi.mem p m
      exact ⟨List.mem_of_getElem? r1, List.mem_of_getElem? r2⟩
    · have := hi.len
      omega
end DL.K57
namespace DL
open PySem L2
theorem addT {a b : List D} (h : a.length + b.length ≤ sizeLine) : addF (.tup a) (.tup b) = some (.tup (a ++ b)) := if_pos h
theorem addL {a b : List D} (h : a.length + b.length ≤ sizeLine) : addF (.lst a) (.lst b) = some (.lst (a ++ b)) := if_pos h
end DL
namespace DL.K08
open PySem L2 K04 K14
noncomputable def hrd (w : List (Str × Str)) (S : Str → Bool) (r : List Str) : List Str := ((r.zip (marksOf w S r)).filter (·.2)).map (·.1)
section
variable {l r s : List Str} {w : List (Str × Str)} {d : D}
/-- the three answers -/
noncomputable def toldL (l : List Str) (w : List (Str × Str)) (S : Str → Bool) (r : List Str) : List D := [.tup ((marksOf w S r).map .bl), .tup ((hrd w S r).map .str), .tup ((l.filter (endOf w S r)).map .str)]
end
end DL.K08
namespace DL.K13
open PySem L2 K14 K08
open K04 hiding pd PO
section
variable {l r : List Str} {w : List (Str × Str)} {S F : Str → Bool}
/-- looked for from behind: a like one ahead of any waker -/
noncomputable def scan (ws : List Str) (a : Str) : List Str → Bool
  | [] => false
  | x :: xs => if x = a then true else if x ∈ ws then false else scan ws a xs
noncomputable def mb (w : List (Str × Str)) (r : List Str) (n : Nat) : Bool := match r[n]? with
  | none => false
  | some a => if a ∈ wak w a then false else scan (wak w a) a (r.take n).reverse
end
section
variable {l r : List Str} {w : List (Str × Str)}
theorem whole_ok (k : Int) : f_is_whole [.dat (.int k)] = .ok (.bl true) [.dat (.int k)] := by
  have h1 : isiD (kbTy "int") (fun _ => none) (nameD 0) [.dat (.int k)] = .ok (.bl true) [.dat (.int k)] := rfl
  have h2 : isiD (kbTy "bool") (fun _ => none) (nameD 0) [.dat (.int k)] = .ok (.bl false) [.dat (.int k)] := rfl
  exact fn1 (n := 1) (tot := 1) (svs := [.dat (.int k)]) (seqSr (ret1 (andD2 h1 (notD1 h2))))
end
end DL.K13
namespace DL.K57
open PySem L2 K14 K08 K13
open K04 hiding pd PO
/-- of so many pulls, so many of which ring -/
noncomputable def wy (a : Nat → Nat) : Nat → Nat → Nat
  | 0, 0 => 1
  | 0, _ + 1 => 0
  | T + 1, 0 => wy a T 0 * a 0
  | T + 1, k + 1 => wy a T (k + 1) * a (k + 1) + wy a T k
noncomputable def hin (f : Nat → Nat) (c : Nat) : Nat → Nat
  | 0 => 1
  | d + 1 => f (d + 1) + c * hin f c d
noncomputable def one0 : Nat → Nat
  | 0 => 1
  | _ + 1 => 0
noncomputable def hh (a : Nat → Nat) : Nat → Nat → Nat
  | 0 => one0
  | k + 1 => hin (hh a k) (a k)
/-- how many are dumb behind so many of a row -/
noncomputable def wgt (l : List Str) (w : List (Str × Str)) (S : Str → Bool) (r : List Str) (k : Nat) : Nat := l.length - (l.filter (endOf w S (r.take k))).length
end DL.K57
namespace DL.K13
open PySem L2 K14 K08
open K04 hiding pd PO
end DL.K13
namespace DL.K13
open PySem L2 K14 K08
open K04 hiding pd PO
end DL.K13
namespace DL
open PySem L2
end DL
namespace DL.K25
open PySem L2 K14 K08 K13
open K04 hiding pd PO
section
variable {l : List Str} {w : List (Str × Str)} {S : Str → Bool} {W : Str → Nat} {c : List Str}
/-- what is come to over such as are wished -/
inductive Rch (l : List Str) (w : List (Str × Str)) (S : Str → Bool) (W : Str → Nat) : Str → Prop where
  | base {a : Str} (h : a ∈ l) (hs : S a = true) (hw : 0 < W a) : Rch l w S W a
  | step {a b : Str} (h : Rch l w S W a) (hp : (a, b) ∈ w) (hw : 0 < W b) : Rch l w S W b
theorem Rch.mem (hw : Wk l w) {a : Str} (h : Rch l w S W a) : a ∈ l := by
  cases h with
  | base h _ _ => exact h
  | step _ hp _ => exact (hw.mem _ hp).2
theorem Rch.pos {a : Str} (h : Rch l w S W a) : 0 < W a := by
  cases h with
  | base _ _ h => exact h
  | step _ _ h => exact h
structure Come (l : List Str) (w : List (Str × Str)) (S : Str → Bool) (W : Str → Nat) (c : List Str) : Prop where
  nd : c.Nodup
  so : ∀ x ∈ c, Rch l w S W x
  ba : ∀ a ∈ l, S a = true → 0 < W a → a ∈ c
theorem Come.sub (hw : Wk l w) (h : Come l w S W c) : ∀ x ∈ c, x ∈ l := fun x m => (h.so x m).mem hw
noncomputable def Clo (w : List (Str × Str)) (W : Str → Nat) (c : List Str) : Prop := ∀ a b, (a, b) ∈ w → a ∈ c → 0 < W b → b ∈ c
theorem Come.iff (h : Come l w S W c) (k : Clo w W c) (x : Str) : x ∈ c ↔ Rch l w S W x := by
  constructor
  · exact h.so x
  · intro r
    induction r with
    | base h1 h2 h3 => exact h.ba _ h1 h2 h3
    | step _ hp hw ih => exact k _ _ hp ih hw
noncomputable def cm (l : List Str) (w : List (Str × Str)) (S : Str → Bool) (W : Str → Nat) (x : Str) : Bool := @decide (Rch l w S W x) (Classical.propDecidable _)
theorem Come.fn (h : Come l w S W c) (k : Clo w W c) (x : Str) : decide (x ∈ c) = cm l w S W x := by
  unfold cm
  by_cases hx : x ∈ c
  · rw [decide_eq_true hx, @decide_eq_true _ (Classical.propDecidable _) ((h.iff k x).mp hx)]
  · rw [decide_eq_false hx, @decide_eq_false _ (Classical.propDecidable _) fun z => hx ((h.iff k x).mpr z)]
end
end DL.K25
namespace DL.K25
open PySem L2 K14 K08 K13
open K04 hiding pd PO
noncomputable abbrev big : Nat := 1000000000000000000000000000000
section
variable {l s : List Str} {w : List (Str × Str)} {S : Str → Bool} {W : Str → Nat} {c : List Str}
theorem leA_nat (a b : Nat) : leA (.int (a : Int)) (.int (b : Int)) = some (.bl (decide (a ≤ b))) := by
  show some (D.bl (decide ((a : Int) ≤ (b : Int)))) = _
  congr 2
  exact decide_eq_decide.mpr (by omega)
theorem within_ok {v : Nat} (hv : v ≤ big) : f_is_within [.dat (.int (v : Int)), .dat (.int 0), .dat (.int 1000000000000000000000000000000)] = .ok (.bl true) [.dat (.int (v : Int)), .dat (.int 0), .dat (.int 1000000000000000000000000000000)] := by
  have c1 := whole_ok (v : Int)
  have l1 : leA (.int 0) (.int (v : Int)) = some (.bl true) := (leA_nat 0 v).trans (by simp)
  have l2 : leA (.int (v : Int)) (.int 1000000000000000000000000000000) = some (.bl true) := (leA_nat v big).trans (by rw [decide_eq_true hv])
  refine Wp.out (fn_wp ?_)
  unfold b_is_within
  exact wp_seq (wp_eq (a := .rt (.bl true)) (ret1 (andD2 (callS1 (cRd (nm1 rfl) nR) nR (fnC2 c1 rfl rfl)) (chain2 (nm1 rfl) (nm1 rfl) l1 (nm1 rfl) l2))) ⟨rfl, rfl⟩)
end
end DL.K25
namespace DL.K04
open PySem L2
end DL.K04
namespace DL.K04
open PySem L2
end DL.K04
namespace DL.K04
open PySem L2
end DL.K04
namespace DL.K05
open PySem L2
noncomputable def b_Web_str : Env → Out Fl := (seqS (asgOS 1 (lstF nilA))
  (seqS (forS (itA (fldD ("Web" : Str) ("bells" : Str) (nameD 0))) (setD 2) [2] (seqS (asgS (methS ("Web" : Str) ("woken" : Str) K04.f_Web_woken [] (nameD 0) (consRd (nameD 2) nilR)) (setD 3) [3])
  (seqS (appS 1 (ifD (valT (bin2 (pur2 (eqF true)) (nameD 3) (tupD nilA))) (joinD (constD (.str (" " : Str))) (bin2 (pur2 addF) (heldD (lstF (consA (nameD 2) (consA (constD (.str (">" : Str))) nilA)))) (heldD (listF (consA (nameD 3) nilA))))) (nameD 2)))
  nextS)))
  (seqS (retS (joinD (constD (.str ("\n" : Str))) (nameD 1)))
  nextS)))
noncomputable def f_Web_str : List SV → Out D := fnOf 1 4 b_Web_str
noncomputable def b_law_text : Env → Out Fl := (seqS (asgOS 2 (lstF nilA))
  (seqS (forS (itA (nameD 0)) (setD 3) [3] (seqS (asgS (heldD (compF [5] (itA (nameD 1)) (setD 5) (valT (bin2 (pur2 (eqF false)) (bin2 (pur2 ixF) (nameD 5) (constD (.int 0))) (nameD 3))) (bin2 (pur2 ixF) (nameD 5) (constD (.int 1))))) (setD 4) [4])
  (seqS (appS 2 (joinD (constD (.str (" " : Str))) (bin2 (pur2 addF) (bin2 (pur2 addF) (heldD (lstF (consA (nameD 3) nilA))) (bin2 (pur2 mulA) (heldD (lstF (consA (constD (.str (">" : Str))) nilA))) (callD (one int1F) (consA (bin2 (pur2 (eqF true)) (nameD 4) (heldD (lstF nilA))) nilA)))) (nameD 4))))
  nextS)))
  (seqS (retS (joinD (constD (.str ("\n" : Str))) (nameD 2)))
  nextS)))
noncomputable def f_law_text : List SV → Out D := fnOf 2 6 b_law_text
noncomputable def b_read_row : Env → Out Fl := (seqS (asgS (splitD (nameD 0) (constD (.str (" " : Str)))) (setD 1) [1])
  (seqS (parT [2, 3] (consMd (bin2 (pur2 ixF) (nameD 1) (constD (.int 0))) (consMd (cutA (nameD 1) (someO (constD (.int 2))) noO) nilM)))
  (seqS (ifS (andT (valT (bin2 (pur2 gtF) (callD (one lenF) (consA (nameD 1) nilA)) (constD (.int 1)))) (orT (valT (bin2 (pur2 (eqF true)) (bin2 (pur2 ixF) (nameD 1) (constD (.int 1))) (constD (.str (">" : Str))))) (valT (bin2 (pur2 (eqF false)) (nameD 3) (heldD (lstF nilA)))))) (seqS (retS (constD .non))
  nextS) nextS)
  (seqS (ifS (notT (valT (callD (one allF) (consA (heldD (compF [4] (itA (bin2 (pur2 addF) (heldD (lstF (consA (nameD 2) nilA))) (nameD 3))) (setD 4) yesT (callS (fnCall K04.f_is_name) (posA []) (consRd (nameD 4) nilR) nilR))) nilA)))) (seqS (retS (constD .non))
  nextS) nextS)
  (seqS (ifS (notT (valT (callD (one allF) (consA (heldD (compF [5] (itR1 (consA (bin2 (pur2 subF) (callD (one lenF) (consA (nameD 3) nilA)) (constD (.int 1))) nilA)) (setD 5) yesT (bin2 (pur2 ltF) (bin2 (pur2 ixA) (nameD 3) (nameD 5)) (bin2 (pur2 ixF) (nameD 3) (bin2 (pur2 addF) (nameD 5) (constD (.int 1))))))) nilA)))) (seqS (retS (constD .non))
  nextS) nextS)
  (seqS (retS (tupD (consA (nameD 2) (consA (nameD 3) nilA))))
  nextS))))))
noncomputable def f_read_row : List SV → Out D := fnOf 1 6 b_read_row
noncomputable def b_read_web : Env → Out Fl := (seqS (ifS (notT (valT (isiD (kbTy "str") (fun _ => none) (nameD 0)))) (seqS neverS
  nextS) nextS)
  (seqS (parT [1, 2] (consMf (newL (lstF nilA)) (consMf (newL (lstF nilA)) nilM)))
  (seqS (asgS (splitD (nameD 0) (constD (.str ("\n" : Str)))) (setD 3) [3])
  (seqS (forS (itEA (consA (nameD 3) nilA)) (setTup 2 (setCons (setD 4) (setCons (setD 5) setNil))) ([4] ++ ([5] ++ [])) (seqS (asgS (callS (fnCall K05.f_read_row) (posA []) (consRd (nameD 5) nilR) nilR) (setD 6) [6])
  (seqS (ifS (orT (valT (bin2 (pur2 (isF false)) (nameD 6) (constD .non))) (orT (valT (bin2 (pur2 geF) (nameD 4) (constD (.int 12)))) (andT (valT (ownNil true 1)) (valT (bin2 (pur2 leA) (bin2 (pur2 ixF) (nameD 6) (constD (.int 0))) (ownIx 1 (un1 (pur1 negF) (constD (.int 1))))))))) (seqS neverS
  nextS) nextS)
  (seqS (appS 1 (bin2 (pur2 ixF) (nameD 6) (constD (.int 0))))
  (seqS (extS 2 (heldD (compF [7] (itA (bin2 (pur2 ixF) (nameD 6) (constD (.int 1)))) (setD 7) yesT (tupD (consA (bin2 (pur2 ixF) (nameD 6) (constD (.int 0))) (consA (nameD 7) nilA))))))
  nextS)))))
  (seqS (ifS (notT (valT (callD (one allF) (consA (heldD (compF [8, 7] (itA (nameD 2)) (setTup 2 (setCons (setD 8) (setCons (setD 7) setNil))) yesT (ownIn false 1 (nameD 7)))) nilA)))) (seqS neverS
  nextS) nextS)
  (seqS (retS (callS (mkCall ("Web" : Str) K04.f_Web_init) kwA (consRd (callD (one tupleF) (consA (nameD 1) nilA)) nilR) (consRd (callD (one tupleF) (consA (nameD 2) nilA)) nilR)))
  nextS))))))
noncomputable def f_read_web : List SV → Out D := fnOf 1 9 b_read_web
noncomputable def b_law_read_right : Env → Out Fl := (seqS (parS [2, 3] (consMd (callS (fnCall K05.f_law_text) (posA []) (consRd (nameD 0) (consRd (nameD 1) nilR)) nilR) (consMd (callS (fnCall K04.f_law_web) (posA []) (consRd (nameD 0) (consRd (nameD 1) nilR)) nilR) nilM)))
  (seqS (forS (itA (heldD (lstF (consA (callS (fnCall K05.f_read_web) (posA []) (consRd (nameD 2) nilR) nilR) (consA (callS (fnCall K05.f_read_web) (layL (.d .non) (.d .non) [some 0]) nilR (consRd (nameD 2) nilR)) (consA (callS (fnCall K05.f_read_web) (posA []) (consRd (strO ("Web" : Str) K05.f_Web_str (consA (nameD 3) nilA)) nilR) nilR) (consA (callS (fnCall K05.f_read_web) (posA []) (consRd (nameD 2) nilR) nilR) nilA))))))) (setD 4) [4] (seqS (ifS (orT (notT (valT (isiD (fun _ => none) (fun n => if n = ("Web" : Str) then some true else none) (nameD 4)))) (valT (bin2 (pur2 (eqF true)) (callD (one reprF) (consA (tupD (consA (fldD ("Web" : Str) ("bells" : Str) (nameD 4)) (consA (fldD ("Web" : Str) ("wakes" : Str) (nameD 4)) nilA))) nilA)) (callD (one reprF) (consA (tupD (consA (callD (one tupleF) (consA (nameD 0) nilA)) (consA (callD (one tupleF) (consA (nameD 1) nilA)) nilA))) nilA))))) (seqS (retS (constD (.bl false)))
  nextS) nextS)
  (seqS (ifS (orT (valT (bin2 (pur2 (eqF true)) (strO ("Web" : Str) K05.f_Web_str (consA (nameD 4) nilA)) (nameD 2))) (orT (notT (valT (bin2 (eqA ("Web" : Str) K04.f_Web_eq false) (nameD 4) (nameD 3)))) (valT (bin2 (eqA ("Web" : Str) K04.f_Web_eq true) (nameD 4) (nameD 3))))) (seqS (retS (constD (.bl false)))
  nextS) nextS)
  nextS)))
  (seqS (retS (bin2 (pur2 (eqF false)) (strO ("Web" : Str) K05.f_Web_str (consA (nameD 3) nilA)) (nameD 2)))
  nextS)))
noncomputable def f_law_read_right : List SV → Out D := fnOf 2 5 b_law_read_right
noncomputable def b_law_right : Env → Out Fl := (seqS (asgS (callS (fnCall K04.f_law_calls) (posA []) (consRr 0 (consRd (callS (fnCall K04.f_law_size) (posA []) (consRr 0 (consRd (constD (.int 7)) nilR)) nilR) nilR)) nilR) (setD 1) [1])
  (seqS (asgS (callS (fnCall K04.f_law_links) (posA []) (consRr 0 (consRd (nameD 1) nilR)) nilR) (setD 2) [2])
  (seqS (ifS (notT (valT (callS (fnCall K05.f_law_read_right) (posA []) (consRd (nameD 1) (consRd (nameD 2) nilR)) nilR))) (seqS (retS (constD (.bl false)))
  nextS) nextS)
  (seqS (asgS (heldD (compF [4] (itA (nameD 1)) (setD 4) (valT (bin2 (pur2 gtF) (callS (fnCall K04.f_law_take) (posA []) (consRr 0 (consRd (constD (.int 3)) nilR)) nilR) (constD (.int 0)))) (nameD 4))) (setD 3) [3])
  (seqS (ifS (valT (bin2 (pur2 (eqF false)) (nameD 3) (heldD (lstF nilA)))) (seqS (asgS (cutA (nameD 1) (someO (un1 (pur1 negF) (constD (.int 1)))) noO) (setD 3) [3])
  nextS) nextS)
  (seqS (retS (callS (fnCall K05.f_law_read_right) (posA []) (consRd (nameD 3) (consRd (heldD (compF [5] (itA (nameD 2)) (setD 5) (andT (valT (bin2 (pur2 (inF false)) (bin2 (pur2 ixF) (nameD 5) (constD (.int 0))) (nameD 3))) (valT (bin2 (pur2 (inF false)) (bin2 (pur2 ixF) (nameD 5) (constD (.int 1))) (nameD 3)))) (nameD 5))) nilR)) nilR))
  nextS))))))
noncomputable def f_law_right : List SV → Out D := fnOf 1 6 b_law_right
noncomputable def b_law : Env → Out Fl := (seqS (retS (callD (one allF) (consA (heldD (compF [1] (itR1 (consA (callD max2F (consA (constD (.int 2)) (consA (callD min2F (consA (callD (one lenF) (consA (nameD 0) nilA)) (consA (constD (.int 8)) nilA))) nilA))) nilA)) (setD 1) yesT (callFS K05.f_law_right (newL (callLS K04.f_law_purse (consRd (nameD 0) (consRd (nameD 1) nilR)))) nilR))) nilA)))
  nextS)
noncomputable def f_law : List SV → Out D := fnOf 1 2 b_law
end DL.K05
namespace DL
open PySem L2
theorem ext1' {i : Nat} {ra : Env → Out D} {e e1 e2 : Env} {l0 l m : List D} (h0 : lstOf e[i]? = some l0) (h : ra e = .ok (.lst m) e1) (h2 : lstOf e1[i]? = some l) (hz : l.length + m.length ≤ sizeLine) (h3 : putOv i (.L (l ++ m)) e1 = some e2) : extS i ra e = .ok .nx e2 := by
  unfold extS
  rw [h0]
  dsimp only
  rw [h, bind_ok, h2]
  dsimp only
  rw [if_pos hz, h3]
end DL
namespace DL.K05
open PySem L2 K04
section
variable {l : List Str} {w : List (Str × Str)} {a : Str}
/-- a row, written: a new list of words joined -/
theorem big {ys : List Str} {s : Str} {k : Nat} (h : (ys.map (·.length)).sum + ys.length * s.length ≤ k) (hk : k ≤ 16777216) : (ys.map (·.length)).sum + ys.length * s.length ≤ 16777216 := Nat.le_trans h hk
theorem l1000 : (1000 : Nat) ≤ sizeLine := by decide
end
end DL.K05
namespace DL.K57
open PySem L2 K14 K08 K13
open K04 hiding pd PO
section
variable {l r s : List Str} {w : List (Str × Str)} {S : Str → Bool} {a : Str}
theorem sortSet1 {ra : Env → Out D} {x : D} {ys : List Str} (h : ra e = .ok x e1) (h2 : setTx x = some ys) : sortSetF ra e = .ok ((srt ltS ys).map .str) e1 := by
  unfold sortSetF
  rw [h, bind_ok, h2]
theorem pull_sub (hw : Wk l w) (hS : ∀ x, S x = true → x ∈ l) (a : Str) : ∀ x, pull w S a x = true → x ∈ l := fun x hx => endOf_sub hw (r := [a]) hS x hx
theorem mem_st (hS : ∀ x, S x = true → x ∈ l) (x : Str) : x ∈ l.filter S ↔ S x = true := by
  rw [List.mem_filter]
  exact ⟨fun h => h.2, fun h => ⟨hS x h, h⟩⟩
theorem step_ok (h : Bl l) (hw : Wk l w) (hS : ∀ x, S x = true → x ∈ l) (ha : SOk a) : f_law_step [.dat (.tup (w.map dP)), .dat (.tup ((l.filter S).map .str)), .dat (.str a)] = .ok (.tup ((l.filter (pull w S a)).map .str)) [.dat (.tup (w.map dP)), .dat (.tup ((l.filter S).map .str)), .dat (.str a)] := by
  refine Wp.out (fn_wp ?_)
  unfold b_law_step
  have hin : inF true (.str a) (.tup ((l.filter S).map .str)) = some (.bl (!decide (a ∈ l.filter S))) := inF_tS true a _
  have lz := List.length_filter_le S l
  have l12 := h.hi
  have lk := l1000
  by_cases hs : S a = true
  · have hm : a ∈ l.filter S := (mem_st hS a).mpr hs
    refine wp_seq (wp_eq (a := .nx) (e := [.dat (.tup (w.map dP)), .dat (.tup ((l.filter S).map .str)), .dat (.str a), .un, .un, .un]) (ifSf (val1 (bin1 (nm1 rfl) (nm1 rfl) (hin.trans (by rw [decide_eq_true hm]; rfl)))) nx1) ?_)
    have c1 : compF [4] (itA (nameD 1)) (setD 4) (valT (bin2 (pur2 (eqF true)) (nameD 4) (nameD 2))) (nameD 4) [.dat (.tup (w.map dP)), .dat (.tup ((l.filter S).map .str)), .dat (.str a), .un, .un, .un] = .ok (((l.filter S).filter fun x => !decide (x = a)).map .str) [.dat (.tup (w.map dP)), .dat (.tup ((l.filter S).map .str)), .dat (.str a), .un, .un, .un] := by
      refine compF_map (f := D.str) (itT1 (nm1 rfl)) rfl (by omega) rfl fun x m => ⟨[.dat (.tup (w.map dP)), .dat (.tup ((l.filter S).map .str)), .dat (.str a), .un, .dat (.str x), .un], rfl, rfl, rfl, val1 (bin1 (nm1 rfl) (nm1 rfl) (eqF_str true (h.sok x (List.mem_filter.mp m).1) ha)), fun _ => nm1 rfl⟩
    refine wp_seq (wp_eq (a := .nx) (e := [.dat (.tup (w.map dP)), .dat (.tup ((l.filter S).map .str)), .dat (.str a), .dat (.lst (((l.filter S).filter fun x => !decide (x = a)).map .str)), .un, .un]) (asg1 (held_ok c1) rfl rfl) ?_)
    have wz : w.length ≤ sizeLine := Nat.le_trans hw.len (by decide)
    have c2 : compF [5] (itA (nameD 0)) (setD 5) (valT (bin2 (pur2 (eqF false)) (bin2 (pur2 ixF) (nameD 5) (constD (.int 0))) (nameD 2))) (bin2 (pur2 ixF) (nameD 5) (constD (.int 1))) [.dat (.tup (w.map dP)), .dat (.tup ((l.filter S).map .str)), .dat (.str a), .dat (.lst (((l.filter S).filter fun x => !decide (x = a)).map .str)), .un, .un] = .ok ((w.filter fun p => decide (p.1 = a)).map fun p => .str p.2) [.dat (.tup (w.map dP)), .dat (.tup ((l.filter S).map .str)), .dat (.str a), .dat (.lst (((l.filter S).filter fun x => !decide (x = a)).map .str)), .un, .un] := by
      refine compF_map (f := dP) (itT1 (nm1 rfl)) rfl wz rfl fun p m => ⟨[.dat (.tup (w.map dP)), .dat (.tup ((l.filter S).map .str)), .dat (.str a), .dat (.lst (((l.filter S).filter fun x => !decide (x = a)).map .str)), .un, .dat (dP p)], rfl, rfl, rfl, val1 (bin1 (bin1 (nm1 rfl) cn1 (d := .str p.1) rfl) (nm1 rfl) (eqF_str false (h.sok _ (hw.mem p m).1) ha)), fun _ => bin1 (nm1 rfl) cn1 (d := .str p.2) rfl⟩
    rw [show ((w.filter fun p => decide (p.1 = a)).map fun p => D.str p.2) = ((w.filter fun p => decide (p.1 = a)).map (·.2)).map D.str by simp] at c2
    have lf := List.length_filter_le (fun x => !decide (x = a)) (l.filter S)
    have lw := List.length_filter_le (fun p : Str × Str => decide (p.1 = a)) w
    have wl := hw.len
    have sq : l.length * l.length ≤ 12 * 12 := Nat.mul_le_mul l12 l12
    have cat : addF (.lst (((l.filter S).filter fun x => !decide (x = a)).map .str)) (.lst (((w.filter fun p => decide (p.1 = a)).map (·.2)).map D.str)) = some (.lst ((((l.filter S).filter fun x => !decide (x = a)) ++ (w.filter fun p => decide (p.1 = a)).map (·.2)).map D.str)) := by
      rw [List.map_append]
      exact addL (by simp only [List.length_map]; omega)
    have st := setTx_lst (xs := ((l.filter S).filter fun x => !decide (x = a)) ++ (w.filter fun p => decide (p.1 = a)).map (·.2)) (by simp only [List.length_append, List.length_map]; omega)
    have e : srt ltS (DS.nub (((l.filter S).filter fun x => !decide (x = a)) ++ (w.filter fun p => decide (p.1 = a)).map (·.2))) = l.filter (pull w S a) := by
      refine Ri.eq ordS (srt_ri ordS (DS.nub_nd _)) (h.ri.filter _) fun x => ?_
      rw [srt_mem, DS.nub_mem, mem_st (pull_sub hw hS a), List.mem_append, List.mem_filter, mem_st hS, List.mem_map]
      have e2 : pull w S a x = (decide ((a, x) ∈ w) || (decide (x ≠ a) && S x)) := by unfold pull; rw [if_pos hs]
      rw [e2]
      constructor
      · rintro (⟨h1, h2⟩ | ⟨p, hp, rfl⟩)
        · simp at h2; simp [h1, h2]
        · obtain ⟨p1, p2⟩ := List.mem_filter.mp hp
          have := of_decide_eq_true p2
          subst this
          simp [p1]
      · intro h1
        simp at h1
        rcases h1 with h1 | ⟨h1, h2⟩
        · exact .inr ⟨(a, x), List.mem_filter.mpr ⟨h1, decide_eq_true rfl⟩, rfl⟩
        · exact .inl ⟨h2, by simp [h1]⟩
    refine wp_seq (wp_eq (a := .rt (.tup ((l.filter (pull w S a)).map .str))) (e := [.dat (.tup (w.map dP)), .dat (.tup ((l.filter S).map .str)), .dat (.str a), .dat (.lst (((l.filter S).filter fun x => !decide (x = a)).map .str)), .un, .un]) (ret1 (callo (f := tupleF) (held_ok (sortSet1 (bin1 (nm1 rfl) (held_ok c2) cat) st)) (by rw [e]; rfl))) ⟨rfl, rfl⟩)
  · have hm : ¬ a ∈ l.filter S := fun m => hs ((mem_st hS a).mp m)
    rw [show pull w S a = S from if_neg hs]
    exact wp_seq (wp_eq (a := .rt (.tup ((l.filter S).map .str))) (e := [.dat (.tup (w.map dP)), .dat (.tup ((l.filter S).map .str)), .dat (.str a), .un, .un, .un]) (ifSt (val1 (bin1 (nm1 rfl) (nm1 rfl) (hin.trans (by rw [decide_eq_false hm]; rfl)))) (seqSr (ret1 (nm1 rfl)))) ⟨rfl, rfl⟩)
theorem sub_end (hw : Wk l w) (hS : ∀ x, S x = true → x ∈ l) (r : List Str) : ∀ x, endOf w S r x = true → x ∈ l := endOf_sub hw hS
theorem take_snoc {r : List Str} {i : Nat} {a : Str} (h : r[i]? = some a) : r.take (i + 1) = r.take i ++ [a] := by rw [List.take_add_one, h]; rfl
end
end DL.K57
namespace DL.K25
open PySem L2 K14 K08 K13
open K04 hiding pd PO
end DL.K25
namespace DL
open PySem L2
end DL
namespace DL.K25
open PySem L2 K14 K08 K13
open K04 hiding pd PO
end DL.K25
namespace DL.K18
open PySem L2 K04
open K14 hiding pd PO PO.mono callT callN purse_ok cell_ok
end DL.K18
namespace DL.K18
open PySem L2 K04
open K14 hiding pd PO PO.mono callT callN purse_ok cell_ok
structure TI (l : List Str) (acc : List (Str × Str)) : Prop where
  nd : acc.Nodup
  mem : ∀ p ∈ acc, p.1 ∈ l ∧ p.2 ∈ l
theorem TI.len {l : List Str} {acc : List (Str × Str)} (h : TI l acc) (h12 : l.length ≤ 12) : acc.length ≤ 144 := by
  have h1 : acc.length ≤ (l.flatMap fun a => l.map fun b => (a, b)).length := List.Nodup.length_le_of_subset h.nd fun p m => by
    obtain ⟨h1, h2⟩ := h.mem p m
    exact List.mem_flatMap.mpr ⟨p.1, h1, List.mem_map.mpr ⟨p.2, h2, rfl⟩⟩
  have h2 : ∀ m : List Str, (m.flatMap fun a => l.map fun b => (a, b)).length = m.length * l.length := fun m => by
    induction m with
    | nil => simp
    | cons a m ih => simp [ih, Nat.add_mul, Nat.add_comm]
  rw [h2] at h1
  have : l.length * l.length ≤ 12 * 12 := Nat.mul_le_mul h12 h12
  omega
end DL.K18
namespace DL
open PySem L2
theorem Ss.inF {d : D} {s : List Str} (h : Ss d s) (n : Bool) (a : Str) : inF n (.str a) d = some (.bl (tst n (decide (a ∈ s)))) := by
  cases h with
  | l => exact inF_lS n a s
  | t => exact inF_tS n a s
end DL
namespace DL.K18
open PySem L2 K04
open K14 hiding pd PO PO.mono callT callN purse_ok cell_ok walk_ok
noncomputable def pulledL (w : List (Str × Str)) (a : Str) (now : List Str) : List Str := if a ∈ now then (now.filter fun x => decide (x ≠ a)) ++ (w.filter fun p => decide (p.1 = a) && !decide (p.2 ∈ now.filter fun x => decide (x ≠ a))).map (·.2) else now
/-- who is live, as the law holds it -/
structure Nw (l : List Str) (S : Str → Bool) (now : List Str) : Prop where
  nd : now.Nodup
  iff : ∀ x, x ∈ now ↔ S x = true
  sub : ∀ x, S x = true → x ∈ l
theorem Nw.len {l now : List Str} {S : Str → Bool} (h : Nw l S now) : now.length ≤ l.length := List.Nodup.length_le_of_subset h.nd fun x m => h.sub x ((h.iff x).mp m)
theorem Nw.pull {l now : List Str} {S : Str → Bool} {w : List (Str × Str)} (hw : Wk l w) (h : Nw l S now) (a : Str) : Nw l (pull w S a) (pulledL w a now) := by
  have sub : ∀ x, K14.pull w S a x = true → x ∈ l := fun x hx => endOf_sub hw (r := [a]) h.sub x hx
  unfold pulledL
  by_cases m : a ∈ now
  · rw [if_pos m]
    exact ⟨step_nd hw.ri h.nd, step_mem h.iff ((h.iff a).mp m), sub⟩
  · rw [if_neg m]
    refine ⟨h.nd, fun x => ?_, sub⟩
    have : S a ≠ true := fun z => m ((h.iff a).mpr z)
    unfold K14.pull
    rw [if_neg this]
    exact h.iff x
theorem Nw.of {l s : List Str} (hs : Lot l s) : Nw l (fun a => decide (a ∈ s)) s := ⟨hs.ri.nodup ordS, fun x => by simp, fun x m => hs.sub x (by simpa using m)⟩
theorem pulled_ok {l now : List Str} {w : List (Str × Str)} {d : D} {a : Str} (hw : Wk l w) (hd : Ss d now) (hn : now.length ≤ 12) : f_law_pulled [.dat (webD l w), .dat d, .dat (.str a)] = .ok (.lst ((pulledL w a now).map .str)) [.dat (webD l w), .dat d, .dat (.str a)] := by
  refine Wp.out (fn_wp ?_)
  unfold b_law_pulled
  by_cases m : a ∈ now
  · refine wp_seq (wp_eq (a := .nx) (e := [.dat (webD l w), .dat d, .dat (.str a), .un, .un, .un, .un]) (ifSf (val1 (bin1 (nm1 rfl) (nm1 rfl) ((hd.inF true a).trans (by simp [tst, m])))) nx1) ?_)
    have c1 : compF [4] (itA (nameD 1)) (setD 4) (valT (bin2 (pur2 (eqF true)) (nameD 4) (nameD 2))) (nameD 4) [.dat (webD l w), .dat d, .dat (.str a), .un, .un, .un, .un] = .ok ((now.filter fun x => decide (x ≠ a)).map .str) [.dat (webD l w), .dat d, .dat (.str a), .un, .un, .un, .un] := by
      refine compF_map (f := D.str) (hd.it (nm1 rfl)) rfl (by have := l1000; omega) rfl fun x mx => ⟨[.dat (webD l w), .dat d, .dat (.str a), .un, .dat (.str x), .un, .un], rfl, rfl, rfl, val1 (bin1 (nm1 rfl) (nm1 rfl) ((eqF_s true _ _).trans (by simp [tst]))), fun _ => nm1 rfl⟩
    generalize hnw : (now.filter fun x => decide (x ≠ a)) = nw at c1
    have nl : nw.length ≤ 12 := by rw [← hnw]; exact Nat.le_trans (List.length_filter_le _ _) hn
    refine wp_seq (wp_eq (a := .nx) (e := [.dat (webD l w), .dat d, .dat (.str a), .dat (.lst (nw.map .str)), .un, .un, .un]) (asg1 (held_ok c1) rfl rfl) ?_)
    have hwl : w.length ≤ sizeLine := by have := hw.len; have := l1000; omega
    have c2 : compF [5, 6] (itA (fldD ("Web" : Str) ("wakes" : Str) (nameD 0))) (setTup 2 (setCons (setD 5) (setCons (setD 6) setNil))) (andT (valT (bin2 (pur2 (eqF false)) (nameD 5) (nameD 2))) (valT (bin2 (pur2 (inF true)) (nameD 6) (nameD 3)))) (nameD 6) [.dat (webD l w), .dat d, .dat (.str a), .dat (.lst (nw.map .str)), .un, .un, .un] = .ok ((w.filter fun p => decide (p.1 = a) && !decide (p.2 ∈ nw)).map fun p => .str p.2) [.dat (webD l w), .dat d, .dat (.str a), .dat (.lst (nw.map .str)), .un, .un, .un] := by
      refine compF_map (f := dP) (itT1 (fld1 (nm1 rfl) (fld_wakes _ _))) rfl hwl rfl fun p m => ⟨[.dat (webD l w), .dat d, .dat (.str a), .dat (.lst (nw.map .str)), .un, .dat (.str p.1), .dat (.str p.2)], rfl, rfl, rfl, ?_, fun _ => nm1 rfl⟩
      refine and3 (val1 (bin1 (nm1 rfl) (nm1 rfl) (eqF_s false _ _))) ?_
      by_cases hp : p.1 = a
      · rw [if_pos (by simp [tst, hp])]
        have : (decide (p.1 = a) && !decide (p.2 ∈ nw)) = !decide (p.2 ∈ nw) := by simp [hp]
        rw [this]
        exact val1 (bin1 (nm1 rfl) (nm1 rfl) (inF_lS true _ _))
      · rw [if_neg (by simp [tst, hp])]
        simp [hp]
    have a1 : addF (.lst (nw.map .str)) (.lst ((w.filter fun p => decide (p.1 = a) && !decide (p.2 ∈ nw)).map fun p => .str p.2)) = some (.lst ((pulledL w a now).map .str)) := by
      have hz : (nw.map D.str).length + ((w.filter fun p => decide (p.1 = a) && !decide (p.2 ∈ nw)).map fun p => D.str p.2).length ≤ sizeLine := by
        rw [List.length_map, List.length_map]
        have := List.length_filter_le (fun p : Str × Str => decide (p.1 = a) && !decide (p.2 ∈ nw)) w
        have := hw.len; have := l1000; omega
      unfold pulledL
      rw [if_pos m, hnw, List.map_append, List.map_map]
      show (if _ then _ else _) = _
      rw [if_pos hz]
      rfl
    exact wp_seq (wp_eq (ret1 (bin1 (nm1 rfl) (held_ok c2) a1)) ⟨rfl, rfl⟩)
  · have e : pulledL w a now = now := if_neg m
    rw [e]
    exact wp_seq (wp_eq (ifSt (val1 (bin1 (nm1 rfl) (nm1 rfl) ((hd.inF true a).trans (by simp [tst, m])))) (seqSr (ret1 (held_ok (hd.list (consA2 (nm1 rfl) nA)))))) ⟨rfl, rfl⟩)
theorem walk_ok {l r s : List Str} {w : List (Str × Str)} {dr ds : D} (h : Bl l) (hw : Wk l w) (hdr : Ss dr r) (hds : Ss ds s) (hn : Nw l (fun a => decide (a ∈ s)) s) :
    f_law_walk [.dat (webD l w), .dat dr, .dat ds] = .ok (.tup ((l.filter (endOf w (fun a => decide (a ∈ s)) r)).map .str)) [.dat (webD l w), .dat dr, .dat ds] := by
  have l12 := h.hi
  refine Wp.out (fn_wp ?_)
  unfold b_law_walk
  refine wp_seq (wp_for (fun i e => ∃ (di : D) (now : List Str) (o : Option D), Ss di now ∧ Nw l (endOf w (fun a => decide (a ∈ s)) (r.take i)) now ∧ e = [.dat (webD l w), .dat dr, .dat di, fr o]) _ _ (hdr.it (nm1 rfl)) ⟨ds, s, none, hds, hn, rfl⟩ ?_ ?_)
  · rintro i d e hd ⟨di, now, o, h1, h2, rfl⟩
    rw [List.getElem?_map] at hd
    obtain ⟨a, hy, rfl⟩ := Option.map_eq_some_iff.mp hd
    refine ⟨[.dat (webD l w), .dat dr, .dat di, .dat (.str a)], setD_fr (o := o) rfl, by cases o <;> rfl, ?_⟩
    have tk : r.take (i + 1) = r.take i ++ [a] := by rw [List.take_add_one, hy]; rfl
    rw [tk, endOf_snoc]
    have c1 := pulled_ok (a := a) hw h1 (Nat.le_trans h2.len l12)
    exact wp_seq (wp_eq (a := .nx) (e := [.dat (webD l w), .dat dr, .dat (.lst ((pulledL w a now).map .str)), .dat (.str a)]) (asg1 (callS1 (cRd (nm1 rfl) (cRd (nm1 rfl) (cRd (nm1 rfl) nR))) nR (fnC2 c1 rfl rfl)) rfl rfl) (wp_nx.mpr ⟨rfl, _, _, some _, .l _, h2.pull hw a, rfl⟩))
  · rintro e' ⟨di, now, o, h1, h2, rfl⟩
    rw [List.length_map, List.take_length] at h2
    have cc : compF [3] (itA (fldD ("Web" : Str) ("bells" : Str) (nameD 0))) (setD 3) (valT (bin2 (pur2 (inF false)) (nameD 3) (nameD 2))) (nameD 3) [.dat (webD l w), .dat dr, .dat di, fr o] = .ok ((l.filter (endOf w (fun a => decide (a ∈ s)) r)).map .str) [.dat (webD l w), .dat dr, .dat di, fr o] := by
      refine compF_map (f := D.str) (itT1 (fld1 (nm1 rfl) (fld_bells _ _))) ?_ (by have := l1000; omega) ?_ fun x m => ⟨[.dat (webD l w), .dat dr, .dat di, .dat (.str x)], ?_, ?_, ?_, ?_, fun _ => nm1 rfl⟩
      all_goals first
        | (cases o <;> rfl)
        | skip
      refine val1 (bin1 (nm1 rfl) (nm1 rfl) ((h1.inF false x).trans ?_))
      have : decide (x ∈ now) = endOf w (fun a => decide (a ∈ s)) r x := by
        rw [Bool.eq_iff_iff, decide_eq_true_eq]; exact h2.iff x
      simp [tst, this]
    exact wp_seq (wp_eq (ret1 (callo (f := tupleF) (held_ok cc) rfl)) ⟨rfl, rfl⟩)
end DL.K18
namespace DL.K18
open PySem L2 K04
open K14 hiding pd PO PO.mono callT callN purse_ok cell_ok walk_ok
noncomputable def tS (s : List Str) : D := .tup (s.map .str)
noncomputable def goF (l : List Str) (w : List (Str × Str)) (r s : List Str) : List Str := l.filter (endOf w (fun a => decide (a ∈ s)) r)
noncomputable def orb (l : List Str) (w : List (Str × Str)) (r s : List Str) : Nat → List Str
  | 0 => s
  | i + 1 => goF l w r (orb l w r s i)
/-- m stands till one comes again: the a-th -/
structure Orb (l : List Str) (w : List (Str × Str)) (r s : List Str) (m a : Nat) : Prop where
  lt : a < m
  nd : ((List.range m).map (orb l w r s)).Nodup
  eq : orb l w r s m = orb l w r s a
  few : m ≤ 4096
theorem nd_inj {N : Nat → List Str} {m i j : Nat} (nd : ((List.range m).map N).Nodup) (hi : i < m) (hj : j < m) (e : N i = N j) : i = j := by
  have := (List.getElem_inj (i := i) (j := j) (h₀ := by simpa using hi) (h₁ := by simpa using hj) nd).mp (by simpa using e)
  exact this
theorem Orb.mem {l r s : List Str} {w : List (Str × Str)} {m a : Nat} (o : Orb l w r s m a) {i : Nat} (hi : i ≤ m) : orb l w r s i ∈ (List.range i).map (orb l w r s) ↔ i = m := by
  constructor
  · intro k
    obtain ⟨j, hj, e⟩ := List.mem_map.mp k
    have hj := List.mem_range.mp hj
    by_cases him : i = m
    · exact him
    · have := nd_inj o.nd (i := j) (j := i) (by omega) (by omega) e
      omega
  · rintro rfl
    exact List.mem_map.mpr ⟨a, List.mem_range.mpr o.lt, o.eq.symm⟩
end DL.K18
namespace DL.K18
open PySem L2 K04
open K14 hiding pd PO PO.mono callT callN purse_ok cell_ok walk_ok
open K25 (big within_ok)
section
variable {l r s : List Str} {w : List (Str × Str)} {m a t : Nat} {e : Env} {i j k : Nat}
end
end DL.K18
namespace DL
open PySem L2
end DL
namespace DL.K19
open PySem L2 K04 K18
open K14 hiding pd PO PO.mono callT callN purse_ok cell_ok walk_ok
open K25 (big within_ok)
end DL.K19
namespace DL.K57
open PySem L2 K14 K08 K13
open K04 hiding pd PO
section
variable {l r s : List Str} {w : List (Str × Str)} {S : Str → Bool} {a : Str} {d : D}
theorem at_last {l : List D} {d : D} (h : l[l.length - 1]? = some d) : atI l (-1) = some d := by
  have hl : 0 < l.length := by
    have := (List.getElem?_eq_some_iff.mp h).1
    omega
  unfold atI ixN
  rw [if_neg (by decide), if_pos (by omega)]
  have : ((-1 : Int) + (l.length : Int)).toNat = l.length - 1 := by omega
  rw [this]
  exact h
/-- the stands of the law's table -/
noncomputable abbrev slD (l : List Str) (w : List (Str × Str)) (S : Str → Bool) (r : List Str) (n : Nat) : List D := (List.range n).map fun k => .tup ((l.filter (endOf w S (r.take k))).map .str)
noncomputable abbrev wlD (f : Nat → Nat) (n : Nat) : List D := (List.range n).map fun k => .int (f k : Int)
end
end DL.K57
namespace DL.K57
open PySem L2 K14 K08 K13
open K04 hiding pd PO
end DL.K57
namespace DL.K57
open PySem L2 K14 K08 K13
open K04 hiding pd PO
end DL.K57
namespace DL.K41
open PySem L2 K14 K08 K13
open K04 hiding pd PO
open K57 (sub_end take_snoc pull_sub)
/-- has a waker within -/
noncomputable def hw (w : List (Str × Str)) (L : List Str) (x : Str) : Bool := w.any fun p => decide (p.2 = x) && decide (p.1 ∈ L)
theorem hw_iff {w : List (Str × Str)} {L : List Str} {x : Str} : hw w L x = true ↔ ∃ y ∈ L, (y, x) ∈ w := by
  unfold hw
  rw [List.any_eq_true]
  constructor
  · rintro ⟨p, hp, h⟩
    simp at h
    exact ⟨p.1, h.2, by rw [← h.1]; exact hp⟩
  · rintro ⟨y, hy, h⟩
    exact ⟨(y, x), h, by simp [hy]⟩
noncomputable def nx (w : List (Str × Str)) (L : List Str) : List Str := L.filter (hw w L)
noncomputable def fre (w : List (Str × Str)) (L : List Str) : List Str := L.filter fun x => !hw w L x
noncomputable def itn (w : List (Str × Str)) (L : List Str) : Nat → List Str
  | 0 => L
  | n + 1 => nx w (itn w L n)
theorem itn_sub {w : List (Str × Str)} {L : List Str} : ∀ {n : Nat} {x : Str}, x ∈ itn w L n → x ∈ L
  | 0, _, m => m
  | n + 1, _, m => itn_sub (n := n) (List.mem_filter.mp m).1
theorem itn_len {w : List (Str × Str)} {L : List Str} : ∀ n : Nat, (itn w L n).length ≤ L.length
  | 0 => Nat.le_refl _
  | n + 1 => Nat.le_trans (List.length_filter_le _ _) (itn_len n)
theorem itn_fix {w : List (Str × Str)} {L : List Str} {n : Nat} (h : nx w (itn w L n) = itn w L n) : ∀ k, itn w L (n + k) = itn w L n
  | 0 => rfl
  | k + 1 => by
    show nx w (itn w L (n + k)) = _
    rw [itn_fix h k, h]
/-- some bells in an order behind their wakers, the others left -/
structure Wo (w : List (Str × Str)) (d f L : List Str) : Prop where
  nd : f.Nodup
  mem : ∀ x, x ∈ d ↔ x ∈ f ∨ x ∈ L
  dis : ∀ x ∈ f, x ∉ L
  pw : f.Pairwise fun x y => (y, x) ∉ w
  se : ∀ x ∈ f, (x, x) ∉ w
  out : ∀ x ∈ f, ∀ y ∈ L, (y, x) ∉ w
theorem fre_mem {w : List (Str × Str)} {L : List Str} {x : Str} : x ∈ fre w L ↔ x ∈ L ∧ ∀ y ∈ L, (y, x) ∉ w := by
  unfold fre
  rw [List.mem_filter]
  constructor
  · rintro ⟨h1, h2⟩
    refine ⟨h1, fun y hy hm => ?_⟩
    rw [hw_iff.mpr ⟨y, hy, hm⟩] at h2
    cases h2
  · rintro ⟨h1, h2⟩
    refine ⟨h1, ?_⟩
    cases e : hw w L x with
    | false => rfl
    | true =>
      obtain ⟨y, hy, hm⟩ := hw_iff.mp e
      exact absurd hm (h2 y hy)
theorem Wo.step {w : List (Str × Str)} {d f L : List Str} (h : Wo w d f L) (nd : L.Nodup) : Wo w d (f ++ fre w L) (nx w L) := by
  have fl : ∀ x ∈ fre w L, x ∈ L := fun x m => (fre_mem.mp m).1
  have nl : ∀ x ∈ nx w L, x ∈ L := fun x m => (List.mem_filter.mp m).1
  refine ⟨?_, fun x => ?_, fun x m m2 => ?_, ?_, fun x m => ?_, fun x m y hy => ?_⟩
  · exact List.nodup_append.mpr ⟨h.nd, nd.sublist List.filter_sublist, fun a ha b hb e => h.dis a ha (e ▸ fl b hb)⟩
  · rw [h.mem x, List.mem_append]
    constructor
    · rintro (m | m)
      · exact .inl (.inl m)
      · cases e : hw w L x with
        | true => exact .inr (List.mem_filter.mpr ⟨m, e⟩)
        | false => exact .inl (.inr (List.mem_filter.mpr ⟨m, by rw [e]; rfl⟩))
    · rintro ((m | m) | m)
      · exact .inl m
      · exact .inr (fl x m)
      · exact .inr (nl x m)
  · rcases List.mem_append.mp m with m | m
    · exact h.dis x m (nl x m2)
    · obtain ⟨y, hy, hm⟩ := hw_iff.mp (List.mem_filter.mp m2).2
      exact (fre_mem.mp m).2 y hy hm
  · refine List.pairwise_append.mpr ⟨h.pw, ?_, fun x hx y hy => h.out x hx y (fl y hy)⟩
    refine List.pairwise_iff_getElem.mpr fun i j hi hj _ => ?_
    exact (fre_mem.mp (List.getElem_mem hi)).2 _ (fl _ (List.getElem_mem hj))
  · rcases List.mem_append.mp m with m | m
    · exact h.se x m
    · exact (fre_mem.mp m).2 x (fl x m)
  · rcases List.mem_append.mp m with m | m
    · exact h.out x m y (nl y hy)
    · exact (fre_mem.mp m).2 y (nl y hy)
/-- what a search finds from one name: keys, who is ahead -/
structure Fo (w : List (Str × Str)) (d : List Str) (n : Str) (m : List Str) (g : Str → Option Str) (ρ : Str → Nat) : Prop where
  nd : m.Nodup
  st : n ∈ m
  gn : g n = none
  up : ∀ x ∈ m, x ≠ n → ∃ b, g x = some b ∧ b ∈ m ∧ (b, x) ∈ w ∧ ρ b < ρ x
  sub : ∀ x ∈ m, x ∈ d
  bnd : ∀ x ∈ m, ρ x < m.length
/-- closed under waking within -/
noncomputable def Clo (w : List (Str × Str)) (d m : List Str) : Prop := ∀ y ∈ m, ∀ x ∈ d, (y, x) ∈ w → x ∈ m
/-- a ring, place by place -/
noncomputable def Cy (w : List (Str × Str)) (c : List Str) : Prop := ∀ (i j : Nat) (a b : Str), c[i]? = some a → c[j]? = some b → (i + 1 = j ∨ (j = 0 ∧ i + 1 = c.length)) → (a, b) ∈ w
end DL.K41
namespace DL.K42
open PySem L2
open K41 (hw hw_iff nx itn itn_sub itn_len itn_fix)
section
variable {l S S' F : List Str} {w : List (Str × Str)} {x y : Str} {m k i j n : Nat}
/-- no ring lies within -/
noncomputable def RL (w : List (Str × Str)) (S : List Str) : Bool := decide (itn w S S.length = [])
theorem rl_iff : RL w S = true ↔ ∀ F : List Str, (∀ x ∈ F, x ∈ S) → F ≠ [] → ∃ x ∈ F, hw w F x = false := by
  unfold RL
  rw [decide_eq_true_iff]
  constructor
  · intro h F sub ne
    refine Classical.byContradiction fun no => ?_
    have all : ∀ x ∈ F, hw w F x = true := fun x m => by
      cases e : hw w F x with
      | true => rfl
      | false => exact absurd ⟨x, m, e⟩ no
    have k : ∀ n, ∀ x ∈ F, x ∈ itn w S n := fun n => by
      induction n with
      | zero => exact sub
      | succ n ih =>
        intro x m
        obtain ⟨y, my, e⟩ := hw_iff.mp (all x m)
        exact List.mem_filter.mpr ⟨ih x m, hw_iff.mpr ⟨y, ih y my, e⟩⟩
    cases F with
    | nil => exact ne rfl
    | cons x F =>
      have := k S.length x List.mem_cons_self
      rw [h] at this
      cases this
  · intro h
    have st : ∀ k, (∃ j, j < k ∧ nx w (itn w S j) = itn w S j) ∨ (itn w S k).length + k ≤ S.length := fun k => by
      induction k with
      | zero => exact .inr (Nat.le_refl _)
      | succ k ih =>
        rcases ih with ⟨j, hj, e⟩ | ih
        · exact .inl ⟨j, by omega, e⟩
        · by_cases e : nx w (itn w S k) = itn w S k
          · exact .inl ⟨k, by omega, e⟩
          · right
            have h1 : (nx w (itn w S k)).length ≤ (itn w S k).length := List.length_filter_le _ _
            have h2 : (nx w (itn w S k)).length ≠ (itn w S k).length := fun q => e (List.filter_eq_self.mpr (List.length_filter_eq_length_iff.mp q))
            show (nx w (itn w S k)).length + (k + 1) ≤ _
            omega
    rcases st (S.length + 1) with ⟨j, hj, e⟩ | z
    · have e2 := itn_fix e (S.length - j)
      rw [show j + (S.length - j) = S.length by omega] at e2
      rw [e2]
      refine Classical.byContradiction fun ne => ?_
      obtain ⟨x, mx, hx⟩ := h (itn w S j) (fun x m => itn_sub m) ne
      have := List.filter_eq_self.mp e x mx
      rw [hx] at this
      cases this
    · omega
theorem rl_nil : RL w [] = true := rl_iff.mpr fun F s ne => by
  cases F with
  | nil => exact absurd rfl ne
  | cons x F => exact absurd (s x List.mem_cons_self) (by simp)
theorem rl_stop (ne : S ≠ []) (h : ∀ x ∈ S, hw w S x = true) : RL w S = false := by
  rw [Bool.eq_false_iff]
  intro q
  obtain ⟨x, m, e⟩ := rl_iff.mp q S (fun _ m => m) ne
  rw [h x m] at e
  cases e
theorem rl_step (hx : x ∈ S) (hn : hw w S x = false) (h : ∀ y, y ∈ S' ↔ y ∈ S ∧ y ≠ x) : RL w S = RL w S' := by
  rw [Bool.eq_iff_iff, rl_iff, rl_iff]
  constructor
  · exact fun q F s => q F fun y m => ((h y).mp (s y m)).1
  · intro q F s ne
    by_cases m : x ∈ F
    · refine ⟨x, m, ?_⟩
      rw [Bool.eq_false_iff]
      intro e
      obtain ⟨y, my, ew⟩ := hw_iff.mp e
      rw [hw_iff.mpr ⟨y, s y my, ew⟩] at hn
      cases hn
    · exact q F (fun y my => (h y).mpr ⟨s y my, fun e => m (e ▸ my)⟩) ne
noncomputable def sel (l : List Str) (m : Nat) : List Str := (l.zipIdx.filter fun q => m.testBit q.2).map (·.1)
theorem mem_sel : x ∈ sel l m ↔ ∃ k, l[k]? = some x ∧ m.testBit k = true := by
  unfold sel
  rw [List.mem_map]
  constructor
  · rintro ⟨⟨y, k⟩, h, rfl⟩
    obtain ⟨h1, h2⟩ := List.mem_filter.mp h
    exact ⟨k, List.mem_zipIdx_iff_getElem?.mp h1, h2⟩
  · rintro ⟨k, h1, h2⟩
    exact ⟨(x, k), List.mem_filter.mpr ⟨List.mem_zipIdx_iff_getElem?.mpr h1, h2⟩, rfl⟩
theorem sel_zero : sel l 0 = [] := by
  unfold sel
  rw [List.filter_eq_nil_iff.mpr fun q _ => by simp]
  rfl
theorem bit_sub (h : m.testBit k = true) (i : Nat) : (m - 2 ^ k).testBit i = (m.testBit i && decide (i ≠ k)) := by
  have p1 : 2 ^ (k + 1) = 2 ^ k * 2 := Nat.pow_succ 2 k
  have e : 2 ^ (k + 1) * (m / 2 ^ (k + 1)) + m % 2 ^ (k + 1) = m := Nat.div_add_mod m (2 ^ (k + 1))
  generalize m / 2 ^ (k + 1) = q at e
  have hb : (m % 2 ^ (k + 1)).testBit k = true := by rw [Nat.testBit_mod_two_pow, h]; simp
  have lt : m % 2 ^ (k + 1) < 2 ^ (k + 1) := Nat.mod_lt _ (Nat.two_pow_pos _)
  generalize m % 2 ^ (k + 1) = b at e hb lt
  have ge : 2 ^ k ≤ b := by
    refine Classical.byContradiction fun no => ?_
    rw [Nat.testBit_lt_two_pow (by omega)] at hb
    cases hb
  obtain ⟨r, rfl⟩ : ∃ r, b = 2 ^ k + r := ⟨b - 2 ^ k, by omega⟩
  have rl : r < 2 ^ k := by omega
  have e2 : m - 2 ^ k = 2 ^ (k + 1) * q + r := by omega
  rw [e2, ← e, Nat.testBit_two_pow_mul_add _ (by omega), Nat.testBit_two_pow_mul_add _ lt]
  by_cases hi : i < k + 1
  · rw [if_pos hi, if_pos hi]
    by_cases ik : i = k
    · subst ik
      rw [Nat.testBit_lt_two_pow rl]
      simp
    · rw [Nat.testBit_two_pow_add_gt (by omega)]
      simp [ik]
  · rw [if_neg hi, if_neg hi]
    have : i ≠ k := by omega
    simp [this]
/-- who of a lot has no waker within -/
noncomputable def frees (l : List Str) (w : List (Str × Str)) (m : Nat) : List Nat := (List.range l.length).filter fun k => m.testBit k && !hw w (sel l m) (l.getD k ⟨#[]⟩)
theorem getD_some (h : l[k]? = some x) : l.getD k ⟨#[]⟩ = x := by rw [List.getD_eq_getElem?_getD, h]; rfl
theorem tab_nil (nd : l.Nodup) (h0 : m ≠ 0) (hm : m < 2 ^ l.length) (e : frees l w m = []) : RL w (sel l m) = false := by
  have all := List.filter_eq_nil_iff.mp e
  refine rl_stop (fun z => ?_) fun x mx => ?_
  · obtain ⟨i, hi⟩ : ∃ i, m.testBit i = true := by
      refine Classical.byContradiction fun no => h0 (Nat.eq_of_testBit_eq fun i => ?_)
      rw [Nat.zero_testBit]
      cases e : m.testBit i with
      | false => rfl
      | true => exact absurd ⟨i, e⟩ no
    have il : i < l.length := by
      refine Classical.byContradiction fun no => ?_
      have : m < 2 ^ i := Nat.lt_of_lt_of_le hm (Nat.pow_le_pow_right (by decide) (by omega))
      rw [Nat.testBit_lt_two_pow this] at hi
      cases hi
    have : l[i] ∈ sel l m := mem_sel.mpr ⟨i, List.getElem?_eq_getElem il, hi⟩
    rw [z] at this
    cases this
  · obtain ⟨k, h1, h2⟩ := mem_sel.mp mx
    have hk := (List.getElem?_eq_some_iff.mp h1).1
    have := all k (List.mem_range.mpr hk)
    rw [getD_some h1, h2] at this
    simpa using this
theorem tab_cons (nd : l.Nodup) {ks : List Nat} (e : frees l w m = k :: ks) : k < l.length ∧ m.testBit k = true ∧ 2 ^ k ≤ m ∧ RL w (sel l m) = RL w (sel l (m - 2 ^ k)) := by
  have hk : k ∈ frees l w m := by rw [e]; exact List.mem_cons_self
  obtain ⟨h1, h2⟩ := List.mem_filter.mp hk
  have h1 := List.mem_range.mp h1
  rw [Bool.and_eq_true] at h2
  obtain ⟨h2, h3⟩ := h2
  have hx : l[k]? = some l[k] := List.getElem?_eq_getElem h1
  rw [getD_some hx] at h3
  have h3 : hw w (sel l m) l[k] = false := by simpa using h3
  refine ⟨h1, h2, ?_, rl_step (mem_sel.mpr ⟨k, hx, h2⟩) h3 fun y => ?_⟩
  · refine Classical.byContradiction fun no => ?_
    rw [Nat.testBit_lt_two_pow (by omega)] at h2
    cases h2
  · rw [mem_sel, mem_sel]
    constructor
    · rintro ⟨i, q1, q2⟩
      rw [bit_sub h2] at q2
      simp only [Bool.and_eq_true, decide_eq_true_eq] at q2
      refine ⟨⟨i, q1, q2.1⟩, fun ey => q2.2 ?_⟩
      have hi := (List.getElem?_eq_some_iff.mp q1).1
      have ei : l[i] = l[k] := by rw [← ey]; exact (List.getElem?_eq_some_iff.mp q1).2
      exact (List.getElem_inj nd).mp ei
    · rintro ⟨⟨i, q1, q2⟩, ne⟩
      refine ⟨i, q1, ?_⟩
      rw [bit_sub h2, q2]
      have : i ≠ k := fun e => ne (by subst e; rw [hx] at q1; exact (Option.some.inj q1).symm)
      simp [this]
/-- a lot without a ring counts 1 -/
noncomputable def g1 (l : List Str) (w : List (Str × Str)) (m : Nat) : Nat := (RL w (sel l m)).toNat
theorem g1_zero : g1 l w 0 = 1 := by unfold g1; rw [sel_zero, rl_nil]; rfl
theorem g1_step (nd : l.Nodup) (h0 : m ≠ 0) (hm : m < 2 ^ l.length) : g1 l w m = (match frees l w m with | [] => 0 | k :: _ => g1 l w (m - 2 ^ k)) := by
  cases e : frees l w m with
  | nil => unfold g1; rw [tab_nil nd h0 hm e]; rfl
  | cons k ks => unfold g1; rw [(tab_cons nd e).2.2.2]
noncomputable def cnt (l : List Str) (w : List (Str × Str)) : Nat := ((List.range (2 ^ l.length)).map (g1 l w)).sum
theorem sel_snoc (a : Str) (hm : m < 2 ^ l.length) : sel (l ++ [a]) m = sel l m := by
  unfold sel
  rw [List.zipIdx_append, List.filter_append, List.map_append]
  have : ((List.zipIdx [a] (0 + l.length)).filter fun q => m.testBit q.2) = [] := by
    rw [Nat.zero_add]
    show (List.filter (fun q : Str × Nat => m.testBit q.2) [(a, l.length)]) = []
    rw [List.filter_cons_of_neg (by rw [Nat.testBit_lt_two_pow hm]; simp)]
    rfl
  rw [this, List.map_nil, List.append_nil]
theorem sel_snoc2 (a : Str) (hm : m < 2 ^ l.length) : sel (l ++ [a]) (2 ^ l.length + m) = sel l m ++ [a] := by
  unfold sel
  rw [List.zipIdx_append, List.filter_append, List.map_append]
  have e1 : ((List.zipIdx [a] (0 + l.length)).filter fun q => (2 ^ l.length + m).testBit q.2) = [(a, l.length)] := by
    rw [Nat.zero_add]
    show (List.filter (fun q : Str × Nat => (2 ^ l.length + m).testBit q.2) [(a, l.length)]) = [(a, l.length)]
    rw [List.filter_cons_of_pos (by rw [Nat.testBit_two_pow_add_eq, Nat.testBit_lt_two_pow hm]; rfl)]
    rfl
  have e2 : (l.zipIdx.filter fun q => (2 ^ l.length + m).testBit q.2) = l.zipIdx.filter fun q => m.testBit q.2 := List.filter_congr fun q mq => by
    have : q.2 < l.length := (List.getElem?_eq_some_iff.mp (List.mem_zipIdx_iff_getElem?.mp mq)).1
    rw [Nat.testBit_two_pow_add_gt this]
  rw [e1, e2]
  rfl
noncomputable def lots (l : List Str) : List (List Str) := (List.range (2 ^ l.length)).map (sel l)
theorem lots_snoc (a : Str) : lots (l ++ [a]) = lots l ++ (lots l).map (· ++ [a]) := by
  unfold lots
  rw [List.length_append, List.length_singleton, Nat.pow_succ, Nat.mul_two, List.range_add, List.map_append, List.map_map, List.map_map]
  congr 1
  · exact List.map_congr_left fun m h => sel_snoc a (List.mem_range.mp h)
  · exact List.map_congr_left fun m h => sel_snoc2 a (List.mem_range.mp h)
theorem cnt_lots : ((lots l).filter fun S => RL w S).length = cnt l w := by
  unfold cnt lots
  generalize List.range (2 ^ l.length) = L
  induction L with
  | nil => rfl
  | cons m L ih =>
    rw [List.map_cons, List.map_cons, List.sum_cons, List.filter_cons]
    unfold g1
    cases RL w (sel l m) with
    | true => rw [if_pos rfl, List.length_cons, ih]; show _ + 1 = 1 + _; unfold g1; omega
    | false => rw [if_neg (by decide), ih]; show _ = 0 + _; unfold g1; omega
end
end DL.K42
namespace DL.K42
open PySem L2
open K41 (hw hw_iff)
section
variable {l S S' F : List Str} {w : List (Str × Str)} {x y : Str} {m k i j n : Nat}
theorem sum_const {α : Type} {f : α → Nat} {c : Nat} : ∀ {L : List α}, (∀ a ∈ L, f a = c) → (L.map f).sum = c * L.length
  | [], _ => by simp
  | a :: L, h => by
    rw [List.map_cons, List.sum_cons, h a List.mem_cons_self, sum_const fun b mb => h b (List.mem_cons_of_mem _ mb), List.length_cons, Nat.mul_succ]
    omega
theorem cnt_none : cnt l [] = 2 ^ l.length := by
  have e : ∀ m ∈ List.range (2 ^ l.length), g1 l [] m = 1 := fun m _ => by
    have : RL [] (sel l m) = true := rl_iff.mpr fun F s ne => by
      cases F with
      | nil => exact absurd rfl ne
      | cons x F => exact ⟨x, List.mem_cons_self, rfl⟩
    unfold g1; rw [this]; rfl
  unfold cnt
  rw [sum_const e, List.length_range]
  omega
theorem sel_ne (h0 : m ≠ 0) (hm : m < 2 ^ l.length) : sel l m ≠ [] := fun z => by
  obtain ⟨i, hi⟩ : ∃ i, m.testBit i = true := by
    refine Classical.byContradiction fun no => h0 (Nat.eq_of_testBit_eq fun i => ?_)
    rw [Nat.zero_testBit]
    cases e : m.testBit i with
    | false => rfl
    | true => exact absurd ⟨i, e⟩ no
  have il : i < l.length := by
    refine Classical.byContradiction fun no => ?_
    have : m < 2 ^ i := Nat.lt_of_lt_of_le hm (Nat.pow_le_pow_right (by decide) (by omega))
    rw [Nat.testBit_lt_two_pow this] at hi
    cases hi
  have : l[i] ∈ sel l m := mem_sel.mpr ⟨i, List.getElem?_eq_getElem il, hi⟩
  rw [z] at this
  cases this
theorem cnt_selves (h : ∀ x ∈ l, (x, x) ∈ w) : cnt l w = 1 := by
  have pos : 2 ^ l.length = (2 ^ l.length - 1) + 1 := by have := Nat.two_pow_pos l.length; omega
  unfold cnt
  rw [pos, List.range_succ_eq_map, List.map_cons, List.sum_cons, g1_zero, List.map_map, sum_const (c := 0) fun m hm => ?_]
  · omega
  · have hm := List.mem_range.mp hm
    show g1 l w (m + 1) = 0
    have : RL w (sel l (m + 1)) = false := rl_stop (sel_ne (by omega) (by omega)) fun x mx => by
      obtain ⟨k, h1, _⟩ := mem_sel.mp mx
      exact hw_iff.mpr ⟨x, mx, h x (List.mem_of_getElem? h1)⟩
    unfold g1; rw [this]; rfl
/-- the place ahead, in a ring -/
noncomputable def pr (n k : Nat) : Nat := if k = 0 then n - 1 else k - 1
theorem cnt_ring (nd : l.Nodup) (hl : 1 ≤ l.length) (h : ∀ x y, (x, y) ∈ w ↔ ∃ k, l[k]? = some y ∧ l[pr l.length k]? = some x) : cnt l w = 2 ^ l.length - 1 := by
  have pos : 2 ^ l.length = (2 ^ l.length - 1) + 1 := by have := Nat.two_pow_pos l.length; omega
  have full : g1 l w (2 ^ l.length - 1) = 0 := by
    have tb : ∀ i, i < l.length → (2 ^ l.length - 1).testBit i = true := fun i hi => by rw [Nat.testBit_two_pow_sub_one]; exact decide_eq_true hi
    have p1 : 2 ^ 1 ≤ 2 ^ l.length := Nat.pow_le_pow_right (by decide) hl
    have : RL w (sel l (2 ^ l.length - 1)) = false := rl_stop (sel_ne (by omega) (by omega)) fun x mx => by
      obtain ⟨k, h1, _⟩ := mem_sel.mp mx
      have hk := (List.getElem?_eq_some_iff.mp h1).1
      have hp : pr l.length k < l.length := by unfold pr; split <;> omega
      exact hw_iff.mpr ⟨l[pr l.length k], mem_sel.mpr ⟨_, List.getElem?_eq_getElem hp, tb _ hp⟩, (h _ _).mpr ⟨k, h1, List.getElem?_eq_getElem hp⟩⟩
    unfold g1; rw [this]; rfl
  have part : ∀ m ∈ List.range (2 ^ l.length - 1), g1 l w m = 1 := fun m hm => by
    have hm := List.mem_range.mp hm
    obtain ⟨i, hi, bi⟩ : ∃ i, i < l.length ∧ m.testBit i = false := by
      refine Classical.byContradiction fun no => ?_
      have : m = 2 ^ l.length - 1 := Nat.eq_of_testBit_eq fun i => by
        rw [Nat.testBit_two_pow_sub_one]
        by_cases hi : i < l.length
        · rw [decide_eq_true hi]
          cases e : m.testBit i with
          | true => rfl
          | false => exact absurd ⟨i, hi, e⟩ no
        · rw [decide_eq_false hi]
          exact Nat.testBit_lt_two_pow (Nat.lt_of_lt_of_le (by omega : m < 2 ^ l.length) (Nat.pow_le_pow_right (by decide) (by omega)))
      omega
    have : RL w (sel l m) = true := rl_iff.mpr fun F s ne => by
      refine Classical.byContradiction fun no => ?_
      have all : ∀ x ∈ F, hw w F x = true := fun x m => by
        cases e : hw w F x with
        | true => rfl
        | false => exact absurd ⟨x, m, e⟩ no
      have back : ∀ k (hk : k < l.length), l[k] ∈ F → ∃ h : pr l.length k < l.length, l[pr l.length k] ∈ F := fun k hk mk => by
        have hp : pr l.length k < l.length := by unfold pr; split <;> omega
        obtain ⟨y, my, ey⟩ := hw_iff.mp (all _ mk)
        obtain ⟨k2, q1, q2⟩ := (h _ _).mp ey
        obtain ⟨hk2, e2⟩ := List.getElem?_eq_some_iff.mp q1
        have := (List.getElem_inj nd).mp e2
        subst this
        obtain ⟨_, e3⟩ := List.getElem?_eq_some_iff.mp q2
        exact ⟨hp, e3 ▸ my⟩
      have down : ∀ t k, (hk : k < l.length) → l[k] ∈ F → t ≤ k → ∃ h : k - t < l.length, l[k - t] ∈ F := fun t => by
        induction t with
        | zero => exact fun k hk mk _ => ⟨hk, mk⟩
        | succ t ih =>
          intro k hk mk ht
          obtain ⟨h1, m1⟩ := ih k hk mk (by omega)
          obtain ⟨h2, m2⟩ := back (k - t) h1 m1
          have e : pr l.length (k - t) = k - (t + 1) := by unfold pr; rw [if_neg (by omega)]; omega
          refine ⟨by omega, ?_⟩
          simpa [e] using m2
      obtain ⟨x, mx⟩ : ∃ x, x ∈ F := by
        cases F with
        | nil => exact absurd rfl ne
        | cons x F => exact ⟨x, List.mem_cons_self⟩
      obtain ⟨k, h1, _⟩ := mem_sel.mp (s x mx)
      obtain ⟨hk, ek⟩ := List.getElem?_eq_some_iff.mp h1
      obtain ⟨_, z0⟩ := down k k hk (by rw [ek]; exact mx) (Nat.le_refl _)
      have h0 : 0 < l.length := by omega
      obtain ⟨h3, m3⟩ := back 0 h0 (by simpa using z0)
      have e0 : pr l.length 0 = l.length - 1 := rfl
      have m4 : l[l.length - 1]'(by omega) ∈ F := by simpa [e0] using m3
      obtain ⟨h5, m5⟩ := down (l.length - 1 - i) (l.length - 1) (by omega) m4 (by omega)
      have e5 : l.length - 1 - (l.length - 1 - i) = i := by omega
      have m6 : l[i] ∈ F := by simpa [e5] using m5
      obtain ⟨k2, q1, q2⟩ := mem_sel.mp (s _ m6)
      obtain ⟨hk2, e2⟩ := List.getElem?_eq_some_iff.mp q1
      have := (List.getElem_inj nd).mp e2
      subst this
      rw [bi] at q2
      cases q2
    unfold g1; rw [this]; rfl
  unfold cnt
  rw [pos, List.range_succ, List.map_append, List.sum_append, sum_const part, List.length_range]
  show 1 * _ + (g1 l w (2 ^ l.length - 1) + 0) = _
  rw [full]
  omega
theorem snoc_ind {P : List Str → Prop} (h0 : P []) (hs : ∀ l a, P l → P (l ++ [a])) (l : List Str) : P l := by
  have : ∀ r : List Str, P r.reverse := fun r => by
    induction r with
    | nil => exact h0
    | cons a r ih => rw [List.reverse_cons]; exact hs _ _ ih
  have := this l.reverse
  rwa [List.reverse_reverse] at this
theorem lots_sub : ∀ S ∈ lots l, S.Sublist l := fun S m => by
  unfold lots at m
  obtain ⟨k, _, rfl⟩ := List.mem_map.mp m
  have e : (l.zipIdx.map (·.1)) = l := List.zipIdx_map_fst 0 l
  have : ((l.zipIdx.filter fun q => k.testBit q.2).map fun q : Str × Nat => q.1).Sublist (l.zipIdx.map fun q : Str × Nat => q.1) := List.filter_sublist.map _
  rw [e] at this
  exact this
theorem lots0 (l : List Str) : ((lots l).filter fun S => decide (S.length ≤ 0)).length = 1 := by
  refine snoc_ind (P := fun l => ((lots l).filter fun S => decide (S.length ≤ 0)).length = 1) rfl (fun l a ih => ?_) l
  have : ((lots l).map (· ++ [a])).filter (fun S => decide (S.length ≤ 0)) = [] := List.filter_eq_nil_iff.mpr fun S m => by
    obtain ⟨T, _, rfl⟩ := List.mem_map.mp m
    simp
  rw [lots_snoc, List.filter_append, this, List.append_nil]
  exact ih
theorem lots1 (l : List Str) : ((lots l).filter fun S => decide (S.length ≤ 1)).length = l.length + 1 := by
  refine snoc_ind (P := fun l => ((lots l).filter fun S => decide (S.length ≤ 1)).length = l.length + 1) rfl (fun l a ih => ?_) l
  have e : ((lots l).map (· ++ [a])).filter (fun S => decide (S.length ≤ 1)) = ((lots l).filter fun S => decide (S.length ≤ 0)).map (· ++ [a]) := by
    rw [List.filter_map]
    congr 1
    exact List.filter_congr fun S _ => by
      show decide ((S ++ [a]).length ≤ 1) = _
      rw [List.length_append]
      exact decide_eq_decide.mpr (by show S.length + 1 ≤ 1 ↔ _; omega)
  rw [lots_snoc, List.filter_append, List.length_append, e, List.length_map, lots0, ih, List.length_append]
  rfl
theorem cnt_every (nd : l.Nodup) (h : ∀ x y, (x, y) ∈ w ↔ x ∈ l ∧ y ∈ l ∧ x ≠ y) : cnt l w = l.length + 1 := by
  rw [← cnt_lots, ← lots1 l]
  congr 1
  refine List.filter_congr fun S mS => ?_
  have sub := lots_sub S mS
  have nS : S.Nodup := sub.nodup nd
  rw [Bool.eq_iff_iff, rl_iff, decide_eq_true_iff]
  constructor
  · intro q
    refine Classical.byContradiction fun big => ?_
    match S, big, nS, sub, q with
    | [], big, _, _, _ => exact big (by simp)
    | [_], big, _, _, _ => exact big (by simp)
    | a :: b :: T, _, nS, sub, q =>
      have ab : a ≠ b := fun e => by rw [List.nodup_cons] at nS; exact nS.1 (by rw [e]; exact List.mem_cons_self)
      obtain ⟨x, mx, ex⟩ := q (a :: b :: T) (fun _ m => m) (by simp)
      have ml : ∀ y ∈ a :: b :: T, y ∈ l := fun y m => sub.mem m
      have : hw w (a :: b :: T) x = true := by
        by_cases xa : x = a
        · exact hw_iff.mpr ⟨b, by simp, (h _ _).mpr ⟨ml b (by simp), ml x mx, by rw [xa]; exact Ne.symm ab⟩⟩
        · exact hw_iff.mpr ⟨a, by simp, (h _ _).mpr ⟨ml a (by simp), ml x mx, fun e => xa e.symm⟩⟩
      rw [this] at ex
      cases ex
  · intro le F s ne
    cases F with
    | nil => exact absurd rfl ne
    | cons x F =>
      refine ⟨x, List.mem_cons_self, ?_⟩
      rw [Bool.eq_false_iff]
      intro e
      obtain ⟨y, my, ey⟩ := hw_iff.mp e
      have ny := ((h _ _).mp ey).2.2
      have m1 := s x List.mem_cons_self
      have m2 := s y my
      match S, le, m1, m2 with
      | [], _, m1, _ => cases m1
      | [a], _, m1, m2 => exact ny ((List.mem_singleton.mp m2).trans (List.mem_singleton.mp m1).symm)
      | _ :: _ :: _, le, _, _ => simp at le
theorem pow_sum : ∀ {js : List Nat} {b : Nat}, js.Pairwise (· > ·) → (∀ j ∈ js, j < b) → (js.map (2 ^ ·)).sum < 2 ^ b ∧ ∀ i, (js.map (2 ^ ·)).sum.testBit i = decide (i ∈ js)
  | [], b, _, _ => ⟨Nat.two_pow_pos b, fun i => by simp⟩
  | j :: js, b, p, hb => by
    rw [List.pairwise_cons] at p
    obtain ⟨h1, h2⟩ := pow_sum (b := j) p.2 p.1
    have jb := hb j List.mem_cons_self
    rw [List.map_cons, List.sum_cons]
    have p1 : 2 ^ (j + 1) = 2 ^ j * 2 := Nat.pow_succ 2 j
    have p2 : 2 ^ (j + 1) ≤ 2 ^ b := Nat.pow_le_pow_right (by decide) jb
    refine ⟨by omega, fun i => ?_⟩
    by_cases e : i = j
    · subst e
      rw [Nat.testBit_two_pow_add_eq, h2]
      have : i ∉ js := fun m => absurd (p.1 i m) (by omega)
      simp [this]
    · by_cases lt : i < j
      · rw [Nat.testBit_two_pow_add_gt lt, h2]
        simp [e]
      · have : i ∉ js := fun m => by have := p.1 i m; omega
        rw [Nat.testBit_lt_two_pow (Nat.lt_of_lt_of_le (by omega : 2 ^ j + (js.map (2 ^ ·)).sum < 2 ^ (j + 1)) (Nat.pow_le_pow_right (by decide) (by omega)))]
        simp [e, this]
theorem pow_sum_up {js : List Nat} (p : js.Pairwise (· < ·)) (i : Nat) : (js.map (2 ^ ·)).sum.testBit i = decide (i ∈ js) := by
  have hp : js.reverse.Pairwise (· > ·) := by rw [List.pairwise_reverse]; exact p
  obtain ⟨b, hb⟩ : ∃ b, ∀ j ∈ js, j < b := by
    clear p hp
    induction js with
    | nil => exact ⟨0, fun j m => by cases m⟩
    | cons a js ih =>
      obtain ⟨b, hb⟩ := ih
      refine ⟨max b (a + 1), fun j m => ?_⟩
      rcases List.mem_cons.mp m with rfl | m
      · omega
      · have := hb j m; omega
  have h := (pow_sum hp (fun j m => hb j (List.mem_reverse.mp m))).2 i
  rw [List.map_reverse, List.sum_reverse] at h
  rw [h]
  simp
theorem and_zero {a b : Nat} : (a &&& b = 0) ↔ ∀ i, ¬ (a.testBit i = true ∧ b.testBit i = true) := by
  constructor
  · intro h i ⟨h1, h2⟩
    have := Nat.testBit_and a b i
    rw [h, Nat.zero_testBit, h1, h2] at this
    cases this
  · intro h
    refine Nat.eq_of_testBit_eq fun i => ?_
    rw [Nat.testBit_and, Nat.zero_testBit]
    cases e1 : a.testBit i with
    | false => rfl
    | true =>
      cases e2 : b.testBit i with
      | false => rfl
      | true => exact absurd ⟨e1, e2⟩ (h i)
/-- who wakes whom, by places -/
theorem wk_free {js : List Nat} (p : js.Pairwise (· < ·)) (hj : ∀ j, j ∈ js ↔ ∃ y, l[j]? = some y ∧ (y, x) ∈ w) : ((js.map (2 ^ ·)).sum &&& m = 0) ↔ hw w (sel l m) x = false := by
  rw [and_zero, Bool.eq_false_iff]
  constructor
  · intro h e
    obtain ⟨y, my, ey⟩ := hw_iff.mp e
    obtain ⟨i, h1, h2⟩ := mem_sel.mp my
    exact h i ⟨by rw [pow_sum_up p]; exact decide_eq_true ((hj i).mpr ⟨y, h1, ey⟩), h2⟩
  · intro h i ⟨h1, h2⟩
    rw [pow_sum_up p] at h1
    obtain ⟨y, q1, q2⟩ := (hj i).mp (of_decide_eq_true h1)
    exact h (hw_iff.mpr ⟨y, mem_sel.mpr ⟨i, q1, h2⟩, q2⟩)
end
end DL.K42
namespace DL.K20
open PySem L2 K04 K18
open K14 hiding pd PO PO.mono callT callN purse_ok cell_ok walk_ok
open K25 (big within_ok)
end DL.K20
namespace DL.K41
open PySem L2 K14 K08 K13
open K04 hiding pd PO
open K57 (sub_end take_snoc pull_sub at_last)
section
variable {l d m f : List Str} {w : List (Str × Str)} {n : Str}
/-- who is ahead, as data -/
noncomputable def gD (g : Str → Option Str) (x : Str) : D := match g x with
  | none => .non
  | some b => .str b
end
end DL.K41
namespace DL.K41
open PySem L2 K14 K08 K13
open K04 hiding pd PO
open K57 (sub_end take_snoc pull_sub at_last mem_st)
end DL.K41
namespace DL.K41
open PySem L2 K14 K08 K13
open K04 hiding pd PO
open K57 (sub_end take_snoc pull_sub at_last mem_st step_ok sortSet1)
section
variable {l d m f s c t : List Str} {w : List (Str × Str)} {n o : Str}
end
end DL.K41
namespace DL
open PySem L2
theorem andBB {ta tb : Env → Out Bool} {e : Env} {a b : Bool} (h : ta e = .ok a e) (h2 : tb e = .ok b e) : andT ta tb e = .ok (a && b) e := and3 h (by
  cases a with
  | true => exact (if_pos rfl).trans h2
  | false => exact if_neg (by decide))
theorem dcL_gen {α : Type} {it : α → D} {ky : α → Str} {vl : α → D} {e : Env} {vs : List Nat} {rg : D → Env → Option Env} {rt : Env → Out Bool} {rk rv : Env → Out D} : ∀ (l : List α) (kd : List (Key × D)), (l.map ky).Nodup → (∀ a ∈ l, (Sum.inr (ky a) : Key) ∉ kd.map (·.1)) →
    (∀ a ∈ l, ∃ e2, rg (it a) e = some e2 ∧ freeE e2 vs = true ∧ rt e2 = .ok true e2 ∧ rk e2 = .ok (.str (ky a)) e2 ∧ rv e2 = .ok (vl a) e2 ∧ wipeE e2 vs = e) → dcL vs rg rt rk rv (l.map it) kd e = .ok (kd ++ l.map fun a => (.inr (ky a), vl a)) e
  | [], kd, _, _, _ => by simp [dcL]
  | a :: l, kd, n, hk, h => by
    rw [List.map_cons] at n
    obtain ⟨n1, n2⟩ := List.nodup_cons.mp n
    obtain ⟨e2, h1, h2, h3, h4, h5, h6⟩ := h a List.mem_cons_self
    have ih := dcL_gen l (kd ++ [(.inr (ky a), vl a)]) n2 (fun b m z => by
      rw [List.map_append, List.mem_append] at z
      rcases z with z | z
      · exact hk b (List.mem_cons_of_mem _ m) z
      · simp at z; exact n1 (z ▸ List.mem_map.mpr ⟨b, m, rfl⟩)) fun b m => h b (List.mem_cons_of_mem _ m)
    show dcL vs rg rt rk rv (it a :: l.map it) kd e = _
    unfold dcL
    rw [h1]
    simp only [h2, if_true, h3, noEx, bind_ok, h4, h5, keyOf, h6]
    rw [putA_new (hk a List.mem_cons_self), ih]
    simp
theorem dcF_gen {α : Type} {it : α → D} {ky : α → Str} {vl : α → D} {e : Env} {vs : List Nat} {ri : Env → Out (List D)} {rg : D → Env → Option Env} {rt : Env → Out Bool} {rk rv : Env → Out D} {l : List α} (hi : ri e = .ok (l.map it) e) (fr : freeE e vs = true) (hl : l.length ≤ sizeLine) (hb : backE e (wipeE e vs) vs = e) (n : (l.map ky).Nodup)
    (h : ∀ a ∈ l, ∃ e2, rg (it a) (wipeE e vs) = some e2 ∧ freeE e2 vs = true ∧ rt e2 = .ok true e2 ∧ rk e2 = .ok (.str (ky a)) e2 ∧ rv e2 = .ok (vl a) e2 ∧ wipeE e2 vs = wipeE e vs) : dcF vs ri rg rt rk rv e = .ok (.K (l.map fun a => .inr (ky a)) (l.map vl)) e := by
  unfold dcF
  have hl' : (l.map it).length ≤ sizeLine := by simpa using hl
  rw [hi]
  simp only [bind_ok, fr, hl', decide_true, Bool.and_true, if_true]
  rw [dcL_gen l [] n (fun a _ m => by simp at m) h]
  simp only [noEx, bind_ok, hb, List.nil_append, List.map_map]
  rfl
theorem getA_pos {α : Type} [DecidableEq α] : ∀ {l : List Str} {f : Nat → D} {s : Nat} {a : Str}, a ∈ l → getA (.inr a) (l.map fun x => (Sum.inr x : Key)) ((List.range' s l.length).map f) = some (f (s + l.idxOf a))
  | [], _, _, _, m => by cases m
  | x :: l, f, s, a, m => by
    rw [List.map_cons, List.length_cons, List.range'_succ, List.map_cons]
    unfold getA
    by_cases e : x = a
    · subst e
      rw [if_pos rfl, List.idxOf_cons_self]
      rfl
    · rw [if_neg fun q => e (Sum.inr.inj q)]
      have ma : a ∈ l := by
        rcases List.mem_cons.mp m with q | q
        · exact absurd q.symm e
        · exact q
      rw [getA_pos (α := α) (s := s + 1) ma]
      have : (x :: l).idxOf a = l.idxOf a + 1 := by
        have hb : (x == a) = false := by simpa using e
        rw [List.idxOf_cons, hb]
        rfl
      rw [this]
      congr 2
      omega
theorem band_nat (a b : Nat) : Builtin.bitAnd (a : Int) (b : Int) = ((a &&& b : Nat) : Int) := by
  unfold Builtin.bitAnd
  rw [decide_eq_true (Int.natCast_nonneg a), decide_eq_true (Int.natCast_nonneg b)]
  rfl
end DL
namespace DL.K42
open PySem L2
open K04 (Bl Wk webD fr setD_fr r1_ok wak mem_wak ri_wak fld_bells fld_wakes meth1 c_wakers tg2)
open K05 (l1000)
open K41 (hw hw_iff)
section
variable {l : List Str} {w : List (Str × Str)} {a x y : Str} {m k : Nat}
theorem idx_at (nd : l.Nodup) {j : Nat} (h : l[j]? = some y) : l.idxOf y = j := by
  obtain ⟨hj, e⟩ := List.getElem?_eq_some_iff.mp h
  have m : y ∈ l := List.mem_of_getElem? h
  have lt : l.idxOf y < l.length := List.idxOf_lt_length_iff.mpr m
  have e2 : l[l.idxOf y] = y := List.getElem_idxOf lt
  exact (List.getElem_inj nd).mp (e2.trans e.symm)
/-- the places of who wakes a bell -/
noncomputable def js (l : List Str) (w : List (Str × Str)) (a : Str) : List Nat := (wak w a).map fun o => l.idxOf o
theorem js_mem (h : Bl l) (hwk : Wk l w) {j : Nat} : j ∈ js l w a ↔ ∃ y, l[j]? = some y ∧ (y, a) ∈ w := by
  unfold js
  rw [List.mem_map]
  have nd := h.ri.nodup ordS
  constructor
  · rintro ⟨y, my, rfl⟩
    have mw := mem_wak.mp my
    have ml := (hwk.mem _ mw).1
    have lt : l.idxOf y < l.length := List.idxOf_lt_length_iff.mpr ml
    exact ⟨y, by rw [List.getElem?_eq_getElem lt, List.getElem_idxOf lt], mw⟩
  · rintro ⟨y, h1, h2⟩
    exact ⟨y, mem_wak.mpr h2, idx_at nd h1⟩
theorem js_up (h : Bl l) (hwk : Wk l w) : (js l w a).Pairwise (· < ·) := by
  unfold js
  rw [List.pairwise_map]
  have nd := h.ri.nodup ordS
  have sub : ∀ y ∈ wak w a, y ∈ l := fun y m => (hwk.mem _ (mem_wak.mp m)).1
  refine (List.Pairwise.and_mem.mp (ri_wak hwk.ri a)).imp fun {x y} hh => ?_
  obtain ⟨mx, my, lt⟩ := hh
  have lx := List.idxOf_lt_length_iff.mpr (sub x mx)
  have ly := List.idxOf_lt_length_iff.mpr (sub y my)
  have ex : l[l.idxOf x] = x := List.getElem_idxOf lx
  have ey : l[l.idxOf y] = y := List.getElem_idxOf ly
  refine Classical.byContradiction fun no => ?_
  by_cases e : l.idxOf x = l.idxOf y
  · have : x = y := by rw [← ex, ← ey]; simp [e]
    rw [this, ltS_irr] at lt
    cases lt
  · have := List.pairwise_iff_getElem.mp h.ri (l.idxOf y) (l.idxOf x) ly lx (by omega)
    rw [ex, ey] at this
    have z := ltS_trans lt this
    rw [ltS_irr] at z
    cases z
/-- its wakers' number -/
noncomputable def wn (l : List Str) (w : List (Str × Str)) (a : Str) : Nat := ((js l w a).map (2 ^ ·)).sum
theorem shr_nat (m k : Nat) : shrF (.int (m : Int)) (.int (k : Int)) = some (.int ((m / 2 ^ k : Nat) : Int)) := by
  show (if decide ((0 : Int) ≤ (k : Int)) = true then some (D.int ((m : Int) / 2 ^ ((k : Int)).toNat)) else none) = _
  rw [if_pos (decide_eq_true (Int.natCast_nonneg k)), Int.toNat_natCast]
  rfl
theorem shl_one (k : Nat) (hk : k ≤ 1000) : shlF (.int 1) (.int (k : Int)) = some (.int ((2 ^ k : Nat) : Int)) := by
  show (if decide ((0 : Int) ≤ (k : Int) ∧ (k : Int) ≤ 1000000 ∧ (1 : Int).natAbs < 18446744073709551616) = true then some (D.int ((1 : Int) * 2 ^ ((k : Int)).toNat)) else none) = _
  rw [if_pos (decide_eq_true ⟨Int.natCast_nonneg k, by omega, by decide⟩), Int.toNat_natCast, Int.one_mul]
  congr 2
theorem band_ok (a b : Nat) : bandF (.int (a : Int)) (.int (b : Int)) = some (.int ((a &&& b : Nat) : Int)) := by
  show some (D.int (Builtin.bitAnd (a : Int) (b : Int))) = _
  rw [band_nat]
theorem bit_eq (m k : Nat) : decide (((m / 2 ^ k &&& 1 : Nat) : Int) = 1) = m.testBit k := by
  rw [Nat.testBit_eq_decide_div_mod_eq, Nat.and_one_is_mod]
  exact decide_eq_decide.mpr (by omega)
theorem ifNil (ks : List Nat) : eqF false (.lst (ks.map fun (k : Nat) => D.int (k : Int))) (.lst []) = some (.bl (decide (ks = []))) := by
  have := eqF_lI false (ks.map fun (k : Nat) => (k : Int)) []
  rw [List.map_map] at this
  refine Eq.trans this ?_
  congr 2
  show decide _ = decide _
  exact decide_eq_decide.mpr List.map_eq_nil_iff
theorem many_ok (h : Bl l) (hwk : Wk l w) : f_how_many_stands [.dat (webD l w)] = .ok (.int (cnt l w : Int)) [.dat (webD l w)] := by
  refine Wp.out (fn_wp ?_)
  unfold b_how_many_stands
  have lk := l1000
  have l12 := h.hi
  have lo := h.lo
  have nd := h.ri.nodup ordS
  have w144 := hwk.len
  have sL : l.length ≤ sizeLine := by omega
  have big : (200000 : Nat) ≤ sizeLine := by decide
  have s1 : 1 ≤ sizeLine := by omega
  have p12 : 2 ^ l.length ≤ 4096 := Nat.pow_le_pow_right (n := 2) (by decide) l12
  have U : Env := [.dat (webD l w), .un, .un, .un, .un, .un, .un, .un, .un]
  refine wp_seq (wp_eq (a := .nx) (e := [.dat (webD l w), .un, .un, .un, .un, .un, .un, .un, .un]) (drop1 (callS1 (cRd (nm1 rfl) nR) nR (fnC2 (K14.check_web_ok (l := l) (w := w)) rfl rfl))) ?_)
  let pl : D := .dK (l.map fun x => (Sum.inr x : Key)) ((List.range' 0 l.length).map fun (i : Nat) => D.int (i : Int))
  have hz : l.zipIdx.map (·.2) = List.range' 0 l.length := List.zipIdx_map_snd 0 l
  have hz1 : l.zipIdx.map (·.1) = l := List.zipIdx_map_fst 0 l
  have it0 : itEA (consA (fldD ("Web" : Str) ("bells" : Str) (nameD 0)) nilA) [.dat (webD l w), .un, .un, .un, .un, .un, .un, .un, .un] = .ok (l.zipIdx.map fun p => D.tu [.int (p.2 : Nat), .str p.1]) [.dat (webD l w), .un, .un, .un, .un, .un, .un, .un, .un] := by
    refine (itEA2 (fld1 (nm1 rfl) (fld_bells _ _))).trans ?_
    unfold enL
    rw [List.zipIdx_map, List.map_map]
    rfl
  have cp : dcF [6, 7] (itEA (consA (fldD ("Web" : Str) ("bells" : Str) (nameD 0)) nilA)) (setTup 2 (setCons (setD 6) (setCons (setD 7) setNil))) yesT (nameD 7) (nameD 6) [.dat (webD l w), .un, .un, .un, .un, .un, .un, .un, .un] = .ok (.K (l.map fun x => (Sum.inr x : Key)) ((List.range' 0 l.length).map fun (i : Nat) => D.int (i : Int))) [.dat (webD l w), .un, .un, .un, .un, .un, .un, .un, .un] := by
    have := dcF_gen (it := fun p : Str × Nat => D.tu [.int (p.2 : Nat), .str p.1]) (ky := fun p => p.1) (vl := fun p => D.int (p.2 : Int)) (l := l.zipIdx) (vs := [6, 7]) (rg := setTup 2 (setCons (setD 6) (setCons (setD 7) setNil))) (rt := yesT) (rk := nameD 7) (rv := nameD 6) it0 rfl (by rw [List.length_zipIdx]; exact sL) rfl (by rw [hz1]; exact nd) fun p _ => ⟨[.dat (webD l w), .un, .un, .un, .un, .un, .dat (.int (p.2 : Nat)), .dat (.str p.1), .un], rfl, rfl, rfl, rfl, rfl, rfl⟩
    have e1 : (l.zipIdx.map fun p => (Sum.inr p.1 : Key)) = l.map fun x => (Sum.inr x : Key) := by
      have : (l.zipIdx.map fun p => (Sum.inr p.1 : Key)) = (l.zipIdx.map (·.1)).map fun x => (Sum.inr x : Key) := by rw [List.map_map]; rfl
      rw [this, hz1]
    have e2 : (l.zipIdx.map fun p => D.int (p.2 : Int)) = (List.range' 0 l.length).map fun (i : Nat) => D.int (i : Int) := by
      rw [← hz, List.map_map]; rfl
    rw [e1, e2] at this
    exact this
  let E : SV → SV → SV → SV → Env := fun x2 x3 x4 x5 => [.dat (webD l w), .dat pl, x2, x3, x4, x5, .un, .un, .un]
  refine wp_seq (wp_eq (a := .nx) (e := E .un .un .un .un) (asg1 (heldO1 cp) rfl rfl) ?_)
  have cw : compF [7] (itA (fldD ("Web" : Str) ("bells" : Str) (nameD 0))) (setD 7) yesT (callD (one sumF) (consA (heldD (compF [8] (itA (methS ("Web" : Str) ("wakers" : Str) K04.f_Web_wakers [] (nameD 0) (consRd (nameD 7) nilR))) (setD 8) yesT (bin2 (pur2 shlF) (constD (.int 1)) (bin2 (pur2 ixA) (nameD 1) (nameD 8))))) nilA)) (E .un .un .un .un) = .ok ((l.filter fun _ => true).map fun a => D.int (wn l w a : Int)) (E .un .un .un .un) :=
    compF_map (f := D.str) (itT1 (fld1 (nm1 rfl) (fld_bells _ _))) rfl sL rfl fun a ma => ⟨[.dat (webD l w), .dat pl, .un, .un, .un, .un, .un, .dat (.str a), .un], rfl, rfl, rfl, rfl, fun _ => by
      have ck := K04.wakers_ok h hwk ma
      have sub : ∀ y ∈ wak w a, y ∈ l := fun y m => (hwk.mem _ (mem_wak.mp m)).1
      have wl : (wak w a).length ≤ sizeLine := Nat.le_trans (List.Nodup.length_le_of_subset ((ri_wak hwk.ri a).nodup ordS) sub) sL
      have c8 : compF [8] (itA (methS ("Web" : Str) ("wakers" : Str) K04.f_Web_wakers [] (nameD 0) (consRd (nameD 7) nilR))) (setD 8) yesT (bin2 (pur2 shlF) (constD (.int 1)) (bin2 (pur2 ixA) (nameD 1) (nameD 8))) [.dat (webD l w), .dat pl, .un, .un, .un, .un, .un, .dat (.str a), .un] = .ok (((wak w a).filter fun _ => true).map fun o => D.int ((2 ^ l.idxOf o : Nat) : Int)) [.dat (webD l w), .dat pl, .un, .un, .un, .un, .un, .dat (.str a), .un] :=
        compF_map (f := D.str) (itT1 (meth1 c_wakers (nm1 rfl) (nm1 rfl) ck)) rfl wl rfl fun o mo => ⟨[.dat (webD l w), .dat pl, .un, .un, .un, .un, .un, .dat (.str a), .dat (.str o)], rfl, rfl, rfl, rfl, fun _ => by
          have ix : ixA pl (.str o) = some (.int ((l.idxOf o : Nat) : Int)) := by
            have := getA_pos (α := Nat) (f := fun (i : Nat) => D.int (i : Int)) (s := 0) (sub o mo)
            rw [Nat.zero_add] at this
            exact this
          have lt : l.idxOf o < l.length := List.idxOf_lt_length_iff.mpr (sub o mo)
          exact bin1 cn1 (bin1 (nm1 rfl) (nm1 rfl) ix) (shl_one _ (by omega))⟩
      rw [List.filter_eq_self.mpr fun _ _ => rfl] at c8
      refine callo (held_ok c8) ((sumF_map (fun o => ((2 ^ l.idxOf o : Nat) : Int)) _).trans ?_)
      rw [int_sum]
      unfold wn js
      rw [List.map_map]
      rfl⟩
  rw [List.filter_eq_self.mpr fun _ _ => rfl] at cw
  let X2 : SV := .dat (.lst (l.map fun a => D.int (wn l w a : Int)))
  refine wp_seq (wp_eq (a := .nx) (e := E X2 .un .un .un) (asg1 (held_ok cw) rfl rfl) ?_)
  let rl : Nat → SV := fun n => .own (.L ((List.range n).map fun m => D.int (g1 l w m : Int)))
  have g0 : (List.range 1).map (fun m => D.int (g1 l w m : Int)) = [.int 1] := by
    show [D.int (g1 l w 0 : Int)] = _
    rw [g1_zero]; rfl
  refine wp_seq (wp_eq (a := .nx) (e := E X2 (rl 1) (fr none) (fr none)) ((asgO1 (lst1 (consA2 cn1 nA) s1) rfl rfl).trans (by show Out.ok Fl.nx (E X2 (.own (.L [.int 1])) .un .un) = _; rw [← g0]; rfl)) ?_)
  have itr : itR2 (consA (constD (.int 1)) (consA (bin2 (pur2 shlF) (constD (.int 1)) (callD (one lenF) (consA (fldD ("Web" : Str) ("bells" : Str) (nameD 0)) nilA))) nilA)) (E X2 (rl 1) (fr none) (fr none)) = .ok (rgL 1 (2 ^ l.length - 1)) (E X2 (rl 1) (fr none) (fr none)) := by
    have c1 : consA (constD (.int 1)) (consA (bin2 (pur2 shlF) (constD (.int 1)) (callD (one lenF) (consA (fldD ("Web" : Str) ("bells" : Str) (nameD 0)) nilA))) nilA) (E X2 (rl 1) (fr none) (fr none)) = .ok [.int 1, .int ((2 ^ l.length : Nat) : Int)] (E X2 (rl 1) (fr none) (fr none)) := consA2 cn1 (consA2 (bin1 cn1 (callo (fld1 (nm1 rfl) (fld_bells _ _)) (len_tm _ _)) (shl_one _ (by omega))) nA)
    unfold itR2
    rw [c1, bind_ok]
    have o1 : okR 1 = true := by decide
    have o2 : okR ((2 ^ l.length : Nat) : Int) = true := decide_eq_true ⟨Int.le_trans (by decide) (Int.natCast_nonneg _), Int.lt_of_le_of_lt (Int.ofNat_le.mpr p12) (by decide)⟩
    have o3 : (((2 ^ l.length : Nat) : Int) - 1).toNat = 2 ^ l.length - 1 := by
      generalize 2 ^ l.length = N
      omega
    show (if (okR 1 && okR ((2 ^ l.length : Nat) : Int)) = true then Out.ok (rgL 1 (((2 ^ l.length : Nat) : Int) - 1).toNat) _ else .no) = _
    rw [o1, o2, o3]
    rfl
  let P : Nat → Env → Prop := fun i e => ∃ o4 o5, e = E X2 (rl (i + 1)) (fr o4) (fr o5)
  have pw1 := Nat.two_pow_pos l.length
  have hNN : ∃ N, N = 2 ^ l.length - 1 := ⟨_, rfl⟩
  obtain ⟨N, hN⟩ := hNN
  rw [← hN] at itr
  refine wp_seq (wp_for P (rgL 1 N) _ itr ⟨none, none, rfl⟩ ?_ ?_)
  · rintro i d e hd ⟨o4, o5, rfl⟩
    unfold rgL at hd
    rw [List.getElem?_map] at hd
    obtain ⟨i', hi', rfl⟩ := Option.map_eq_some_iff.mp hd
    have hi : i < N := by have := (List.getElem?_eq_some_iff.mp hi').1; simpa using this
    rw [List.getElem?_range hi] at hi'
    have ei := (Option.some.inj hi').symm
    subst ei
    obtain ⟨m, hm⟩ : ∃ m, m = i' + 1 := ⟨_, rfl⟩
    have em : (1 + (i' : Int)) = ((m : Nat) : Int) := by omega
    rw [em]
    have m0 : m ≠ 0 := by omega
    have mlt : m < 2 ^ l.length := by omega
    refine ⟨E X2 (rl m) (.dat (.int (m : Int))) (fr o5), by rw [← hm]; exact setD_fr (o := o4) rfl, by rw [← hm]; cases o4 <;> cases o5 <;> rfl, ?_⟩
    have cf : compF [6] (itR1 (consA (callD (one lenF) (consA (fldD ("Web" : Str) ("bells" : Str) (nameD 0)) nilA)) nilA)) (setD 6) (andT (valT (bin2 (pur2 (eqF false)) (bin2 (pur2 bandF) (bin2 (pur2 shrF) (nameD 4) (nameD 6)) (constD (.int 1))) (constD (.int 1)))) (valT (bin2 (pur2 (eqF false)) (bin2 (pur2 bandF) (bin2 (pur2 ixA) (nameD 2) (nameD 6)) (nameD 4)) (constD (.int 0))))) (nameD 6) (E X2 (rl m) (.dat (.int (m : Int))) (fr o5)) = .ok ((frees l w m).map fun (k : Nat) => D.int (k : Int)) (E X2 (rl m) (.dat (.int (m : Int))) (fr o5)) := by
      refine compF_map (f := fun (k : Nat) => D.int (k : Int)) (g := fun (k : Nat) => D.int (k : Int)) (p := fun k => m.testBit k && !hw w (sel l m) (l.getD k ⟨#[]⟩)) (l := List.range l.length) (r1_ok (callo (fld1 (nm1 rfl) (fld_bells _ _)) (len_tm _ _)) (by omega)) (by cases o5 <;> rfl) (by rw [List.length_range]; exact sL) (by cases o5 <;> rfl) fun k mk => ⟨[.dat (webD l w), .dat pl, X2, rl m, .dat (.int (m : Int)), fr o5, .dat (.int (k : Int)), .un, .un], rfl, by cases o5 <;> rfl, by cases o5 <;> rfl, ?_, fun _ => nm1 rfl⟩
      have hk := List.mem_range.mp mk
      have hx : l[k]? = some l[k] := List.getElem?_eq_getElem hk
      rw [getD_some hx]
      have t1 : valT (bin2 (pur2 (eqF false)) (bin2 (pur2 bandF) (bin2 (pur2 shrF) (nameD 4) (nameD 6)) (constD (.int 1))) (constD (.int 1))) [.dat (webD l w), .dat pl, X2, rl m, .dat (.int (m : Int)), fr o5, .dat (.int (k : Int)), .un, .un] = .ok (m.testBit k) [.dat (webD l w), .dat pl, X2, rl m, .dat (.int (m : Int)), fr o5, .dat (.int (k : Int)), .un, .un] := by
        rw [← bit_eq]
        exact val1 (bin1 (bin1 (bin1 (nm1 rfl) (nm1 rfl) (shr_nat m k)) cn1 (band_ok _ 1)) cn1 (eqF_int false _ _))
      have ix : ixA (.lst (l.map fun a => D.int (wn l w a : Int))) (.int (k : Int)) = some (.int (wn l w l[k] : Int)) := (ix_lst (by rw [List.getElem?_map, hx]; rfl) : ixF (.lst (l.map fun a => D.int (wn l w a : Int))) (.int (k : Int)) = _)
      have e0 : decide (((wn l w l[k] &&& m : Nat) : Int) = 0) = !hw w (sel l m) l[k] := by
        have := wk_free (m := m) (js_up (a := l[k]) h hwk) fun j => js_mem h hwk
        cases e : hw w (sel l m) l[k] with
        | false =>
          have z : wn l w l[k] &&& m = 0 := this.mpr e
          rw [z]; rfl
        | true =>
          have z : ¬ wn l w l[k] &&& m = 0 := fun z => by rw [this.mp z] at e; cases e
          exact decide_eq_false (by omega)
      have t2 : valT (bin2 (pur2 (eqF false)) (bin2 (pur2 bandF) (bin2 (pur2 ixA) (nameD 2) (nameD 6)) (nameD 4)) (constD (.int 0))) [.dat (webD l w), .dat pl, X2, rl m, .dat (.int (m : Int)), fr o5, .dat (.int (k : Int)), .un, .un] = .ok (!hw w (sel l m) l[k]) [.dat (webD l w), .dat pl, X2, rl m, .dat (.int (m : Int)), fr o5, .dat (.int (k : Int)), .un, .un] := by
        rw [← e0]
        exact val1 (bin1 (bin1 (bin1 (nm1 rfl) (nm1 rfl) ix) (nm1 rfl) (band_ok _ m)) cn1 (eqF_int false _ _))
      exact andBB t1 t2
    let X5 : SV := .dat (.lst ((frees l w m).map fun (k : Nat) => D.int (k : Int)))
    refine wp_seq (wp_eq (a := .nx) (e := E X2 (rl m) (.dat (.int (m : Int))) X5) (asg1 (held_ok cf) (setD_fr (o := o5) rfl) (by cases o5 <;> rfl)) ?_)
    have ve : ifD (valT (bin2 (pur2 (eqF false)) (nameD 5) (heldD (lstF nilA)))) (constD (.int 0)) (ownIx 3 (bin2 (pur2 subF) (nameD 4) (bin2 (pur2 shlF) (constD (.int 1)) (bin2 (pur2 ixF) (nameD 5) (constD (.int 0)))))) (E X2 (rl m) (.dat (.int (m : Int))) X5) = .ok (.int (g1 l w m : Int)) (E X2 (rl m) (.dat (.int (m : Int))) X5) := by
      have gs := g1_step nd m0 mlt (w := w)
      have tst5 : valT (bin2 (pur2 (eqF false)) (nameD 5) (heldD (lstF nilA))) (E X2 (rl m) (.dat (.int (m : Int))) X5) = .ok (decide (frees l w m = [])) (E X2 (rl m) (.dat (.int (m : Int))) X5) := val1 (bin1 (nm1 rfl) (held_ok (lst1 nA (Nat.zero_le _))) (ifNil _))
      cases e : frees l w m with
      | nil =>
        rw [e] at gs tst5
        rw [gs]
        exact ifDt tst5 cn1
      | cons k ks =>
        rw [e] at gs
        rw [decide_eq_false (by rw [e]; simp)] at tst5
        obtain ⟨hk, _, ge, _⟩ := tab_cons nd e
        have p1 := Nat.two_pow_pos k
        rw [gs]
        have ix0 : ixF (.lst ((frees l w m).map fun (k : Nat) => D.int (k : Int))) (.int 0) = some (.int (k : Int)) := ix_lst (k := 0) (by rw [e]; rfl)
        have sb : subF (.int (m : Int)) (.int ((2 ^ k : Nat) : Int)) = some (.int ((m - 2 ^ k : Nat) : Int)) := by
          show some (D.int ((m : Int) - ((2 ^ k : Nat) : Int))) = _
          rw [(Int.ofNat_sub ge : ((m - 2 ^ k : Nat) : Int) = _)]
        exact ifDf tst5 (ownIx1 (l := (List.range m).map fun m => D.int (g1 l w m : Int)) rfl (bin1 (nm1 rfl) (bin1 cn1 (bin1 (nm1 rfl) cn1 ix0) (shl_one _ (by omega))) sb) rfl (atI_nat (by rw [List.getElem?_map, List.getElem?_range (by omega)]; rfl)))
    have st : appS 3 (ifD (valT (bin2 (pur2 (eqF false)) (nameD 5) (heldD (lstF nilA)))) (constD (.int 0)) (ownIx 3 (bin2 (pur2 subF) (nameD 4) (bin2 (pur2 shlF) (constD (.int 1)) (bin2 (pur2 ixF) (nameD 5) (constD (.int 0))))))) (E X2 (rl m) (.dat (.int (m : Int))) X5) = .ok .nx (E X2 (rl (m + 1)) (.dat (.int (m : Int))) X5) :=
      DL.app1 (l := (List.range m).map fun m => D.int (g1 l w m : Int)) rfl ve rfl (by rw [List.length_map, List.length_range]; omega) (by
        have e1 : ((List.range (m + 1)).map fun m => D.int (g1 l w m : Int)) = ((List.range m).map fun m => D.int (g1 l w m : Int)) ++ [.int (g1 l w m : Int)] := by rw [List.range_succ, List.map_append]; rfl
        show _ = some ([SV.dat (webD l w), SV.dat pl, X2, SV.own (.L ((List.range (m + 1)).map fun m => D.int (g1 l w m : Int))), SV.dat (.int (m : Int)), X5, SV.un, SV.un, SV.un] : Env)
        rw [e1]
        rfl)
    exact wp_seq (wp_eq (a := .nx) st (wp_nx.mpr ⟨rfl, some _, some _, by rw [hm]; rfl⟩))
  · rintro e' ⟨o4, o5, rfl⟩
    have e1 : (rgL 1 N).length + 1 = 2 ^ l.length := by
      unfold rgL
      rw [List.length_map, List.length_range]
      omega
    rw [e1]
    have sm : sumF (.lst ((List.range (2 ^ l.length)).map fun m => D.int (g1 l w m : Int))) = some (.int (cnt l w : Int)) := by
      refine (sumF_map (fun m => (g1 l w m : Int)) _).trans ?_
      rw [int_sum]
      rfl
    exact wp_seq (wp_eq (ret1 (callo (nmO (o := .L ((List.range (2 ^ l.length)).map fun m => D.int (g1 l w m : Int))) rfl) sm)) ⟨rfl, rfl⟩)
end
end DL.K42
namespace DL.K42
open PySem L2
open K04 (Bl Wk webD fr setD_fr r1_ok fld_bells fld_wakes)
open K05 (l1000)
open K41 (hw hw_iff nx itn itn_sub itn_len)
open K14 (lsD)
open K57 (at_last)
section
variable {l d : List Str} {w : List (Str × Str)} {a x y : Str} {m k : Nat}
theorem lots_ok (h : Bl l) (h7 : l.length ≤ 7) : K13.f_law_stands [.dat (.tup (l.map .str))] = .ok (lsD (lots l)) [.dat (.tup (l.map .str))] := by
  refine Wp.out (fn_wp ?_)
  unfold K13.b_law_stands
  have lk := l1000
  refine wp_seq (wp_eq (a := .nx) (e := [.dat (.tup (l.map .str)), .dat (lsD [[]]), fr none, .un]) (asg1 (held_ok (lst1 (consA2 (tup1 nA (Nat.zero_le _)) nA) (show 1 ≤ sizeLine by decide))) rfl rfl) ?_)
  refine wp_seq (wp_for (fun i e => ∃ (o : Option D), e = [.dat (.tup (l.map .str)), .dat (lsD (lots (l.take i))), fr o, .un]) _ _ (itT1 (nm1 rfl)) ⟨none, rfl⟩ ?_ ?_)
  · rintro i d e hd ⟨o, rfl⟩
    rw [List.getElem?_map] at hd
    obtain ⟨a, hx, rfl⟩ := Option.map_eq_some_iff.mp hd
    have hi : i < l.length := (List.getElem?_eq_some_iff.mp hx).1
    have tk : l.take (i + 1) = l.take i ++ [a] := by rw [List.take_add_one, hx]; rfl
    refine ⟨[.dat (.tup (l.map .str)), .dat (lsD (lots (l.take i))), .dat (.str a), .un], setD_fr (o := o) rfl, by cases o <;> rfl, ?_⟩
    have hlen : (lots (l.take i)).length ≤ 64 := by
      unfold lots
      rw [List.length_map, List.length_range, List.length_take]
      exact Nat.pow_le_pow_right (n := 2) (by decide) (show min i l.length ≤ 6 by omega)
    have hs : ∀ s ∈ lots (l.take i), s.length ≤ 12 := fun s ms => by
      have := (lots_sub s ms).length_le
      rw [List.length_take] at this
      omega
    rw [tk, lots_snoc]
    generalize lots (l.take i) = sts at hlen hs
    have ls : sts.length ≤ sizeLine := by omega
    have cc : compF [3] (itA (nameD 1)) (setD 3) yesT (bin2 (pur2 addF) (nameD 3) (tupD (consA (nameD 2) nilA))) [.dat (.tup (l.map .str)), .dat (lsD sts), .dat (.str a), .un] = .ok ((sts.filter fun _ => true).map fun s => .tup ((s ++ [a]).map .str)) [.dat (.tup (l.map .str)), .dat (lsD sts), .dat (.str a), .un] :=
      compF_map (f := fun s => .tup (s.map .str)) (itL1 (nm1 rfl)) rfl ls rfl fun s m => ⟨[.dat (.tup (l.map .str)), .dat (lsD sts), .dat (.str a), .dat (.tup (s.map .str))], rfl, rfl, rfl, rfl, fun _ => bin1 (nm1 rfl) (tup1 (consA2 (nm1 rfl) nA) (show 1 ≤ sizeLine by decide)) (by
        rw [List.map_append]
        refine addT ?_
        have := hs s m
        simp
        omega)⟩
    rw [List.filter_eq_self.mpr fun _ _ => rfl] at cc
    have ad : addF (lsD sts) (.lst (sts.map fun s => .tup ((s ++ [a]).map .str))) = some (lsD (sts ++ sts.map (· ++ [a]))) := by
      unfold lsD
      rw [List.map_append, List.map_map]
      refine addL ?_
      rw [List.length_map, List.length_map]
      omega
    exact wp_seq (wp_eq (a := .nx) (e := [.dat (.tup (l.map .str)), .dat (lsD (sts ++ sts.map (· ++ [a]))), .dat (.str a), .un]) (asg1 (bin1 (nm1 rfl) (held_ok cc) ad) rfl rfl) (wp_nx.mpr ⟨rfl, some _, rfl⟩))
  · rintro e' ⟨o, rfl⟩
    rw [List.length_map, List.take_length]
    exact wp_seq (wp_eq (ret1 (nm1 rfl)) ⟨rfl, rfl⟩)
theorem ringless_ok (h : Bl l) (hwk : Wk l w) (hd : ∀ x ∈ d, x ∈ l) (nd : d.Nodup) : K41.f_law_ringless [.dat (.tup (w.map dP)), .dat (.tup (d.map .str))] = .ok (.bl (RL w d)) [.dat (.tup (w.map dP)), .dat (.tup (d.map .str))] := by
  refine Wp.out (fn_wp ?_)
  unfold K41.b_law_ringless
  have lk := l1000
  have l12 := h.hi
  have dl : d.length ≤ 12 := Nat.le_trans (List.Nodup.length_le_of_subset nd hd) l12
  let E : List Str → SV → Env := fun L x3 => [.dat (.tup (w.map dP)), .dat (.tup (d.map .str)), .dat (.lst (L.map .str)), x3, .un, .un]
  refine wp_seq (wp_eq (a := .nx) (e := E d (fr none)) (asg1 (held_ok ((Ss.t d).list (consA2 (nm1 rfl) nA))) rfl rfl) ?_)
  have wz : w.length ≤ sizeLine := Nat.le_trans hwk.len (by decide)
  refine wp_seq (wp_for (fun i e => ∃ o3, e = E (itn w d i) (fr o3)) _ _ (r1_ok (n := d.length) (callo (nm1 rfl) (len_tm _ _)) (by omega)) ⟨none, rfl⟩ ?_ ?_)
  · rintro i dd e hdd ⟨o3, rfl⟩
    refine ⟨E (itn w d i) (.dat dd), setD_fr (o := o3) rfl, by cases o3 <;> rfl, ?_⟩
    have il := itn_len (w := w) (L := d) i
    have isub : ∀ x ∈ itn w d i, x ∈ d := fun x m => itn_sub m
    generalize hL : itn w d i = L at il isub
    have ci : ∀ x, x ∈ L → callD (one anyF) (consA (heldD (compF [5] (itA (nameD 0)) (setD 5) yesT (andD (bin2 (pur2 (eqF false)) (bin2 (pur2 ixF) (nameD 5) (constD (.int 1))) (nameD 4)) (bin2 (pur2 (inF false)) (bin2 (pur2 ixF) (nameD 5) (constD (.int 0))) (nameD 2))))) nilA) [.dat (.tup (w.map dP)), .dat (.tup (d.map .str)), .dat (.lst (L.map .str)), .dat dd, .dat (.str x), .un] = .ok (.bl (hw w L x)) [.dat (.tup (w.map dP)), .dat (.tup (d.map .str)), .dat (.lst (L.map .str)), .dat dd, .dat (.str x), .un] := fun x mx => by
      have cc : compF [5] (itA (nameD 0)) (setD 5) yesT (andD (bin2 (pur2 (eqF false)) (bin2 (pur2 ixF) (nameD 5) (constD (.int 1))) (nameD 4)) (bin2 (pur2 (inF false)) (bin2 (pur2 ixF) (nameD 5) (constD (.int 0))) (nameD 2))) [.dat (.tup (w.map dP)), .dat (.tup (d.map .str)), .dat (.lst (L.map .str)), .dat dd, .dat (.str x), .un] = .ok ((w.filter fun _ => true).map fun p => .bl (decide (p.2 = x) && decide (p.1 ∈ L))) [.dat (.tup (w.map dP)), .dat (.tup (d.map .str)), .dat (.lst (L.map .str)), .dat dd, .dat (.str x), .un] := by
        refine compF_map (f := dP) (itT1 (nm1 rfl)) rfl wz rfl fun p mp => ⟨[.dat (.tup (w.map dP)), .dat (.tup (d.map .str)), .dat (.lst (L.map .str)), .dat dd, .dat (.str x), .dat (dP p)], rfl, rfl, rfl, rfl, fun _ => ?_⟩
        have e1 : bin2 (pur2 (eqF false)) (bin2 (pur2 ixF) (nameD 5) (constD (.int 1))) (nameD 4) [.dat (.tup (w.map dP)), .dat (.tup (d.map .str)), .dat (.lst (L.map .str)), .dat dd, .dat (.str x), .dat (dP p)] = .ok (.bl (decide (p.2 = x))) [.dat (.tup (w.map dP)), .dat (.tup (d.map .str)), .dat (.lst (L.map .str)), .dat dd, .dat (.str x), .dat (dP p)] := bin1 (bin1 (nm1 rfl) cn1 (d := .str p.2) rfl) (nm1 rfl) (eqF_str false (h.sok _ (hwk.mem p mp).2) (h.sok x (hd x (isub x mx))))
        by_cases h1 : p.2 = x
        · rw [decide_eq_true h1] at e1 ⊢
          exact andD2 e1 (bin1 (bin1 (nm1 rfl) cn1 (d := .str p.1) rfl) (nm1 rfl) (inF_lS false _ _))
        · rw [decide_eq_false h1] at e1 ⊢
          exact andD1 e1
      rw [List.filter_eq_self.mpr fun _ _ => rfl] at cc
      exact callo (held_ok cc) (anyF_map _ _)
    have c1 : compF [4] (itA (nameD 2)) (setD 4) (valT (callD (one anyF) (consA (heldD (compF [5] (itA (nameD 0)) (setD 5) yesT (andD (bin2 (pur2 (eqF false)) (bin2 (pur2 ixF) (nameD 5) (constD (.int 1))) (nameD 4)) (bin2 (pur2 (inF false)) (bin2 (pur2 ixF) (nameD 5) (constD (.int 0))) (nameD 2))))) nilA))) (nameD 4) (E L (.dat dd)) = .ok ((L.filter (hw w L)).map .str) (E L (.dat dd)) :=
      compF_map (f := D.str) (itL1 (nm1 rfl)) rfl (by omega) rfl fun x m => ⟨[.dat (.tup (w.map dP)), .dat (.tup (d.map .str)), .dat (.lst (L.map .str)), .dat dd, .dat (.str x), .un], rfl, rfl, rfl, val1 (ci x m), fun _ => nm1 rfl⟩
    refine wp_seq (wp_eq (a := .nx) (e := E (nx w L) (.dat dd)) (asg1 (held_ok c1) rfl rfl) (wp_nx.mpr ⟨rfl, some dd, ?_⟩))
    rw [← hL]; rfl
  · rintro e' ⟨o3, rfl⟩
    rw [List.length_map, List.length_range]
    exact wp_seq (wp_eq (a := .rt (.bl (RL w d))) (e := E (itn w d d.length) (fr o3)) (ret1 (bin1 (nm1 rfl) (held_ok (lst1 nA (Nat.zero_le _))) (eqF_lS (m := []) false (fun x m => h.sok x (hd x (itn_sub m))) fun x m => (by cases m)))) ⟨rfl, rfl⟩)
theorem cnt_le (h : Bl l) : cnt l w ≤ 4096 := by
  have p12 : 2 ^ l.length ≤ 4096 := Nat.pow_le_pow_right (n := 2) (by decide) h.hi
  rw [← cnt_lots]
  refine Nat.le_trans (List.length_filter_le _ _) ?_
  unfold lots
  rw [List.length_map, List.length_range]
  exact p12
theorem mul_one2 {d : D} {n : Nat} (h : n ≤ 2) : mulA (.lst [d]) (.int (n : Int)) = some (.lst (List.replicate n d)) := by
  have : n = 0 ∨ n = 1 ∨ n = 2 := by omega
  rcases this with rfl | rfl | rfl <;> rfl
theorem rep_int {N n : Nat} (hN : N ≤ 4096) (hn : n ≤ 2) : reprA (.lst (List.replicate n (.int (N : Int)))) = some (.str (D.lst (List.replicate n (.int (N : Int)))).toP.shown) := by
  have s1 : Sh 0 41 (.int (N : Int)) := sh_int (by omega)
  exact repr_l (sh_lst (n := 0) (k := 41) (m := 2) (fun d m => by rw [(List.mem_replicate.mp m).2]; exact s1) (by rw [List.length_replicate]; exact hn))
theorem is_ok (h : Bl l) (hwk : Wk l w) : f_law_is [.dat (webD l w), .dat (.int (cnt l w : Int))] = .ok (.bl true) [.dat (webD l w), .dat (.int (cnt l w : Int))] := by
  have lk := l1000
  have s1 : 1 ≤ sizeLine := by omega
  have c1 := many_ok h hwk
  have cl := cnt_le (w := w) h
  generalize cnt l w = N at c1 cl
  refine Wp.out (fn_wp ?_)
  unfold b_law_is
  let E : List D → Env := fun L => [.dat (webD l w), .dat (.int (N : Int)), .own (.L L)]
  have c0 : callS (fnCall K42.f_how_many_stands) (posA []) (consRd (nameD 0) nilR) nilR [.dat (webD l w), .dat (.int (N : Int)), .un] = .ok (.int (N : Int)) [.dat (webD l w), .dat (.int (N : Int)), .un] := callS1 (cRd (nm1 rfl) nR) nR (fnC2 c1 rfl rfl)
  refine wp_seq (wp_eq (a := .nx) (e := E [.int (N : Int)]) (asgO1 (lst1 (consA2 c0 nA) s1) rfl rfl) ?_)
  have ct : valT (bin2 (pur2 ltF) (callD (one lenF) (consA (fldD ("Web" : Str) ("bells" : Str) (nameD 0)) nilA)) (constD (.int 8))) (E [.int (N : Int)]) = .ok (decide (l.length < 8)) (E [.int (N : Int)]) := val1 (bin1 (callo (fld1 (nm1 rfl) (fld_bells _ _)) (len_tm _ _)) cn1 (by
    show some (D.bl (decide ((l.length : Int) < 8))) = _
    congr 2
    exact decide_eq_decide.mpr (by omega)))
  obtain ⟨n, hn, st⟩ : ∃ n, n ≤ 2 ∧ ifS (valT (bin2 (pur2 ltF) (callD (one lenF) (consA (fldD ("Web" : Str) ("bells" : Str) (nameD 0)) nilA)) (constD (.int 8)))) (seqS (appS 2 (callS (fnCall K42.f_how_many_stands) (layL (.d .non) (.d .non) [some 0]) nilR (consRd (nameD 0) nilR))) nextS) nextS (E [.int (N : Int)]) = .ok .nx (E (List.replicate n (.int (N : Int)))) := by
    by_cases q : l.length < 8
    · rw [decide_eq_true q] at ct
      exact ⟨2, Nat.le_refl _, ifSt ct (seqS1 (DL.app1 (l := [.int (N : Int)]) rfl (callS1 nR (cRd (nm1 rfl) nR) (fnC2 c1 rfl rfl)) rfl (show 1 < sizeLine by omega) rfl) nx1)⟩
    · rw [decide_eq_false q] at ct
      exact ⟨1, by decide, ifSf ct nx1⟩
  refine wp_seq (wp_eq (a := .nx) st ?_)
  have rp := rep_int cl hn
  let F : Env := [.dat (webD l w), .dat (.int (N : Int)), .dat (.lst (List.replicate n (.int (N : Int))))]
  have k2 : nameD 2 (E (List.replicate n (.int (N : Int)))) = .ok (.lst (List.replicate n (.int (N : Int)))) F := nmO (o := .L (List.replicate n (.int (N : Int)))) rfl
  have ol : ownLen 2 F = .ok (.int (n : Int)) F := by
    have : lenF (.lst (List.replicate n (D.int (N : Int)))) = some (.int (n : Int)) := by
      show some (D.int ((List.replicate n (D.int (N : Int))).length : Nat)) = _
      rw [List.length_replicate]
    show (match lenF (.lst (List.replicate n (D.int (N : Int)))) with | some z => Out.ok z F | none => .no) = _
    rw [this]
  exact wp_seq (wp_eq (a := .rt (.bl true)) (e := F) (ret1 (bin1 (callo k2 rp) (callo (bin1 (held_ok (lst1 (consA2 (nm1 rfl) nA) s1)) ol (mul_one2 hn)) rp) ((eqF_s false _ _).trans (by simp [tst])))) ⟨rfl, rfl⟩)
end
end DL.K42
namespace DL.K42
open PySem L2
open K04 (Bl Wk webD fr setD_fr r1_ok fld_bells fld_wakes)
open K05 (l1000)
open K41 (hw hw_iff)
open K57 (at_last)
section
variable {l : List Str} {w : List (Str × Str)} {a x y : Str} {m k : Nat}
theorem rg0 (n : Nat) : rgL 0 n = (List.range n).map fun (k : Nat) => D.int (k : Int) := by
  unfold rgL
  exact List.map_congr_left fun k _ => by rw [Int.zero_add]
noncomputable def bitsL (n : Nat) : List D := (List.range n).map fun (k : Nat) => D.int ((2 ^ k : Nat) : Int)
theorem bits_at {n k : Nat} (hk : k < n) : (bitsL n)[k]? = some (.int ((2 ^ k : Nat) : Int)) := by
  unfold bitsL
  rw [List.getElem?_map, List.getElem?_range hk]
  rfl
theorem bits_len (n : Nat) : (bitsL n).length = n := by unfold bitsL; rw [List.length_map, List.length_range]
theorem bits_snoc (n : Nat) : bitsL (n + 1) = bitsL n ++ [.int ((2 ^ n : Nat) : Int)] := by
  unfold bitsL
  rw [List.range_succ, List.map_append]
  rfl
theorem bits_last (n : Nat) : atI (bitsL (n + 1)) (-1) = some (.int ((2 ^ n : Nat) : Int)) := at_last (by
  rw [bits_len, Nat.add_sub_cancel]
  exact bits_at (Nat.lt_succ_self n))
theorem neg1 {e : Env} : un1 (pur1 negF) (constD (.int 1)) e = .ok (.int (-1)) e := rfl
theorem dbl {i : Nat} (hi : i ≤ 12) : mulA (.int 2) (.int ((2 ^ i : Nat) : Int)) = some (.int ((2 ^ (i + 1) : Nat) : Int)) := by
  have p : 2 ^ i ≤ 4096 := Nat.pow_le_pow_right (n := 2) (by decide) hi
  have e : 2 ^ (i + 1) = 2 * 2 ^ i := by rw [Nat.pow_succ, Nat.mul_comm]
  rw [e]
  generalize 2 ^ i = N at p
  have := K04.mul_int (i := 2) (j := (N : Int)) (by decide) (by omega)
  rw [this]
  rfl
theorem fdiv_pow {k : Nat} (hk : k ≤ 12) (m : Nat) : fdivF (.int (m : Int)) (.int ((2 ^ k : Nat) : Int)) = some (.int ((m / 2 ^ k : Nat) : Int)) := by
  have p0 := Nat.two_pow_pos k
  have lg : (((2 ^ k : Nat) : Int)).natAbs.log2 < 9000 := by rw [Int.natAbs_natCast, Nat.log2_two_pow]; omega
  have c : decide ((0 : Int) < ((2 ^ k : Nat) : Int) ∧ (((2 ^ k : Nat) : Int)).natAbs.log2 < 9000) = true := decide_eq_true ⟨Int.natCast_pos.mpr p0, lg⟩
  show (if decide ((0 : Int) < ((2 ^ k : Nat) : Int) ∧ (((2 ^ k : Nat) : Int)).natAbs.log2 < 9000) = true then some (D.int ((m : Int) / ((2 ^ k : Nat) : Int))) else none) = _
  rw [if_pos c, ← Int.natCast_ediv]
theorem mod2 (N : Nat) : modF (.int (N : Int)) (.int 2) = some (.int ((N % 2 : Nat) : Int)) := by
  show (if decide ((0 : Int) < 2) = true then some (D.int ((N : Int) % 2)) else none) = _
  rw [if_pos (by decide)]
  rfl
theorem bit_mod (m k : Nat) : decide (((m / 2 ^ k % 2 : Nat) : Int) = 1) = m.testBit k := by
  rw [Nat.testBit_eq_decide_div_mod_eq]
  exact decide_eq_decide.mpr (by omega)
noncomputable def kin (l : List Str) (w : List (Str × Str)) (k j : Nat) : Bool := decide ((l.getD j ⟨#[]⟩, l.getD k ⟨#[]⟩) ∈ w)
noncomputable def kms (l : List Str) (m : Nat) : List Nat := (List.range l.length).filter fun k => m.testBit k
theorem free_eq : (kms l m).filter (fun k => !(kms l m).any (kin l w k)) = frees l w m := by
  unfold frees
  rw [show (kms l m).filter (fun k => !(kms l m).any (kin l w k)) = ((List.range l.length).filter fun k => m.testBit k).filter (fun k => !(kms l m).any (kin l w k)) from rfl, List.filter_filter]
  refine List.filter_congr fun k hk => ?_
  rw [Bool.and_comm]
  congr 2
  rw [Bool.eq_iff_iff, List.any_eq_true, hw_iff]
  constructor
  · rintro ⟨j, mj, e⟩
    obtain ⟨h1, h2⟩ := List.mem_filter.mp mj
    have h1 := List.mem_range.mp h1
    have hx : l[j]? = some l[j] := List.getElem?_eq_getElem h1
    have e := of_decide_eq_true e
    rw [getD_some hx] at e
    exact ⟨l[j], mem_sel.mpr ⟨j, hx, h2⟩, e⟩
  · rintro ⟨y, my, e⟩
    obtain ⟨j, h1, h2⟩ := mem_sel.mp my
    refine ⟨j, List.mem_filter.mpr ⟨List.mem_range.mpr (List.getElem?_eq_some_iff.mp h1).1, h2⟩, ?_⟩
    unfold kin
    rw [getD_some h1]
    exact decide_eq_true e
theorem notNil (ks : List Nat) : eqF true (.lst (ks.map fun (k : Nat) => D.int (k : Int))) (.lst []) = some (.bl (!decide (ks = []))) := by
  have := eqF_lI true (ks.map fun (k : Nat) => (k : Int)) []
  rw [List.map_map] at this
  refine Eq.trans this ?_
  congr 2
  show (!decide _) = !decide _
  congr 1
  exact decide_eq_decide.mpr List.map_eq_nil_iff
theorem table_ok (h : Bl l) (hwk : Wk l w) : f_law_table_count [.dat (.tup (w.map dP)), .dat (.tup (l.map .str))] = .ok (.int (cnt l w : Int)) [.dat (.tup (w.map dP)), .dat (.tup (l.map .str))] := by
  refine Wp.out (fn_wp ?_)
  unfold b_law_table_count
  have lk := l1000
  have l12 := h.hi
  have lo := h.lo
  have nd := h.ri.nodup ordS
  have w144 := hwk.len
  have sL : l.length ≤ sizeLine := by omega
  have big : (200000 : Nat) ≤ sizeLine := by decide
  have s1 : 1 ≤ sizeLine := by omega
  have s2 : 2 ≤ sizeLine := by omega
  have p12 : 2 ^ l.length ≤ 4096 := Nat.pow_le_pow_right (n := 2) (by decide) l12
  have pw1 := Nat.two_pow_pos l.length
  let W : D := .tup (w.map dP)
  let L : D := .tup (l.map .str)
  let PL : D := .lst ((List.range l.length).map fun (k : Nat) => D.int (k : Int))
  let fd : Nat → List D := fun n => (List.range n).map fun m => D.int (g1 l w m : Int)
  have fd1 : fd 1 = [.int 1] := by
    show [D.int (g1 l w 0 : Int)] = _
    rw [g1_zero]; rfl
  let E : Nat → Nat → SV → SV → SV → SV → SV → Env := fun nb nf x5 x6 x7 x8 x9 => [.dat W, .dat L, .dat PL, .own (.L (bitsL nb)), .own (.L (fd nf)), x5, x6, x7, x8, x9, .un, .un, .un]
  have U0 : heldD (listRgF (callD (one lenF) (consA (nameD 1) nilA))) [.dat W, .dat L, .un, .un, .un, .un, .un, .un, .un, .un, .un, .un, .un] = .ok PL [.dat W, .dat L, .un, .un, .un, .un, .un, .un, .un, .un, .un, .un, .un] := by
    refine held_ok ?_
    unfold listRgF
    rw [callo (f := lenF) (nm1 (d := L) rfl) (len_tm _ _), bind_ok]
    show (if decide ((0 : Int) ≤ (l.length : Int) ∧ (l.length : Int) ≤ 16777216) = true then Out.ok (rgL 0 ((l.length : Int)).toNat) _ else .no) = _
    rw [if_pos (decide_eq_true ⟨Int.natCast_nonneg _, by omega⟩), Int.toNat_natCast, rg0]
  refine wp_seq (wp_eq (a := .nx) (e := E 1 1 (fr none) .un .un .un .un) (parT1 (mD U0 (mF (newL1 (lst1 (consA2 cn1 nA) s1)) (mF (newL1 (lst1 (consA2 cn1 nA) s1)) mN))) (show 3 ≤ sizeLine by omega) (by
    show _ = some ([SV.dat W, SV.dat L, SV.dat PL, SV.own (.L (bitsL 1)), SV.own (.L (fd 1)), SV.un, SV.un, SV.un, SV.un, SV.un, SV.un, SV.un, SV.un] : Env)
    rw [fd1]
    rfl)) ?_)
  refine wp_seq (wp_for (fun i e => ∃ o5, e = E (i + 1) 1 (fr o5) .un .un .un .un) _ _ (itT1 (nm1 rfl)) ⟨none, rfl⟩ ?_ ?_)
  · rintro i d e hd ⟨o5, rfl⟩
    rw [List.getElem?_map] at hd
    obtain ⟨a, hx, rfl⟩ := Option.map_eq_some_iff.mp hd
    have hi : i < l.length := (List.getElem?_eq_some_iff.mp hx).1
    refine ⟨E (i + 1) 1 (.dat (.str a)) .un .un .un .un, setD_fr (o := o5) rfl, by cases o5 <;> rfl, ?_⟩
    have st : appS 3 (bin2 (pur2 mulA) (constD (.int 2)) (ownIx 3 (un1 (pur1 negF) (constD (.int 1))))) (E (i + 1) 1 (.dat (.str a)) .un .un .un .un) = .ok .nx (E (i + 2) 1 (.dat (.str a)) .un .un .un .un) :=
      DL.app1 (l := bitsL (i + 1)) rfl (bin1 cn1 (ownIx1 (l := bitsL (i + 1)) rfl neg1 rfl (bits_last i)) (dbl (by omega))) rfl (by rw [bits_len]; omega) (by
        show _ = some ([SV.dat W, SV.dat L, SV.dat PL, SV.own (.L (bitsL (i + 1 + 1))), SV.own (.L (fd 1)), SV.dat (.str a), SV.un, SV.un, SV.un, SV.un, SV.un, SV.un, SV.un] : Env)
        rw [bits_snoc (i + 1)]
        rfl)
    exact wp_seq (wp_eq (a := .nx) st (wp_nx.mpr ⟨rfl, some _, rfl⟩))
  rintro e' ⟨o5, rfl⟩
  rw [List.length_map]
  let M : D := .lst (l.map fun a => .lst (l.map fun b => .bl (decide ((b, a) ∈ w))))
  have cM : compF [5] (itA (nameD 1)) (setD 5) yesT (heldD (compF [10] (itA (nameD 1)) (setD 10) yesT (bin2 (pur2 (inF false)) (tupD (consA (nameD 10) (consA (nameD 5) nilA))) (nameD 0)))) (E (l.length + 1) 1 (fr o5) .un .un .un .un) = .ok ((l.filter fun _ => true).map fun a => .lst (l.map fun b => .bl (decide ((b, a) ∈ w)))) (E (l.length + 1) 1 (fr o5) .un .un .un .un) :=
    compF_map (f := D.str) (itT1 (nm1 rfl)) (by cases o5 <;> rfl) sL (by cases o5 <;> rfl) fun a ma => ⟨E (l.length + 1) 1 (.dat (.str a)) .un .un .un .un, by cases o5 <;> rfl, rfl, by cases o5 <;> rfl, rfl, fun _ => by
      have c10 : compF [10] (itA (nameD 1)) (setD 10) yesT (bin2 (pur2 (inF false)) (tupD (consA (nameD 10) (consA (nameD 5) nilA))) (nameD 0)) (E (l.length + 1) 1 (.dat (.str a)) .un .un .un .un) = .ok ((l.filter fun _ => true).map fun b => .bl (decide ((b, a) ∈ w))) (E (l.length + 1) 1 (.dat (.str a)) .un .un .un .un) :=
        compF_map (f := D.str) (itT1 (nm1 rfl)) rfl sL rfl fun b mb => ⟨[.dat W, .dat L, .dat PL, .own (.L (bitsL (l.length + 1))), .own (.L (fd 1)), .dat (.str a), .un, .un, .un, .un, .dat (.str b), .un, .un], rfl, rfl, rfl, rfl, fun _ => bin1 (tup1 (consA2 (nm1 rfl) (consA2 (nm1 rfl) nA)) s2) (nm1 rfl) (inF_tP false (p := (b, a)) ⟨h.sok b mb, h.sok a ma⟩ fun p m => ⟨h.sok _ (hwk.mem p m).1, h.sok _ (hwk.mem p m).2⟩)⟩
      rw [List.filter_eq_self.mpr fun _ _ => rfl] at c10
      exact held_ok c10⟩
  rw [List.filter_eq_self.mpr fun _ _ => rfl] at cM
  refine wp_seq (wp_eq (a := .nx) (e := E (l.length + 1) 1 (fr o5) (.dat M) (fr none) (fr none) (fr none)) (asg1 (held_ok cM) rfl (by cases o5 <;> rfl)) ?_)
  let G : Nat → SV → SV → SV → Env := fun nf x7 x8 x9 => E (l.length + 1) nf (fr o5) (.dat M) x7 x8 x9
  obtain ⟨N, hN⟩ : ∃ N, N = 2 ^ l.length - 1 := ⟨_, rfl⟩
  have itr : itR2 (consA (constD (.int 1)) (consA (ownIx 3 (un1 (pur1 negF) (constD (.int 1)))) nilA)) (G 1 (fr none) (fr none) (fr none)) = .ok (rgL 1 N) (G 1 (fr none) (fr none) (fr none)) := by
    have c1 : consA (constD (.int 1)) (consA (ownIx 3 (un1 (pur1 negF) (constD (.int 1)))) nilA) (G 1 (fr none) (fr none) (fr none)) = .ok [.int 1, .int ((2 ^ l.length : Nat) : Int)] (G 1 (fr none) (fr none) (fr none)) := consA2 cn1 (consA2 (ownIx1 (l := bitsL (l.length + 1)) rfl neg1 rfl (bits_last l.length)) nA)
    unfold itR2
    rw [c1, bind_ok]
    have o1 : okR 1 = true := by decide
    have o2 : okR ((2 ^ l.length : Nat) : Int) = true := decide_eq_true ⟨Int.le_trans (by decide) (Int.natCast_nonneg _), Int.lt_of_le_of_lt (Int.ofNat_le.mpr p12) (by decide)⟩
    have o3 : (((2 ^ l.length : Nat) : Int) - 1).toNat = N := by
      rw [hN]
      generalize 2 ^ l.length = N
      omega
    show (if (okR 1 && okR ((2 ^ l.length : Nat) : Int)) = true then Out.ok (rgL 1 (((2 ^ l.length : Nat) : Int) - 1).toNat) _ else .no) = _
    rw [o1, o2, o3]
    rfl
  let P : Nat → Env → Prop := fun i e => ∃ o7 o8 o9, e = G (i + 1) (fr o7) (fr o8) (fr o9)
  refine wp_seq (wp_for P (rgL 1 N) _ itr ⟨none, none, none, rfl⟩ ?_ ?_)
  · rintro i d e hd ⟨o7, o8, o9, rfl⟩
    unfold rgL at hd
    rw [List.getElem?_map] at hd
    obtain ⟨i', hi', rfl⟩ := Option.map_eq_some_iff.mp hd
    have hi : i < N := by have := (List.getElem?_eq_some_iff.mp hi').1; simpa using this
    rw [List.getElem?_range hi] at hi'
    have ei := (Option.some.inj hi').symm
    subst ei
    obtain ⟨m, hm⟩ : ∃ m, m = i' + 1 := ⟨_, rfl⟩
    have em : (1 + (i' : Int)) = ((m : Nat) : Int) := by omega
    rw [em]
    have m0 : m ≠ 0 := by omega
    have mlt : m < 2 ^ l.length := by omega
    refine ⟨G m (.dat (.int (m : Int))) (fr o8) (fr o9), by rw [← hm]; exact setD_fr (o := o7) rfl, by rw [← hm]; cases o5 <;> cases o7 <;> cases o8 <;> cases o9 <;> rfl, ?_⟩
    have bx : ∀ {e : Env} {rb : Env → Out D} {k : Nat}, e[3]? = some (.own (.L (bitsL (l.length + 1)))) → rb e = .ok (.int (k : Int)) e → k < l.length → ownIxA 3 rb e = .ok (.int ((2 ^ k : Nat) : Int)) e := fun {e rb k} h3 hr hk => by
      have ho : ovL e[3]? = some (.L (bitsL (l.length + 1))) := by rw [h3]; rfl
      exact ownIxA1 ho hr ho rfl (atI_nat (bits_at (by omega)))
    have ck : compF [11] (itA (nameD 2)) (setD 11) (valT (bin2 (pur2 (eqF false)) (bin2 (pur2 modF) (bin2 (pur2 fdivF) (nameD 7) (ownIxA 3 (nameD 11))) (constD (.int 2))) (constD (.int 1)))) (nameD 11) (G m (.dat (.int (m : Int))) (fr o8) (fr o9)) = .ok ((kms l m).map fun (k : Nat) => D.int (k : Int)) (G m (.dat (.int (m : Int))) (fr o8) (fr o9)) :=
      compF_map (f := fun (k : Nat) => D.int (k : Int)) (g := fun (k : Nat) => D.int (k : Int)) (p := fun k => m.testBit k) (l := List.range l.length) (itL1 (nm1 rfl)) (by cases o5 <;> cases o8 <;> cases o9 <;> rfl) (by rw [List.length_range]; exact sL) (by cases o5 <;> cases o8 <;> cases o9 <;> rfl) fun k mk => ⟨[.dat W, .dat L, .dat PL, .own (.L (bitsL (l.length + 1))), .own (.L (fd m)), fr o5, .dat M, .dat (.int (m : Int)), fr o8, fr o9, .un, .dat (.int (k : Int)), .un], rfl, by cases o5 <;> cases o8 <;> cases o9 <;> rfl, by cases o5 <;> cases o8 <;> cases o9 <;> rfl, by
        have hk := List.mem_range.mp mk
        rw [← bit_mod]
        exact val1 (bin1 (bin1 (bin1 (nm1 rfl) (bx rfl (nm1 rfl) hk) (fdiv_pow (by omega) m)) cn1 (mod2 _)) cn1 (eqF_int false _ _)), fun _ => nm1 rfl⟩
    let X8 : SV := .dat (.lst ((kms l m).map fun (k : Nat) => D.int (k : Int)))
    refine wp_seq (wp_eq (a := .nx) (e := G m (.dat (.int (m : Int))) X8 (fr o9)) (asg1 (held_ok ck) (setD_fr (o := o8) rfl) (by cases o5 <;> cases o8 <;> cases o9 <;> rfl)) ?_)
    have kl : ∀ k ∈ kms l m, k < l.length := fun k mk => List.mem_range.mp (List.mem_filter.mp mk).1
    have klen : (kms l m).length ≤ sizeLine := by
      have : (kms l m).length ≤ (List.range l.length).length := List.length_filter_le _ _
      rw [List.length_range] at this
      omega
    have cf : compF [11] (itA (nameD 8)) (setD 11) (notT (valT (callD (one anyF) (consA (heldD (compF [12] (itA (nameD 8)) (setD 12) yesT (bin2 (pur2 ixA) (bin2 (pur2 ixA) (nameD 6) (nameD 11)) (nameD 12)))) nilA)))) (nameD 11) (G m (.dat (.int (m : Int))) X8 (fr o9)) = .ok ((frees l w m).map fun (k : Nat) => D.int (k : Int)) (G m (.dat (.int (m : Int))) X8 (fr o9)) := by
      rw [← free_eq]
      refine compF_map (f := fun (k : Nat) => D.int (k : Int)) (g := fun (k : Nat) => D.int (k : Int)) (p := fun k => !(kms l m).any (kin l w k)) (l := kms l m) (itL1 (nm1 rfl)) (by cases o5 <;> cases o9 <;> rfl) klen (by cases o5 <;> cases o9 <;> rfl) fun k mk => ⟨[.dat W, .dat L, .dat PL, .own (.L (bitsL (l.length + 1))), .own (.L (fd m)), fr o5, .dat M, .dat (.int (m : Int)), X8, fr o9, .un, .dat (.int (k : Int)), .un], rfl, by cases o5 <;> cases o9 <;> rfl, by cases o5 <;> cases o9 <;> rfl, ?_, fun _ => nm1 rfl⟩
      have hk := kl k mk
      have hx : l[k]? = some l[k] := List.getElem?_eq_getElem hk
      have c12 : compF [12] (itA (nameD 8)) (setD 12) yesT (bin2 (pur2 ixA) (bin2 (pur2 ixA) (nameD 6) (nameD 11)) (nameD 12)) [.dat W, .dat L, .dat PL, .own (.L (bitsL (l.length + 1))), .own (.L (fd m)), fr o5, .dat M, .dat (.int (m : Int)), X8, fr o9, .un, .dat (.int (k : Int)), .un] = .ok (((kms l m).filter fun _ => true).map fun j => .bl (kin l w k j)) [.dat W, .dat L, .dat PL, .own (.L (bitsL (l.length + 1))), .own (.L (fd m)), fr o5, .dat M, .dat (.int (m : Int)), X8, fr o9, .un, .dat (.int (k : Int)), .un] :=
        compF_map (f := fun (k : Nat) => D.int (k : Int)) (itL1 (nm1 rfl)) (by cases o5 <;> cases o9 <;> rfl) klen (by cases o5 <;> cases o9 <;> rfl) fun j mj => ⟨[.dat W, .dat L, .dat PL, .own (.L (bitsL (l.length + 1))), .own (.L (fd m)), fr o5, .dat M, .dat (.int (m : Int)), X8, fr o9, .un, .dat (.int (k : Int)), .dat (.int (j : Int))], by cases o5 <;> cases o9 <;> rfl, by cases o5 <;> cases o9 <;> rfl, by cases o5 <;> cases o9 <;> rfl, rfl, fun _ => by
          have hj := kl j mj
          have hy : l[j]? = some l[j] := List.getElem?_eq_getElem hj
          have i1 : ixA M (.int (k : Int)) = some (.lst (l.map fun b => .bl (decide ((b, l[k]) ∈ w)))) := (ix_lst (by rw [List.getElem?_map, hx]; rfl) : ixF M (.int (k : Int)) = _)
          have i2 : ixA (.lst (l.map fun b => .bl (decide ((b, l[k]) ∈ w)))) (.int (j : Int)) = some (.bl (kin l w k j)) := by
            unfold kin
            rw [getD_some hx, getD_some hy]
            exact (ix_lst (by rw [List.getElem?_map, hy]; rfl) : ixF (.lst (l.map fun b => D.bl (decide ((b, l[k]) ∈ w)))) (.int (j : Int)) = _)
          exact bin1 (bin1 (nm1 rfl) (nm1 rfl) i1) (nm1 rfl) i2⟩
      rw [List.filter_eq_self.mpr fun _ _ => rfl] at c12
      exact not1 (val1 (callo (held_ok c12) (anyF_map _ _)))
    let X9 : SV := .dat (.lst ((frees l w m).map fun (k : Nat) => D.int (k : Int)))
    refine wp_seq (wp_eq (a := .nx) (e := G m (.dat (.int (m : Int))) X8 X9) (asg1 (held_ok cf) (setD_fr (o := o9) rfl) (by cases o5 <;> cases o9 <;> rfl)) ?_)
    have ve : ifD (valT (bin2 (pur2 (eqF true)) (nameD 9) (heldD (lstF nilA)))) (ownIx 4 (bin2 (pur2 subF) (nameD 7) (ownIxA 3 (bin2 (pur2 ixF) (nameD 9) (constD (.int 0)))))) (constD (.int 0)) (G m (.dat (.int (m : Int))) X8 X9) = .ok (.int (g1 l w m : Int)) (G m (.dat (.int (m : Int))) X8 X9) := by
      have gs := g1_step nd m0 mlt (w := w)
      have t9 : valT (bin2 (pur2 (eqF true)) (nameD 9) (heldD (lstF nilA))) (G m (.dat (.int (m : Int))) X8 X9) = .ok (!decide (frees l w m = [])) (G m (.dat (.int (m : Int))) X8 X9) := val1 (bin1 (nm1 rfl) (held_ok (lst1 nA (Nat.zero_le _))) (notNil _))
      cases e : frees l w m with
      | nil =>
        rw [e] at gs t9
        rw [gs]
        exact ifDf t9 cn1
      | cons k ks =>
        rw [e] at gs
        rw [decide_eq_false (by rw [e]; simp)] at t9
        obtain ⟨hk, _, ge, _⟩ := tab_cons nd e
        have p1 := Nat.two_pow_pos k
        rw [gs]
        have ix0 : ixF (.lst ((frees l w m).map fun (k : Nat) => D.int (k : Int))) (.int 0) = some (.int (k : Int)) := ix_lst (k := 0) (by rw [e]; rfl)
        have sb : subF (.int (m : Int)) (.int ((2 ^ k : Nat) : Int)) = some (.int ((m - 2 ^ k : Nat) : Int)) := by
          show some (D.int ((m : Int) - ((2 ^ k : Nat) : Int))) = _
          rw [(Int.ofNat_sub ge : ((m - 2 ^ k : Nat) : Int) = _)]
        exact ifDt t9 (ownIx1 (l := fd m) rfl (bin1 (nm1 rfl) (bx rfl (bin1 (nm1 rfl) cn1 ix0) hk) sb) rfl (atI_nat (by
          show ((List.range m).map fun m => D.int (g1 l w m : Int))[m - 2 ^ k]? = _
          rw [List.getElem?_map, List.getElem?_range (by omega)]
          rfl)))
    have st : appS 4 (ifD (valT (bin2 (pur2 (eqF true)) (nameD 9) (heldD (lstF nilA)))) (ownIx 4 (bin2 (pur2 subF) (nameD 7) (ownIxA 3 (bin2 (pur2 ixF) (nameD 9) (constD (.int 0)))))) (constD (.int 0))) (G m (.dat (.int (m : Int))) X8 X9) = .ok .nx (G (m + 1) (.dat (.int (m : Int))) X8 X9) :=
      DL.app1 (l := fd m) rfl ve rfl (by show ((List.range m).map fun m => D.int (g1 l w m : Int)).length < _; rw [List.length_map, List.length_range]; omega) (by
        have e1 : fd (m + 1) = fd m ++ [.int (g1 l w m : Int)] := by
          show ((List.range (m + 1)).map fun m => D.int (g1 l w m : Int)) = _
          rw [List.range_succ, List.map_append]; rfl
        show _ = some ([SV.dat W, SV.dat L, SV.dat PL, SV.own (.L (bitsL (l.length + 1))), SV.own (.L (fd (m + 1))), fr o5, SV.dat M, SV.dat (.int (m : Int)), X8, X9, SV.un, SV.un, SV.un] : Env)
        rw [e1]
        rfl)
    exact wp_seq (wp_eq (a := .nx) st (wp_nx.mpr ⟨rfl, some _, some _, some _, by rw [hm]; rfl⟩))
  · rintro e' ⟨o7, o8, o9, rfl⟩
    have e1 : (rgL 1 N).length + 1 = 2 ^ l.length := by
      unfold rgL
      rw [List.length_map, List.length_range]
      omega
    rw [e1]
    have sm : sumF (.lst (fd (2 ^ l.length))) = some (.int (cnt l w : Int)) := by
      refine (sumF_map (fun m => (g1 l w m : Int)) _).trans ?_
      rw [int_sum]
      rfl
    exact wp_seq (wp_eq (ret1 (callo (nmO (o := .L (fd (2 ^ l.length))) rfl) sm)) ⟨rfl, rfl⟩)
end
end DL.K42
namespace DL.K42
open PySem L2
open K04 (Bl Wk webD fr setD_fr r1_ok fld_bells fld_wakes callRd)
open K05 (l1000)
open K14 (pd PO callN)
open K41 (hw hw_iff)
open K57 (at_last)
section
variable {l : List Str} {w : List (Str × Str)} {a x y : Str} {m k : Nat}
theorem is_at {N : Nat} (h : Bl l) (hwk : Wk l w) (e : cnt l w = N) : f_law_is [.dat (webD l w), .dat (.int (N : Int))] = .ok (.bl true) [.dat (webD l w), .dat (.int (N : Int))] := by
  subst e
  exact is_ok h hwk
theorem getD_range (l : List Str) : (List.range l.length).map (fun k => l.getD k ⟨#[]⟩) = l := by
  refine List.ext_getElem? fun i => ?_
  rw [List.getElem?_map]
  by_cases hi : i < l.length
  · rw [List.getElem?_range hi, List.getElem?_eq_getElem hi]
    show some (l.getD i ⟨#[]⟩) = _
    rw [getD_some (List.getElem?_eq_getElem hi)]
  · rw [List.getElem?_eq_none (by rw [List.length_range]; omega), List.getElem?_eq_none (by omega)]
    rfl
/-- the pairs of a ring -/
noncomputable def rp (l : List Str) : List (Str × Str) := (List.range l.length).map fun k => (l.getD (pr l.length k) ⟨#[]⟩, l.getD k ⟨#[]⟩)
theorem rp_nd (nd : l.Nodup) : (rp l).Nodup := by
  have e : (rp l).map (·.2) = l := by
    unfold rp
    rw [List.map_map]
    exact getD_range l
  have : ((rp l).map (·.2)).Nodup := by rw [e]; exact nd
  exact (List.pairwise_map.mp this).imp fun h e => h (by rw [e])
theorem pr_lt {n k : Nat} (hk : k < n) : pr n k < n := by unfold pr; split <;> omega
theorem rp_mem : (x, y) ∈ rp l ↔ ∃ k, l[k]? = some y ∧ l[pr l.length k]? = some x := by
  unfold rp
  rw [List.mem_map]
  constructor
  · rintro ⟨k, mk, e⟩
    have hk := List.mem_range.mp mk
    have h1 : l[k]? = some l[k] := List.getElem?_eq_getElem hk
    have h2 : l[pr l.length k]? = some (l[pr l.length k]'(pr_lt hk)) := List.getElem?_eq_getElem (pr_lt hk)
    rw [getD_some h1, getD_some h2] at e
    obtain ⟨e1, e2⟩ := Prod.mk.inj e
    exact ⟨k, by rw [h1, e2], by rw [h2, e1]⟩
  · rintro ⟨k, h1, h2⟩
    exact ⟨k, List.mem_range.mpr (List.getElem?_eq_some_iff.mp h1).1, by rw [getD_some h1, getD_some h2]⟩
theorem rp_wk (h : Bl l) : Wk l (srt ltP (rp l)) := by
  refine ⟨fun p m => ?_, srt_ri ordP (rp_nd (h.ri.nodup ordS)), ?_⟩
  · obtain ⟨k, h1, h2⟩ := rp_mem.mp (show (p.1, p.2) ∈ rp l from srt_mem.mp m)
    exact ⟨List.mem_of_getElem? h2, List.mem_of_getElem? h1⟩
  · rw [srt_len]
    unfold rp
    rw [List.length_map, List.length_range]
    have := h.hi
    omega
theorem cnt_rp (h : Bl l) : cnt l (srt ltP (rp l)) = 2 ^ l.length - 1 := cnt_ring (h.ri.nodup ordS) h.lo fun x y => by rw [srt_mem]; exact rp_mem
/-- all others -/
noncomputable def ev (L l : List Str) : List (Str × Str) := L.flatMap fun a => (l.filter fun b => !decide (b = a)).map fun b => (a, b)
theorem ev_mem : (x, y) ∈ ev l l ↔ x ∈ l ∧ y ∈ l ∧ x ≠ y := by
  unfold ev
  rw [List.mem_flatMap]
  constructor
  · rintro ⟨a, ma, h⟩
    obtain ⟨b, mb, e⟩ := List.mem_map.mp h
    obtain ⟨e1, e2⟩ := Prod.mk.inj e
    subst e1; subst e2
    obtain ⟨h1, h2⟩ := List.mem_filter.mp mb
    simp at h2
    exact ⟨ma, h1, fun e => h2 e.symm⟩
  · rintro ⟨h1, h2, h3⟩
    exact ⟨x, h1, List.mem_map.mpr ⟨y, List.mem_filter.mpr ⟨h2, by simp; exact fun e => h3 e.symm⟩, rfl⟩⟩
theorem ev_ri (h : Bl l) : Ri ltP (ev l l) := by
  unfold ev
  refine List.pairwise_flatMap.mpr ⟨fun a _ => ?_, ?_⟩
  · rw [List.pairwise_map]
    exact (h.ri.filter _).imp fun {b c} hh => by simp [ltP, hh]
  · refine h.ri.imp fun {a b} hh p mp q mq => ?_
    obtain ⟨c, _, rfl⟩ := List.mem_map.mp mp
    obtain ⟨d, _, rfl⟩ := List.mem_map.mp mq
    simp [ltP, hh]
theorem prod_len (L B : List Str) : (L.flatMap fun a => B.map fun b => (a, b)).length = L.length * B.length := by
  induction L with
  | nil => simp
  | cons x L ih => rw [List.flatMap_cons, List.length_append, ih, List.length_map, List.length_cons, Nat.succ_mul, Nat.add_comm]
theorem pairs_len (h : Bl l) (nd : w.Nodup) (hm : ∀ p ∈ w, p.1 ∈ l ∧ p.2 ∈ l) : w.length ≤ 144 := by
  have h1 : w.length ≤ (l.flatMap fun a => l.map fun b => (a, b)).length := List.Nodup.length_le_of_subset nd fun p mp => List.mem_flatMap.mpr ⟨p.1, (hm p mp).1, List.mem_map.mpr ⟨p.2, (hm p mp).2, rfl⟩⟩
  rw [prod_len] at h1
  have h3 : l.length * l.length ≤ 12 * 12 := Nat.mul_le_mul h.hi h.hi
  omega
theorem ev_wk (h : Bl l) : Wk l (ev l l) := by
  have hm : ∀ p ∈ ev l l, p.1 ∈ l ∧ p.2 ∈ l := fun p m => by
    have := ev_mem.mp (show (p.1, p.2) ∈ ev l l from m)
    exact ⟨this.1, this.2.1⟩
  exact ⟨hm, ev_ri h, pairs_len h ((ev_ri h).nodup ordP) hm⟩
noncomputable def sv (l : List Str) : List (Str × Str) := l.map fun a => (a, a)
theorem sv_wk (h : Bl l) : Wk l (sv l) := by
  refine ⟨fun p m => ?_, ?_, by unfold sv; rw [List.length_map]; have := h.hi; omega⟩
  · obtain ⟨a, ma, rfl⟩ := List.mem_map.mp m
    exact ⟨ma, ma⟩
  · unfold sv Ri
    rw [List.pairwise_map]
    exact h.ri.imp fun {b c} hh => by simp [ltP, hh]
theorem selves_ok (h : Bl l) : f_law_selves [.dat (.tup (l.map .str))] = .ok (.tup ((sv l).map dP)) [.dat (.tup (l.map .str))] := by
  have sL : l.length ≤ sizeLine := by have := h.hi; have := l1000; omega
  have c1 : compF [1] (itA (nameD 0)) (setD 1) yesT (tupD (consA (nameD 1) (consA (nameD 1) nilA))) [.dat (.tup (l.map .str)), .un] = .ok ((l.filter fun _ => true).map fun a => dP (a, a)) [.dat (.tup (l.map .str)), .un] :=
    compF_map (f := D.str) (itT1 (nm1 rfl)) rfl sL rfl fun a _ => ⟨[.dat (.tup (l.map .str)), .dat (.str a)], rfl, rfl, rfl, rfl, fun _ => tup1 (consA2 (nm1 rfl) (consA2 (nm1 rfl) nA)) (show 2 ≤ sizeLine by decide)⟩
  rw [List.filter_eq_self.mpr fun _ _ => rfl] at c1
  have e : (sv l).map dP = l.map fun a => dP (a, a) := by unfold sv; rw [List.map_map]; rfl
  rw [← e] at c1
  exact fn1 (n := 1) (tot := 2) (svs := [.dat (.tup (l.map .str))]) (e := [.dat (.tup (l.map .str)), .un]) (seqSr (ret1 (callo (f := tupleF) (held_ok c1) rfl)))
theorem told_ok {K : Nat} {p : Int × Int × Int} (hp : PO K p) (hK : K ≤ 800000) : ∃ p', PO (K + 30) p' ∧ f_law_told_ones_right [.bor (pd p)] = .ok (.bl true) [.bor (pd p')] := by
  suffices hh : Wp (f_law_told_ones_right [.bor (pd p)]) fun d svs => ∃ p', PO (K + 30) p' ∧ d = .bl true ∧ svs = [.bor (pd p')] by
    obtain ⟨d, svs, e, p', q, rfl, rfl⟩ := hh
    exact ⟨p', q, e⟩
  refine fn_wp ?_
  unfold b_law_told_ones_right
  have lk := l1000
  have s2 : 2 ≤ sizeLine := by omega
  obtain ⟨r, p1, hp1, r12, c1⟩ := callN (e := [.bor (pd p), .un, .un, .un, .un, .un, .un, .un, .un]) (i := 0) (u := 12) rfl hp (by omega) cn1 (by decide) (by decide)
  have ad : addF (.int 1) (.int (r : Int)) = some (.int ((1 + r : Nat) : Int)) := by
    show some (D.int ((1 : Int) + (r : Int))) = _
    rw [Int.natCast_add]
    rfl
  obtain ⟨l, p2, hp2, h, ll, c2⟩ := K57.calls_ok (n := 1 + r) hp1 (by omega) (by omega) (by omega)
  have l12 := h.hi
  have lo := h.lo
  have sL : l.length ≤ sizeLine := by omega
  let L : D := .tup (l.map .str)
  let n : Nat := l.length
  refine wp_seq (wp_eq (a := .nx) (e := [.bor (pd p2), .dat L, .un, .un, .un, .un, .un, .un, .un]) (asg1 (callRd (e1 := [.bor (pd p1), .un, .un, .un, .un, .un, .un, .un, .un]) ⟨_, rfl⟩ (bin1 cn1 c1 ad) rfl c2) rfl rfl) ?_)
  let E : SV → SV → SV → SV → Env := fun x3 x4 x5 x6 => [.bor (pd p2), .dat L, .dat (.int (l.length : Int)), x3, x4, x5, x6, .un, .un]
  refine wp_seq (wp_eq (a := .nx) (e := E .un .un .un .un) (asg1 (callo (nm1 rfl) (len_tm _ _)) rfl rfl) ?_)
  have cr : compF [7] (itR1 (consA (nameD 2) nilA)) (setD 7) yesT (tupD (consA (bin2 (pur2 ixF) (nameD 1) (bin2 (pur2 subF) (nameD 7) (constD (.int 1)))) (consA (bin2 (pur2 ixA) (nameD 1) (nameD 7)) nilA))) (E .un .un .un .un) = .ok (((List.range l.length).filter fun _ => true).map fun k => dP (l.getD (pr l.length k) ⟨#[]⟩, l.getD k ⟨#[]⟩)) (E .un .un .un .un) :=
    compF_map (f := fun (k : Nat) => D.int (k : Int)) (r1_ok (nm1 rfl) (by omega)) rfl (by rw [List.length_range]; exact sL) rfl fun k mk => ⟨[.bor (pd p2), .dat L, .dat (.int (l.length : Int)), .un, .un, .un, .un, .dat (.int (k : Int)), .un], rfl, rfl, rfl, rfl, fun _ => by
      have hk := List.mem_range.mp mk
      have h1 : l[k]? = some l[k] := List.getElem?_eq_getElem hk
      have h2 : l[pr l.length k]? = some (l[pr l.length k]'(pr_lt hk)) := List.getElem?_eq_getElem (pr_lt hk)
      have i2 : ixA L (.int (k : Int)) = some (.str (l.getD k ⟨#[]⟩)) := by
        rw [getD_some h1]
        exact (ix_tup (by rw [List.getElem?_map, h1]; rfl) : ixF L (.int (k : Int)) = _)
      have i1 : ixF L (.int ((k : Int) - 1)) = some (.str (l.getD (pr l.length k) ⟨#[]⟩)) := by
        rw [getD_some h2]
        by_cases k0 : k = 0
        · subst k0
          show atI (l.map D.str) (-1) = _
          refine at_last ?_
          rw [List.length_map, List.getElem?_map]
          have : pr l.length 0 = l.length - 1 := rfl
          rw [← this, h2]
          rfl
        · have e : (k : Int) - 1 = ((k - 1 : Nat) : Int) := by omega
          have e2 : pr l.length k = k - 1 := by unfold pr; rw [if_neg k0]
          rw [e]
          refine ix_tup ?_
          rw [List.getElem?_map, ← e2, h2]
          rfl
      exact tup1 (consA2 (bin1 (nm1 rfl) (bin1 (nm1 rfl) cn1 (show subF (.int (k : Int)) (.int 1) = some (.int ((k : Int) - 1)) from rfl)) i1) (consA2 (bin1 (nm1 rfl) (nm1 rfl) i2) nA)) s2⟩
  rw [List.filter_eq_self.mpr fun _ _ => rfl] at cr
  have er : ((List.range l.length).map fun k => dP (l.getD (pr l.length k) ⟨#[]⟩, l.getD k ⟨#[]⟩)) = (rp l).map dP := by
    unfold rp
    rw [List.map_map]
    rfl
  rw [er] at cr
  let X3 : SV := .dat (.tup ((srt ltP (rp l)).map dP))
  refine wp_seq (wp_eq (a := .nx) (e := E X3 .un .un .un) (asg1 (callo (f := tupleF) (held_ok (sort_P (consA1 (held_ok cr)))) rfl) rfl rfl) ?_)
  refine wp_seq (wp_eq (a := .nx) (e := E X3 (.own (.L ((ev (l.take 0) l).map dP))) (fr none) .un) (asgO1 (lst1 nA (Nat.zero_le _)) rfl rfl) ?_)
  refine wp_seq (wp_for (fun i e => ∃ o5, e = E X3 (.own (.L ((ev (l.take i) l).map dP))) (fr o5) .un) _ _ (itT1 (nm1 rfl)) ⟨none, rfl⟩ ?_ ?_)
  · rintro i d e hd ⟨o5, rfl⟩
    rw [List.getElem?_map] at hd
    obtain ⟨a, hx, rfl⟩ := Option.map_eq_some_iff.mp hd
    have ma := List.mem_of_getElem? hx
    have hi : i < l.length := (List.getElem?_eq_some_iff.mp hx).1
    have tk : ev (l.take (i + 1)) l = ev (l.take i) l ++ (l.filter fun b => !decide (b = a)).map fun b => (a, b) := by
      rw [List.take_add_one, hx, Option.toList_some]
      unfold ev
      rw [List.flatMap_append, List.flatMap_singleton]
    refine ⟨E X3 (.own (.L ((ev (l.take i) l).map dP))) (.dat (.str a)) .un, setD_fr (o := o5) rfl, by cases o5 <;> rfl, ?_⟩
    have cc : compF [8] (itA (nameD 1)) (setD 8) (valT (bin2 (pur2 (eqF true)) (nameD 8) (nameD 5))) (tupD (consA (nameD 5) (consA (nameD 8) nilA))) (E X3 (.own (.L ((ev (l.take i) l).map dP))) (.dat (.str a)) .un) = .ok ((l.filter fun b => !decide (b = a)).map fun b => dP (a, b)) (E X3 (.own (.L ((ev (l.take i) l).map dP))) (.dat (.str a)) .un) :=
      compF_map (f := D.str) (itT1 (nm1 rfl)) rfl sL rfl fun b mb => ⟨[.bor (pd p2), .dat L, .dat (.int (l.length : Int)), X3, .own (.L ((ev (l.take i) l).map dP)), .dat (.str a), .un, .un, .dat (.str b)], rfl, rfl, rfl, val1 (bin1 (nm1 rfl) (nm1 rfl) (eqF_str true (h.sok b mb) (h.sok a ma))), fun _ => tup1 (consA2 (nm1 rfl) (consA2 (nm1 rfl) nA)) s2⟩
    have le : (ev (l.take i) l).length ≤ 144 := by
      have sub : (ev (l.take i) l).Sublist (ev l l) := by
        have e : l = l.take i ++ l.drop i := (List.take_append_drop i l).symm
        have : ev l l = ev (l.take i) l ++ ev (l.drop i) l := by
          unfold ev
          rw [← List.flatMap_append, List.take_append_drop]
        rw [this]
        exact List.sublist_append_left _ _
      exact Nat.le_trans sub.length_le (ev_wk h).len
    have fl := List.length_filter_le (fun b => !decide (b = a)) l
    have st : extS 4 (heldD (compF [8] (itA (nameD 1)) (setD 8) (valT (bin2 (pur2 (eqF true)) (nameD 8) (nameD 5))) (tupD (consA (nameD 5) (consA (nameD 8) nilA))))) (E X3 (.own (.L ((ev (l.take i) l).map dP))) (.dat (.str a)) .un) = .ok .nx (E X3 (.own (.L ((ev (l.take (i + 1)) l).map dP))) (.dat (.str a)) .un) :=
      DL.ext1' (l := (ev (l.take i) l).map dP) rfl (held_ok cc) rfl (by rw [List.length_map, List.length_map]; omega) (by
        have e1 : (ev (l.take (i + 1)) l).map dP = (ev (l.take i) l).map dP ++ (l.filter fun b => !decide (b = a)).map fun b => dP (a, b) := by rw [tk, List.map_append, List.map_map]; rfl
        show _ = some ([SV.bor (pd p2), SV.dat L, SV.dat (.int (l.length : Int)), X3, SV.own (.L ((ev (l.take (i + 1)) l).map dP)), SV.dat (.str a), SV.un, SV.un, SV.un] : Env)
        rw [e1]
        rfl)
    exact wp_seq (wp_eq (a := .nx) st (wp_nx.mpr ⟨rfl, some _, rfl⟩))
  rintro e' ⟨o5, rfl⟩
  rw [List.length_map, List.take_length]
  let X4 : SV := .own (.L ((ev l l).map dP))
  refine wp_seq (wp_eq (a := .nx) (e := E X3 X4 (fr o5) (.dat (.int ((2 ^ 0 : Nat) : Int)))) (asg1 cn1 rfl (by cases o5 <;> rfl)) ?_)
  refine wp_seq (wp_for (fun i e => ∃ o5, e = E X3 X4 (fr o5) (.dat (.int ((2 ^ i : Nat) : Int)))) _ _ (itT1 (nm1 rfl)) ⟨o5, rfl⟩ ?_ ?_)
  · rintro i d e hd ⟨o, rfl⟩
    rw [List.getElem?_map] at hd
    obtain ⟨a, hx, rfl⟩ := Option.map_eq_some_iff.mp hd
    have hi : i < l.length := (List.getElem?_eq_some_iff.mp hx).1
    refine ⟨E X3 X4 (.dat (.str a)) (.dat (.int ((2 ^ i : Nat) : Int))), setD_fr (o := o) rfl, by cases o <;> rfl, ?_⟩
    exact wp_seq (wp_eq (a := .nx) (e := E X3 X4 (.dat (.str a)) (.dat (.int ((2 ^ (i + 1) : Nat) : Int)))) (asg1 (bin1 cn1 (nm1 rfl) (dbl (by omega))) rfl rfl) (wp_nx.mpr ⟨rfl, some _, rfl⟩))
  rintro e' ⟨o, rfl⟩
  rw [List.length_map]
  have pw1 := Nat.two_pow_pos l.length
  let F : Env := E X3 X4 (fr o) (.dat (.int ((2 ^ l.length : Nat) : Int)))
  have w0 : Wk l [] := ⟨(fun p m => by cases m), List.Pairwise.nil, by decide⟩
  have mk0 : mkCall ("Web" : Str) K04.f_Web_init [.d L, .d (.tup [])] F = .ok (webD l []) F := mk1 (its := [.d L, .d (.tup [])]) (K04.init_ok h w0) rfl rfl
  have mkw : ∀ {w : List (Str × Str)} {e : Env}, Wk l w → mkCall ("Web" : Str) K04.f_Web_init [.d L, .d (.tup (w.map dP))] e = .ok (webD l w) e := fun {w e} hwk => mk1 (its := [.d L, .d (.tup (w.map dP))]) (K04.init_ok h hwk) rfl rfl
  have sb : subF (.int ((2 ^ l.length : Nat) : Int)) (.int 1) = some (.int ((2 ^ l.length - 1 : Nat) : Int)) := by
    show some (D.int (((2 ^ l.length : Nat) : Int) - ((1 : Nat) : Int))) = _
    rw [(Int.ofNat_sub pw1 : ((2 ^ l.length - 1 : Nat) : Int) = _)]
  have q1 := is_at h w0 cnt_none
  have q2 := is_at h (rp_wk h) (cnt_rp h)
  have q3 := is_at h (ev_wk h) (cnt_every (h.ri.nodup ordS) fun x y => ev_mem)
  have q4 := is_at (N := 1) h (sv_wk h) (cnt_selves fun x m => List.mem_map.mpr ⟨x, m, rfl⟩)
  have t1 : callS (fnCall K42.f_law_is) (posA []) (consRd (callS (mkCall ("Web" : Str) K04.f_Web_init) (layL (.d .non) (.d (.tup [])) [none]) (consRd (nameD 1) nilR) nilR) (consRd (nameD 6) nilR)) nilR F = .ok (.bl true) F := callS1 (cRd (callS1 (cRd (nm1 rfl) nR) nR mk0) (cRd (nm1 rfl) nR)) nR (fnC2 q1 rfl rfl)
  have t2 : callS (fnCall K42.f_law_is) (posA []) (consRd (callS (mkCall ("Web" : Str) K04.f_Web_init) kwA (consRd (nameD 1) nilR) (consRd (nameD 3) nilR)) (consRd (bin2 (pur2 subF) (nameD 6) (constD (.int 1))) nilR)) nilR F = .ok (.bl true) F := callS1 (cRd (callS1 (cRd (nm1 rfl) nR) (cRd (nm1 rfl) nR) (mkw (rp_wk h))) (cRd (bin1 (nm1 rfl) cn1 sb) nR)) nR (fnC2 q2 rfl rfl)
  refine wp_seq (wp_eq (a := .nx) (e := F) (ifSf (or2 (not1 (val1 t1)) (not1 (val1 t2))) nx1) ?_)
  let F4 : Env := E X3 (.dat (.lst ((ev l l).map dP))) (fr o) (.dat (.int ((2 ^ l.length : Nat) : Int)))
  have k4 : nameD 4 F = .ok (.lst ((ev l l).map dP)) F4 := nmO (o := .L ((ev l l).map dP)) rfl
  have t3 : callS (fnCall K42.f_law_is) (posA []) (consRd (callS (mkCall ("Web" : Str) K04.f_Web_init) kwA (consRd (nameD 1) nilR) (consRd (callD (one tupleF) (consA (nameD 4) nilA)) nilR)) (consRd (bin2 (pur2 addF) (nameD 2) (constD (.int 1))) nilR)) nilR F = .ok (.bl true) F4 := callS1 (cRd (callS1 (cRd (nm1 rfl) nR) (cRd (callo (f := tupleF) k4 rfl) nR) (mkw (ev_wk h))) (cRd (bin1 (nm1 rfl) cn1 rfl) nR)) nR (fnC2 q3 rfl rfl)
  have t4 : callS (fnCall K42.f_law_is) (posA []) (consRd (callS (mkCall ("Web" : Str) K04.f_Web_init) kwA (consRd (nameD 1) nilR) (consRd (callS (fnCall K42.f_law_selves) (posA []) (consRd (nameD 1) nilR) nilR) nilR)) (consRd (constD (.int 1)) nilR)) nilR F4 = .ok (.bl true) F4 := callS1 (cRd (callS1 (cRd (nm1 rfl) nR) (cRd (callS1 (cRd (nm1 rfl) nR) nR (fnC2 (selves_ok h) rfl rfl)) nR) (mkw (sv_wk h))) (cRd cn1 nR)) nR (fnC2 q4 rfl rfl)
  exact wp_seq (wp_eq (a := .rt (.bl true)) (e := F4) (ret1 (andD2 t3 t4)) ⟨p2, hp2.mono (by omega), rfl, rfl⟩)
end
end DL.K42
namespace DL.K42
open PySem L2
open K04 (Bl Wk webD fr setD_fr r1_ok)
open K05 (l1000)
open K14 (pd PO lsD draw_ok)
section
variable {l : List Str} {w : List (Str × Str)}
theorem callRdO {fn : List SV → Out D} {rx : Env → Out D} {x d : D} {e e1 : Env} {i : Nat} {ov ov' : OV} (h0 : ∃ o, ovOf e[i]? = some o) (hx : rx e = .ok x e1) (h1 : e1[i]? = some (.own ov)) (hf : fn [.bor ov, .dat x] = .ok d [.bor ov', .dat x]) : callS (fnCall fn) (posA []) (consRr i (consRd rx nilR)) nilR e = .ok d (e1.set i (.own ov')) := by
  obtain ⟨o, h0⟩ := h0
  have h2 : ovOf (some (SV.own ov)) = some ov := rfl
  simp [callS, consRr, consRd, h0, hx, h1, h2, nilR, posA, refsB, refsOf, fnCall, nodupB, svsOf, hf, putBack, putOv]
theorem callR0 {fn : List SV → Out D} {d : D} {e : Env} {i : Nat} {ov ov' : OV} (h1 : e[i]? = some (.own ov)) (hf : fn [.bor ov] = .ok d [.bor ov']) : callS (fnCall fn) (posA []) (consRr i nilR) nilR e = .ok d (e.set i (.own ov')) := by
  have h2 : ovOf (some (SV.own ov)) = some ov := rfl
  simp [callS, consRr, h1, h2, nilR, posA, refsB, refsOf, fnCall, nodupB, svsOf, hf, putBack, putOv]
theorem callNO {e : Env} {i : Nat} {K : Nat} {p : Int × Int × Int} {ru : Env → Out D} {u : Nat} (h : e[i]? = some (.own (pd p))) (hp : PO K p) (hK : K ≤ 1000000) (hr : ru e = .ok (.int (u : Int)) e) (hu : 1 ≤ u) (hu2 : u < 1267650600228229401496703205376) :
    ∃ (r : Nat) (p' : Int × Int × Int), PO (K + 1) p' ∧ r < u ∧ callS (fnCall K14.f_law_draw) (posA []) (consRr i (consRd ru nilR)) nilR e = .ok (.int (r : Int)) (e.set i (.own (pd p'))) := by
  obtain ⟨r, p', h1, h2, h3, h4⟩ := draw_ok hp hK (u := (u : Int)) (by omega) (by omega)
  obtain ⟨r, rfl⟩ := Int.eq_ofNat_of_zero_le h2
  exact ⟨r, p', h1, by omega, callRdO ⟨pd p, by rw [h]; rfl⟩ hr h h4⟩
theorem law_true : ∀ ns : List Int, ns.length ≤ 63 → ∃ e, f_law [.dat (.ro (ns.map D.int))] = .ok (.bl true) e := fun ns hl => by
  refine ⟨[.dat (.ro (ns.map D.int))], Wp.out (fn_wp ?_)⟩
  unfold b_law
  have lk := l1000
  have s2 : 2 ≤ sizeLine := by omega
  have ln : lenF (.ro (ns.map .int)) = some (.int ns.length) := by
    show some (D.int ((ns.map D.int).length : Nat)) = _
    rw [List.length_map]
  obtain ⟨n, hn, e1⟩ : ∃ n : Nat, n ≤ 5 ∧ callD max2F (consA (constD (.int 2)) (consA (callD min2F (consA (constD (.int 5)) (consA (callD (one lenF) (consA (nameD 0) nilA)) nilA))) nilA)) [.dat (.ro (ns.map .int)), .un, .un, .un, .un, .un, .un, .un] = .ok (.int n) [.dat (.ro (ns.map .int)), .un, .un, .un, .un, .un, .un, .un] := by
    refine ⟨if (if ns.length < 5 then ns.length else 5) > 2 then (if ns.length < 5 then ns.length else 5) else 2, by split <;> (try split) <;> omega, ?_⟩
    refine call1 (consA2 cn1 (consA1 (call1 (consA2 cn1 (consA1 (callo (nm1 rfl) ln))) rfl))) ?_
    simp only [max2F]
    by_cases h8 : ns.length < 5
    · have : (ns.length : Int) < 5 := by omega
      simp only [h8, this, if_true]
      by_cases h2 : 2 < ns.length
      · have : (2 : Int) < ns.length := by omega
        simp [h2, this]
      · have h2' : ¬ (2 : Int) < ns.length := by omega
        simp [h2, h2']
    · have h8' : ¬ (ns.length : Int) < 5 := by omega
      simp [h8, h8']
  let B : SV → SV → SV → SV → SV → SV → Env := fun x1 x2 x3 x4 x5 x6 => [.dat (.ro (ns.map .int)), x1, x2, x3, x4, x5, x6, .un]
  refine wp_seq (wp_for (fun i e => ∃ o1 x2 o3 o4 o5 o6, (x2 = .un ∨ ∃ o, x2 = .own o) ∧ e = B (fr o1) x2 (fr o3) (fr o4) (fr o5) (fr o6)) _ _ (r1_ok e1 (by omega)) ⟨none, .un, none, none, none, none, .inl rfl, rfl⟩ ?_ ?_)
  · rintro i d e hdd ⟨o1, x2, o3, o4, o5, o6, hx2, rfl⟩
    rw [List.getElem?_map] at hdd
    obtain ⟨k, hk, rfl⟩ := Option.map_eq_some_iff.mp hdd
    have hi : i < n := by have := (List.getElem?_eq_some_iff.mp hk).1; simpa using this
    have : k = i := by rw [List.getElem?_range hi] at hk; cases hk; rfl
    subst this
    refine ⟨B (.dat (.int (k : Int))) x2 (fr o3) (fr o4) (fr o5) (fr o6), setD_fr (o := o1) rfl, by rcases hx2 with rfl | ⟨o, rfl⟩ <;> cases o1 <;> cases o3 <;> cases o4 <;> cases o5 <;> cases o6 <;> rfl, ?_⟩
    obtain ⟨c, hc⟩ := K14.cell_ok (ns := ns) (k := k) (by omega) hl
    obtain ⟨p, hp, h0⟩ := K14.purse_ok c
    have hb : x2.isB = false := by rcases hx2 with rfl | ⟨o, rfl⟩ <;> rfl
    have cc : callS (fnCall K14.f_law_cell) (posA []) (consRd (nameD 0) (consRd (nameD 1) nilR)) nilR (B (.dat (.int (k : Int))) x2 (fr o3) (fr o4) (fr o5) (fr o6)) = .ok (.int c) (B (.dat (.int (k : Int))) x2 (fr o3) (fr o4) (fr o5) (fr o6)) := callS1 (cRd (nm1 rfl) (cRd (nm1 rfl) nR)) nR (fnC2 hc rfl rfl)
    have cp : callLS K14.f_law_purse (consRd (callS (fnCall K14.f_law_cell) (posA []) (consRd (nameD 0) (consRd (nameD 1) nilR)) nilR) nilR) (B (.dat (.int (k : Int))) x2 (fr o3) (fr o4) (fr o5) (fr o6)) = .ok [.int p.1, .int p.2.1, .int p.2.2] (B (.dat (.int (k : Int))) x2 (fr o3) (fr o4) (fr o5) (fr o6)) := callLSn (its := [.d (.int c)]) (cRd cc nR) h0
    refine wp_seq (wp_eq (a := .nx) (e := B (.dat (.int (k : Int))) (.own (pd p)) (fr o3) (fr o4) (fr o5) (fr o6)) (asgO1 (sv := x2) cp rfl hb) ?_)
    let G : Int × Int × Int → SV → SV → SV → SV → Env := fun q x3 x4 x5 x6 => B (.dat (.int (k : Int))) (.own (pd q)) x3 x4 x5 x6
    obtain ⟨x, p1, hp1, x7, c1⟩ := callNO (e := G p (fr o3) (fr o4) (fr o5) (fr o6)) (i := 2) (u := 7) rfl hp (by omega) cn1 (by decide) (by decide)
    have ad1 : addF (.int 1) (.int (x : Int)) = some (.int ((1 + x : Nat) : Int)) := by
      show some (D.int ((1 : Int) + (x : Int))) = _
      rw [Int.natCast_add]
      rfl
    obtain ⟨l, p3, hp3, h, ll, c3⟩ := K57.calls_ok (n := 1 + x) hp1 (by omega) (by omega) (by omega)
    have l7 : l.length ≤ 7 := by omega
    refine wp_seq (wp_eq (a := .nx) (e := G p3 (.dat (.tup (l.map .str))) (fr o4) (fr o5) (fr o6)) (asg1 (callRdO (e1 := G p1 (fr o3) (fr o4) (fr o5) (fr o6)) ⟨_, rfl⟩ (bin1 cn1 c1 ad1) rfl c3) (setD_fr (o := o3) rfl) (by cases o3 <;> cases o4 <;> cases o5 <;> cases o6 <;> rfl)) ?_)
    obtain ⟨w, p4, hp4, hwk, c4⟩ := K57.links_ok hp3 (by omega) h
    let L : SV := .dat (.tup (l.map .str))
    let W : SV := .dat (.tup (w.map dP))
    refine wp_seq (wp_eq (a := .nx) (e := G p4 L W (fr o5) (fr o6)) (asg1 (callRdO (e1 := G p3 L (fr o4) (fr o5) (fr o6)) ⟨_, rfl⟩ (nm1 rfl) rfl c4) (setD_fr (o := o4) rfl) (by cases o4 <;> cases o5 <;> cases o6 <;> rfl)) ?_)
    have cl := lots_ok h l7
    have ll2 : (lots l).length ≤ sizeLine := by
      unfold lots
      rw [List.length_map, List.length_range]
      have : 2 ^ l.length ≤ 2 ^ 7 := Nat.pow_le_pow_right (by decide) l7
      have big : (200000 : Nat) ≤ sizeLine := by decide
      have : (2 : Nat) ^ 7 = 128 := by decide
      omega
    have cf : compF [7] (itA (callS (fnCall K13.f_law_stands) (posA []) (consRd (nameD 3) nilR) nilR)) (setD 7) (valT (callS (fnCall K41.f_law_ringless) (posA []) (consRd (nameD 4) (consRd (nameD 7) nilR)) nilR)) (nameD 7) (G p4 L W (fr o5) (fr o6)) = .ok (((lots l).filter fun S => RL w S).map fun S => .tup (S.map .str)) (G p4 L W (fr o5) (fr o6)) :=
      compF_map (f := fun S : List Str => D.tup (S.map .str)) (itL1 (callS1 (cRd (nm1 rfl) nR) nR (fnC2 cl rfl rfl))) (by cases o5 <;> cases o6 <;> rfl) ll2 (by cases o5 <;> cases o6 <;> rfl) fun S mS => ⟨[.dat (.ro (ns.map .int)), .dat (.int (k : Int)), .own (pd p4), L, W, fr o5, fr o6, .dat (.tup (S.map .str))], by cases o5 <;> cases o6 <;> rfl, by cases o5 <;> cases o6 <;> rfl, by cases o5 <;> cases o6 <;> rfl, val1 (callS1 (cRd (nm1 rfl) (cRd (nm1 rfl) nR)) nR (fnC2 (ringless_ok h hwk (fun x m => (lots_sub S mS).mem m) ((lots_sub S mS).nodup (h.ri.nodup ordS))) rfl rfl)), fun _ => nm1 rfl⟩
    have cln : callD (one lenF) (consA (heldD (compF [7] (itA (callS (fnCall K13.f_law_stands) (posA []) (consRd (nameD 3) nilR) nilR)) (setD 7) (valT (callS (fnCall K41.f_law_ringless) (posA []) (consRd (nameD 4) (consRd (nameD 7) nilR)) nilR)) (nameD 7))) nilA) (G p4 L W (fr o5) (fr o6)) = .ok (.int (cnt l w : Int)) (G p4 L W (fr o5) (fr o6)) := by
      refine callo (held_ok cf) ((len_lm _ _).trans ?_)
      rw [cnt_lots]
    let X5 : SV := .dat (.int (cnt l w : Int))
    refine wp_seq (wp_eq (a := .nx) (e := G p4 L W X5 (fr o6)) (asg1 cln (setD_fr (o := o5) rfl) (by cases o5 <;> cases o6 <;> rfl)) ?_)
    have mkw : ∀ {l : List Str} {w : List (Str × Str)} {e : Env}, Bl l → Wk l w → mkCall ("Web" : Str) K04.f_Web_init [.d (.tup (l.map .str)), .d (.tup (w.map dP))] e = .ok (webD l w) e := fun {l w e} h hwk => mk1 (its := [.d (.tup (l.map .str)), .d (.tup (w.map dP))]) (K04.init_ok h hwk) rfl rfl
    refine wp_seq (wp_eq (a := .nx) (e := G p4 L W X5 (fr o6)) (ifSf (not1 (val1 (callS1 (cRd (callS1 (cRd (nm1 rfl) nR) (cRd (nm1 rfl) nR) (mkw h hwk)) (cRd (nm1 rfl) nR)) nR (fnC2 (is_ok h hwk) rfl rfl)))) nx1) ?_)
    obtain ⟨p5, hp5, c5⟩ := told_ok hp4 (by omega)
    obtain ⟨p6, hp6, st6⟩ : ∃ p6, PO 300 p6 ∧ ifS (andT (valT (bin2 (pur2 (eqF false)) (nameD 1) (constD (.int 0)))) (notT (valT (callS (fnCall K42.f_law_told_ones_right) (posA []) (consRr 2 nilR) nilR)))) (seqS (retS (constD (.bl false))) nextS) nextS (G p4 L W X5 (fr o6)) = .ok .nx (G p6 L W X5 (fr o6)) := by
      have t0 : valT (bin2 (pur2 (eqF false)) (nameD 1) (constD (.int 0))) (G p4 L W X5 (fr o6)) = .ok (decide ((k : Int) = 0)) (G p4 L W X5 (fr o6)) := val1 (bin1 (nm1 rfl) cn1 (eqF_int false _ _))
      by_cases k0 : (k : Int) = 0
      · rw [decide_eq_true k0] at t0
        exact ⟨p5, hp5.mono (by omega), ifSf (and2 t0 (not1 (val1 (callR0 rfl c5)))) nx1⟩
      · rw [decide_eq_false k0] at t0
        exact ⟨p4, hp4.mono (by omega), ifSf (and1 t0) nx1⟩
    refine wp_seq (wp_eq (a := .nx) st6 ?_)
    obtain ⟨y, p7, hp7, y4, c7⟩ := callNO (e := G p6 L W X5 (fr o6)) (i := 2) (u := 4) rfl hp6 (by omega) cn1 (by decide) (by decide)
    have t7 : valT (bin2 (pur2 (eqF false)) (callS (fnCall K14.f_law_draw) (posA []) (consRr 2 (consRd (constD (.int 4)) nilR)) nilR) (constD (.int 1))) (G p6 L W X5 (fr o6)) = .ok (decide ((y : Int) = 1)) (G p7 L W X5 (fr o6)) := val1 (bin1 c7 cn1 (eqF_int false _ _))
    by_cases y1 : (y : Int) = 1
    · rw [decide_eq_true y1] at t7
      obtain ⟨z, p8, hp8, z5, c8⟩ := callNO (e := G p7 L W X5 (fr o6)) (i := 2) (u := 5) rfl hp7 (by omega) cn1 (by decide) (by decide)
      have ad8 : addF (.int 8) (.int (z : Int)) = some (.int ((8 + z : Nat) : Int)) := by
        show some (D.int ((8 : Int) + (z : Int))) = _
        rw [Int.natCast_add]
        rfl
      obtain ⟨m, hm1, hm12, cm⟩ : ∃ m : Nat, 1 ≤ m ∧ m ≤ 12 ∧ callD min2F (consA (bin2 (pur2 addF) (constD (.int 8)) (callS (fnCall K14.f_law_draw) (posA []) (consRr 2 (consRd (constD (.int 5)) nilR)) nilR)) (consA (bin2 (pur2 ixF) (heldD (lstF (consA (constD (.int 12)) (consA (constD (.int 10)) nilA)))) (callD (one int1F) (consA (bin2 (pur2 gtF) (nameD 1) (constD (.int 0))) nilA))) nilA)) (G p7 L W X5 (fr o6)) = .ok (.int (m : Int)) (G p8 L W X5 (fr o6)) := by
        obtain ⟨u, u12, cu⟩ : ∃ u : Nat, 10 ≤ u ∧ u ≤ 12 ∧ bin2 (pur2 ixF) (heldD (lstF (consA (constD (.int 12)) (consA (constD (.int 10)) nilA)))) (callD (one int1F) (consA (bin2 (pur2 gtF) (nameD 1) (constD (.int 0))) nilA)) (G p8 L W X5 (fr o6)) = .ok (.int (u : Int)) (G p8 L W X5 (fr o6)) := by
          have g0 : gtF (.int (k : Int)) (.int 0) = some (.bl (decide (0 < (k : Int)))) := rfl
          have lv : heldD (lstF (consA (constD (.int 12)) (consA (constD (.int 10)) nilA))) (G p8 L W X5 (fr o6)) = .ok (.lst [.int 12, .int 10]) (G p8 L W X5 (fr o6)) := held_ok (lst1 (consA2 cn1 (consA2 cn1 nA)) s2)
          by_cases kp : 0 < (k : Int)
          · rw [decide_eq_true kp] at g0
            exact ⟨10, by decide, by decide, bin1 lv (callo (bin1 (nm1 rfl) cn1 g0) rfl) rfl⟩
          · rw [decide_eq_false kp] at g0
            exact ⟨12, by decide, by decide, bin1 lv (callo (bin1 (nm1 rfl) cn1 g0) rfl) rfl⟩
        refine ⟨if u < 8 + z then u else 8 + z, by split <;> omega, by split <;> omega, call1 (consA2 (bin1 cn1 c8 ad8) (consA2 cu.2 nA)) ?_⟩
        simp only [min2F]
        by_cases q : u < 8 + z
        · have : (u : Int) < ((8 + z : Nat) : Int) := by omega
          simp only [this, q, if_true]
        · have : ¬ (u : Int) < ((8 + z : Nat) : Int) := by omega
          simp only [this, q, if_false]
      obtain ⟨l2, p9, hp9, h2, ll9, c9⟩ := K57.calls_ok (n := m) hp8 (by omega) hm1 hm12
      obtain ⟨w2, pa, hpa, hwk2, ca⟩ := K57.links_ok hp9 (by omega) h2
      let L2' : SV := .dat (.tup (l2.map .str))
      let W2 : SV := .dat (.tup (w2.map dP))
      have s1 : asgS (callS (fnCall K57.f_law_calls) (posA []) (consRr 2 (consRd (callD min2F (consA (bin2 (pur2 addF) (constD (.int 8)) (callS (fnCall K14.f_law_draw) (posA []) (consRr 2 (consRd (constD (.int 5)) nilR)) nilR)) (consA (bin2 (pur2 ixF) (heldD (lstF (consA (constD (.int 12)) (consA (constD (.int 10)) nilA)))) (callD (one int1F) (consA (bin2 (pur2 gtF) (nameD 1) (constD (.int 0))) nilA))) nilA))) nilR)) nilR) (setD 6) [6] (G p7 L W X5 (fr o6)) = .ok .nx (G p9 L W X5 L2') := asg1 (callRdO (e1 := G p8 L W X5 (fr o6)) ⟨_, rfl⟩ cm rfl c9) (setD_fr (o := o6) rfl) (by cases o6 <;> rfl)
      have s2' : asgS (callS (fnCall K57.f_law_links) (posA []) (consRr 2 (consRd (nameD 6) nilR)) nilR) (setD 4) [4] (G p9 L W X5 L2') = .ok .nx (G pa L W2 X5 L2') := asg1 (callRdO (e1 := G p9 L W X5 L2') ⟨_, rfl⟩ (nm1 rfl) rfl ca) rfl rfl
      have ct := table_ok h2 hwk2
      have s3 : ifS (notT (valT (callS (fnCall K42.f_law_is) (posA []) (consRd (callS (mkCall ("Web" : Str) K04.f_Web_init) kwA (consRd (nameD 6) nilR) (consRd (nameD 4) nilR)) (consRd (callS (fnCall K42.f_law_table_count) (posA []) (consRd (nameD 4) (consRd (nameD 6) nilR)) nilR) nilR)) nilR))) (seqS (retS (constD (.bl false))) nextS) nextS (G pa L W2 X5 L2') = .ok .nx (G pa L W2 X5 L2') := ifSf (not1 (val1 (callS1 (cRd (callS1 (cRd (nm1 rfl) nR) (cRd (nm1 rfl) nR) (mkw h2 hwk2)) (cRd (callS1 (cRd (nm1 rfl) (cRd (nm1 rfl) nR)) nR (fnC2 ct rfl rfl)) nR)) nR (fnC2 (is_ok h2 hwk2) rfl rfl)))) nx1
      exact wp_seq (wp_eq (a := .nx) (e := G pa L W2 X5 L2') (ifSt t7 (seqS1 s1 (seqS1 s2' (seqS1 s3 nx1)))) (wp_nx.mpr ⟨rfl, some _, .own (pd pa), some _, some _, some _, some _, .inr ⟨_, rfl⟩, rfl⟩))
    · rw [decide_eq_false y1] at t7
      exact wp_seq (wp_eq (a := .nx) (e := G p7 L W X5 (fr o6)) (ifSf t7 nx1) (wp_nx.mpr ⟨rfl, some _, .own (pd p7), some _, some _, some _, o6, .inr ⟨_, rfl⟩, rfl⟩))
  · rintro e' ⟨o1, x2, o3, o4, o5, o6, hx2, rfl⟩
    exact wp_seq (wp_eq (ret1 cn1) ⟨rfl, rfl⟩)
end
end DL.K42
namespace DL.K42
open PySem PySem.Spec PyProof.Rows L2
theorem all_mk {P : Program} {w : World} {K : PySem.W.Frag} {h : Heap} {mg : Str → Option Value} {fa C_Web f_is_name f_check_bells f_is_wake f_check_wakes f_Web_init f_law_draw f_law_calls f_law_cell f_check_bell f_Web_wakers f_check_web f_how_many_stands f_law_is f_law_links f_law_lots f_law_purse f_law_ringless f_law_table_count f_law_selves f_law_told_ones_right f_law : Addr} (X : K.In h) (G : h.Ns mainGlobals mg) (hfa : mg "law" = some (.ref fa))
    {od_is_name an_is_name od_check_bells an_check_bells od_is_wake an_is_wake od_check_wakes an_check_wakes od_Web_init an_Web_init od_law_draw an_law_draw od_law_calls an_law_calls od_law_cell an_law_cell od_check_bell an_check_bell od_Web_wakers an_Web_wakers od_check_web an_check_web od_how_many_stands an_how_many_stands od_law_is an_law_is od_law_links an_law_links od_law_lots an_law_lots od_law_purse an_law_purse od_law_ringless an_law_ringless od_law_table_count an_law_table_count od_law_selves an_law_selves od_law_told_ones_right an_law_told_ones_right od_law an_law : Option Addr} {sl_is_name sl_check_bells sl_is_wake sl_check_wakes sl_Web_init sl_law_draw sl_law_calls sl_law_cell sl_check_bell sl_Web_wakers sl_check_web sl_how_many_stands sl_law_is sl_law_links sl_law_lots sl_law_purse sl_law_ringless sl_law_table_count sl_law_selves sl_law_told_ones_right sl_law es_Web_init : Array (Option Value)} {oc_is_name kV_is_name dc_is_name pm_is_name cd_is_name ct_is_name oc_check_bells kV_check_bells dc_check_bells pm_check_bells cd_check_bells ct_check_bells oc_is_wake kV_is_wake dc_is_wake pm_is_wake cd_is_wake ct_is_wake oc_check_wakes kV_check_wakes dc_check_wakes pm_check_wakes cd_check_wakes ct_check_wakes oc_Web_init dc_Web_init pm_Web_init cd_Web_init ct_Web_init oc_law_draw kV_law_draw dc_law_draw pm_law_draw cd_law_draw ct_law_draw oc_law_calls kV_law_calls dc_law_calls pm_law_calls cd_law_calls ct_law_calls oc_law_cell kV_law_cell dc_law_cell pm_law_cell cd_law_cell ct_law_cell oc_check_bell kV_check_bell dc_check_bell pm_check_bell cd_check_bell ct_check_bell oc_Web_wakers kV_Web_wakers dc_Web_wakers pm_Web_wakers cd_Web_wakers ct_Web_wakers oc_check_web kV_check_web dc_check_web pm_check_web cd_check_web ct_check_web oc_how_many_stands kV_how_many_stands dc_how_many_stands pm_how_many_stands cd_how_many_stands ct_how_many_stands oc_law_is kV_law_is dc_law_is pm_law_is cd_law_is ct_law_is oc_law_links kV_law_links dc_law_links pm_law_links cd_law_links ct_law_links oc_law_lots kV_law_lots dc_law_lots pm_law_lots cd_law_lots ct_law_lots oc_law_purse kV_law_purse dc_law_purse pm_law_purse cd_law_purse ct_law_purse oc_law_ringless kV_law_ringless dc_law_ringless pm_law_ringless cd_law_ringless ct_law_ringless oc_law_table_count kV_law_table_count dc_law_table_count pm_law_table_count cd_law_table_count ct_law_table_count oc_law_selves kV_law_selves dc_law_selves pm_law_selves cd_law_selves ct_law_selves oc_law_told_ones_right kV_law_told_ones_right dc_law_told_ones_right pm_law_told_ones_right cd_law_told_ones_right ct_law_told_ones_right oc_law kV_law dc_law pm_law cd_law ct_law : Value} {t_LETTERS t_MOST_BELLS t_MOST_LETTERS : Tok} {kd_Web_init e_Web_init : Addr} {en_Web_init : Nat}
    (aC_Web : PySem.W.nsIn K mainGlobals "Web" = some (some (.ref C_Web)))
    (pg_Web : PySem.W.plainGet K C_Web Str.empty = true)
    (hd_Web : PySem.W.hasDictIn K C_Web = true)
    (po_Web : PySem.W.plainOver K C_Web = true)
    (sa_Web : PySem.W.findIn K (.ref C_Web) "__setattr__" = some (some (.builtin "object.__setattr__")))
    (a_is_name : PySem.W.nsIn K mainGlobals ("is_name" : Str) = some (some (.ref f_is_name)))
    (l_is_name : K.lookup f_is_name = some ⟨oc_is_name, od_is_name, .func (PySem.W.fnOf ("is_name" : Str) ("is_name" : Str) (defArgs s_is_name) (defBody s_is_name) (defScope s_is_name) .none kV_is_name dc_is_name pm_is_name an_is_name cd_is_name ct_is_name), sl_is_name⟩)
    (c_is_name : PySem.W.codeIn K cd_is_name ("is_name" : Str) = true)
    (k_is_name : PySem.W.keepIn K (.ref f_is_name) = true)
    (a_check_bells : PySem.W.nsIn K mainGlobals ("check_bells" : Str) = some (some (.ref f_check_bells)))
    (l_check_bells : K.lookup f_check_bells = some ⟨oc_check_bells, od_check_bells, .func (PySem.W.fnOf ("check_bells" : Str) ("check_bells" : Str) (defArgs s_check_bells) (defBody s_check_bells) (defScope s_check_bells) .none kV_check_bells dc_check_bells pm_check_bells an_check_bells cd_check_bells ct_check_bells), sl_check_bells⟩)
    (c_check_bells : PySem.W.codeIn K cd_check_bells ("check_bells" : Str) = true)
    (k_check_bells : PySem.W.keepIn K (.ref f_check_bells) = true)
    (a_is_wake : PySem.W.nsIn K mainGlobals ("is_wake" : Str) = some (some (.ref f_is_wake)))
    (l_is_wake : K.lookup f_is_wake = some ⟨oc_is_wake, od_is_wake, .func (PySem.W.fnOf ("is_wake" : Str) ("is_wake" : Str) (defArgs s_is_wake) (defBody s_is_wake) (defScope s_is_wake) .none kV_is_wake dc_is_wake pm_is_wake an_is_wake cd_is_wake ct_is_wake), sl_is_wake⟩)
    (c_is_wake : PySem.W.codeIn K cd_is_wake ("is_wake" : Str) = true)
    (k_is_wake : PySem.W.keepIn K (.ref f_is_wake) = true)
    (a_check_wakes : PySem.W.nsIn K mainGlobals ("check_wakes" : Str) = some (some (.ref f_check_wakes)))
    (l_check_wakes : K.lookup f_check_wakes = some ⟨oc_check_wakes, od_check_wakes, .func (PySem.W.fnOf ("check_wakes" : Str) ("check_wakes" : Str) (defArgs s_check_wakes) (defBody s_check_wakes) (defScope s_check_wakes) .none kV_check_wakes dc_check_wakes pm_check_wakes an_check_wakes cd_check_wakes ct_check_wakes), sl_check_wakes⟩)
    (c_check_wakes : PySem.W.codeIn K cd_check_wakes ("check_wakes" : Str) = true)
    (k_check_wakes : PySem.W.keepIn K (.ref f_check_wakes) = true)
    (a_Web_init : PySem.W.findIn K (.ref C_Web) ("__init__" : Str) = some (some (.ref f_Web_init)))
    (i_Web_init : PySem.W.isFn K (.ref f_Web_init) = true)
    (l_Web_init : K.lookup f_Web_init = some ⟨oc_Web_init, od_Web_init, .func (PySem.W.fnOf ("__init__" : Str) ("Web.__init__" : Str) (defArgs s_Web_init) (defBody s_Web_init) (defScope s_Web_init) .none (.ref kd_Web_init) dc_Web_init pm_Web_init an_Web_init cd_Web_init ct_Web_init), sl_Web_init⟩)
    (c_Web_init : PySem.W.codeIn K cd_Web_init ("Web.__init__" : Str) = true)
    (k_Web_init : PySem.W.keepIn K (.ref f_Web_init) = true)
    (dq_Web_init : PySem.W.nsIn K kd_Web_init ("wakes" : Str) = some (some (.ref e_Web_init)))
    (et_Web_init : K.lookup e_Web_init = some ⟨.type "tuple", none, .seq #[] en_Web_init, es_Web_init⟩)
    (a_law_draw : PySem.W.nsIn K mainGlobals ("_law_draw" : Str) = some (some (.ref f_law_draw)))
    (l_law_draw : K.lookup f_law_draw = some ⟨oc_law_draw, od_law_draw, .func (PySem.W.fnOf ("_law_draw" : Str) ("_law_draw" : Str) (defArgs s_law_draw) (defBody s_law_draw) (defScope s_law_draw) .none kV_law_draw dc_law_draw pm_law_draw an_law_draw cd_law_draw ct_law_draw), sl_law_draw⟩)
    (c_law_draw : PySem.W.codeIn K cd_law_draw ("_law_draw" : Str) = true)
    (k_law_draw : PySem.W.keepIn K (.ref f_law_draw) = true)
    (a_law_calls : PySem.W.nsIn K mainGlobals ("_law_calls" : Str) = some (some (.ref f_law_calls)))
    (l_law_calls : K.lookup f_law_calls = some ⟨oc_law_calls, od_law_calls, .func (PySem.W.fnOf ("_law_calls" : Str) ("_law_calls" : Str) (defArgs s_law_calls) (defBody s_law_calls) (defScope s_law_calls) .none kV_law_calls dc_law_calls pm_law_calls an_law_calls cd_law_calls ct_law_calls), sl_law_calls⟩)
    (c_law_calls : PySem.W.codeIn K cd_law_calls ("_law_calls" : Str) = true)
    (k_law_calls : PySem.W.keepIn K (.ref f_law_calls) = true)
    (a_law_cell : PySem.W.nsIn K mainGlobals ("_law_cell" : Str) = some (some (.ref f_law_cell)))
    (l_law_cell : K.lookup f_law_cell = some ⟨oc_law_cell, od_law_cell, .func (PySem.W.fnOf ("_law_cell" : Str) ("_law_cell" : Str) (defArgs s_law_cell) (defBody s_law_cell) (defScope s_law_cell) .none kV_law_cell dc_law_cell pm_law_cell an_law_cell cd_law_cell ct_law_cell), sl_law_cell⟩)
    (c_law_cell : PySem.W.codeIn K cd_law_cell ("_law_cell" : Str) = true)
    (k_law_cell : PySem.W.keepIn K (.ref f_law_cell) = true)
    (a_check_bell : PySem.W.nsIn K mainGlobals ("check_bell" : Str) = some (some (.ref f_check_bell)))
    (l_check_bell : K.lookup f_check_bell = some ⟨oc_check_bell, od_check_bell, .func (PySem.W.fnOf ("check_bell" : Str) ("check_bell" : Str) (defArgs s_check_bell) (defBody s_check_bell) (defScope s_check_bell) .none kV_check_bell dc_check_bell pm_check_bell an_check_bell cd_check_bell ct_check_bell), sl_check_bell⟩)
    (c_check_bell : PySem.W.codeIn K cd_check_bell ("check_bell" : Str) = true)
    (k_check_bell : PySem.W.keepIn K (.ref f_check_bell) = true)
    (a_Web_wakers : PySem.W.findIn K (.ref C_Web) ("wakers" : Str) = some (some (.ref f_Web_wakers)))
    (i_Web_wakers : PySem.W.isFn K (.ref f_Web_wakers) = true)
    (l_Web_wakers : K.lookup f_Web_wakers = some ⟨oc_Web_wakers, od_Web_wakers, .func (PySem.W.fnOf ("wakers" : Str) ("Web.wakers" : Str) (defArgs s_Web_wakers) (defBody s_Web_wakers) (defScope s_Web_wakers) .none kV_Web_wakers dc_Web_wakers pm_Web_wakers an_Web_wakers cd_Web_wakers ct_Web_wakers), sl_Web_wakers⟩)
    (c_Web_wakers : PySem.W.codeIn K cd_Web_wakers ("Web.wakers" : Str) = true)
    (k_Web_wakers : PySem.W.keepIn K (.ref f_Web_wakers) = true)
    (a_check_web : PySem.W.nsIn K mainGlobals ("check_web" : Str) = some (some (.ref f_check_web)))
    (l_check_web : K.lookup f_check_web = some ⟨oc_check_web, od_check_web, .func (PySem.W.fnOf ("check_web" : Str) ("check_web" : Str) (defArgs s_check_web) (defBody s_check_web) (defScope s_check_web) .none kV_check_web dc_check_web pm_check_web an_check_web cd_check_web ct_check_web), sl_check_web⟩)
    (c_check_web : PySem.W.codeIn K cd_check_web ("check_web" : Str) = true)
    (k_check_web : PySem.W.keepIn K (.ref f_check_web) = true)
    (a_how_many_stands : PySem.W.nsIn K mainGlobals ("how_many_stands" : Str) = some (some (.ref f_how_many_stands)))
    (l_how_many_stands : K.lookup f_how_many_stands = some ⟨oc_how_many_stands, od_how_many_stands, .func (PySem.W.fnOf ("how_many_stands" : Str) ("how_many_stands" : Str) (defArgs s_how_many_stands) (defBody s_how_many_stands) (defScope s_how_many_stands) .none kV_how_many_stands dc_how_many_stands pm_how_many_stands an_how_many_stands cd_how_many_stands ct_how_many_stands), sl_how_many_stands⟩)
    (c_how_many_stands : PySem.W.codeIn K cd_how_many_stands ("how_many_stands" : Str) = true)
    (k_how_many_stands : PySem.W.keepIn K (.ref f_how_many_stands) = true)
    (a_law_is : PySem.W.nsIn K mainGlobals ("_law_is" : Str) = some (some (.ref f_law_is)))
    (l_law_is : K.lookup f_law_is = some ⟨oc_law_is, od_law_is, .func (PySem.W.fnOf ("_law_is" : Str) ("_law_is" : Str) (defArgs s_law_is) (defBody s_law_is) (defScope s_law_is) .none kV_law_is dc_law_is pm_law_is an_law_is cd_law_is ct_law_is), sl_law_is⟩)
    (c_law_is : PySem.W.codeIn K cd_law_is ("_law_is" : Str) = true)
    (k_law_is : PySem.W.keepIn K (.ref f_law_is) = true)
    (a_law_links : PySem.W.nsIn K mainGlobals ("_law_links" : Str) = some (some (.ref f_law_links)))
    (l_law_links : K.lookup f_law_links = some ⟨oc_law_links, od_law_links, .func (PySem.W.fnOf ("_law_links" : Str) ("_law_links" : Str) (defArgs s_law_links) (defBody s_law_links) (defScope s_law_links) .none kV_law_links dc_law_links pm_law_links an_law_links cd_law_links ct_law_links), sl_law_links⟩)
    (c_law_links : PySem.W.codeIn K cd_law_links ("_law_links" : Str) = true)
    (k_law_links : PySem.W.keepIn K (.ref f_law_links) = true)
    (a_law_lots : PySem.W.nsIn K mainGlobals ("_law_lots" : Str) = some (some (.ref f_law_lots)))
    (l_law_lots : K.lookup f_law_lots = some ⟨oc_law_lots, od_law_lots, .func (PySem.W.fnOf ("_law_lots" : Str) ("_law_lots" : Str) (defArgs s_law_lots) (defBody s_law_lots) (defScope s_law_lots) .none kV_law_lots dc_law_lots pm_law_lots an_law_lots cd_law_lots ct_law_lots), sl_law_lots⟩)
    (c_law_lots : PySem.W.codeIn K cd_law_lots ("_law_lots" : Str) = true)
    (k_law_lots : PySem.W.keepIn K (.ref f_law_lots) = true)
    (a_law_purse : PySem.W.nsIn K mainGlobals ("_law_purse" : Str) = some (some (.ref f_law_purse)))
    (l_law_purse : K.lookup f_law_purse = some ⟨oc_law_purse, od_law_purse, .func (PySem.W.fnOf ("_law_purse" : Str) ("_law_purse" : Str) (defArgs s_law_purse) (defBody s_law_purse) (defScope s_law_purse) .none kV_law_purse dc_law_purse pm_law_purse an_law_purse cd_law_purse ct_law_purse), sl_law_purse⟩)
    (c_law_purse : PySem.W.codeIn K cd_law_purse ("_law_purse" : Str) = true)
    (k_law_purse : PySem.W.keepIn K (.ref f_law_purse) = true)
    (a_law_ringless : PySem.W.nsIn K mainGlobals ("_law_ringless" : Str) = some (some (.ref f_law_ringless)))
    (l_law_ringless : K.lookup f_law_ringless = some ⟨oc_law_ringless, od_law_ringless, .func (PySem.W.fnOf ("_law_ringless" : Str) ("_law_ringless" : Str) (defArgs s_law_ringless) (defBody s_law_ringless) (defScope s_law_ringless) .none kV_law_ringless dc_law_ringless pm_law_ringless an_law_ringless cd_law_ringless ct_law_ringless), sl_law_ringless⟩)
    (c_law_ringless : PySem.W.codeIn K cd_law_ringless ("_law_ringless" : Str) = true)
    (k_law_ringless : PySem.W.keepIn K (.ref f_law_ringless) = true)
    (a_law_table_count : PySem.W.nsIn K mainGlobals ("_law_table_count" : Str) = some (some (.ref f_law_table_count)))
    (l_law_table_count : K.lookup f_law_table_count = some ⟨oc_law_table_count, od_law_table_count, .func (PySem.W.fnOf ("_law_table_count" : Str) ("_law_table_count" : Str) (defArgs s_law_table_count) (defBody s_law_table_count) (defScope s_law_table_count) .none kV_law_table_count dc_law_table_count pm_law_table_count an_law_table_count cd_law_table_count ct_law_table_count), sl_law_table_count⟩)
    (c_law_table_count : PySem.W.codeIn K cd_law_table_count ("_law_table_count" : Str) = true)
    (k_law_table_count : PySem.W.keepIn K (.ref f_law_table_count) = true)
    (a_law_selves : PySem.W.nsIn K mainGlobals ("_law_selves" : Str) = some (some (.ref f_law_selves)))
    (l_law_selves : K.lookup f_law_selves = some ⟨oc_law_selves, od_law_selves, .func (PySem.W.fnOf ("_law_selves" : Str) ("_law_selves" : Str) (defArgs s_law_selves) (defBody s_law_selves) (defScope s_law_selves) .none kV_law_selves dc_law_selves pm_law_selves an_law_selves cd_law_selves ct_law_selves), sl_law_selves⟩)
    (c_law_selves : PySem.W.codeIn K cd_law_selves ("_law_selves" : Str) = true)
    (k_law_selves : PySem.W.keepIn K (.ref f_law_selves) = true)
    (a_law_told_ones_right : PySem.W.nsIn K mainGlobals ("_law_told_ones_right" : Str) = some (some (.ref f_law_told_ones_right)))
    (l_law_told_ones_right : K.lookup f_law_told_ones_right = some ⟨oc_law_told_ones_right, od_law_told_ones_right, .func (PySem.W.fnOf ("_law_told_ones_right" : Str) ("_law_told_ones_right" : Str) (defArgs s_law_told_ones_right) (defBody s_law_told_ones_right) (defScope s_law_told_ones_right) .none kV_law_told_ones_right dc_law_told_ones_right pm_law_told_ones_right an_law_told_ones_right cd_law_told_ones_right ct_law_told_ones_right), sl_law_told_ones_right⟩)
    (c_law_told_ones_right : PySem.W.codeIn K cd_law_told_ones_right ("_law_told_ones_right" : Str) = true)
    (k_law_told_ones_right : PySem.W.keepIn K (.ref f_law_told_ones_right) = true)
    (a_law : PySem.W.nsIn K mainGlobals ("law" : Str) = some (some (.ref f_law)))
    (l_law : K.lookup f_law = some ⟨oc_law, od_law, .func (PySem.W.fnOf ("law" : Str) ("law" : Str) (defArgs s_law) (defBody s_law) (defScope s_law) .none kV_law dc_law pm_law an_law cd_law ct_law), sl_law⟩)
    (c_law : PySem.W.codeIn K cd_law ("law" : Str) = true)
    (k_law : PySem.W.keepIn K (.ref f_law) = true)
    (n_Web_bells : PySem.W.findIn K (.ref C_Web) ("bells" : Str) = some none)
    (n_Web_wakes : PySem.W.findIn K (.ref C_Web) ("wakes" : Str) = some none)
    (mk_Web : PySem.W.makesIn K C_Web = true)
    (kc_Web : PySem.W.keepIn K (.ref C_Web) = true)
    (qn : PySem.W.specialIn K (.builtin "object.__class__") "__get__" = some (some (.builtin "getset_descriptor.__get__")))
    (qt : PySem.W.takesIn K (.builtin "object.__class__") = some true)
    (qa_Web : PySem.W.findIn K (.ref C_Web) "__class__" = some (some (.builtin "object.__class__")))
    (qm_Web : PySem.W.mroIn K C_Web (.type "object") = some true)
    (z_abs : PySem.W.nsIn K mainGlobals "abs" = some none)
    (z_all : PySem.W.nsIn K mainGlobals "all" = some none)
    (z_any : PySem.W.nsIn K mainGlobals "any" = some none)
    (z_divmod : PySem.W.nsIn K mainGlobals "divmod" = some none)
    (z_enumerate : PySem.W.nsIn K mainGlobals "enumerate" = some none)
    (z_int : PySem.W.nsIn K mainGlobals "int" = some none)
    (z_isinstance : PySem.W.nsIn K mainGlobals "isinstance" = some none)
    (z_len : PySem.W.nsIn K mainGlobals "len" = some none)
    (z_list : PySem.W.nsIn K mainGlobals "list" = some none)
    (z_max : PySem.W.nsIn K mainGlobals "max" = some none)
    (z_min : PySem.W.nsIn K mainGlobals "min" = some none)
    (z_range : PySem.W.nsIn K mainGlobals "range" = some none)
    (z_repr : PySem.W.nsIn K mainGlobals "repr" = some none)
    (z_sorted : PySem.W.nsIn K mainGlobals "sorted" = some none)
    (z_str : PySem.W.nsIn K mainGlobals "str" = some none)
    (z_sum : PySem.W.nsIn K mainGlobals "sum" = some none)
    (z_tuple : PySem.W.nsIn K mainGlobals "tuple" = some none)
    (g_LETTERS : PySem.W.nsIn K mainGlobals "LETTERS" = some (some (.str ("abcdefghijklmnopqrstuvwxyz" : Str) t_LETTERS)))
    (g_MOST_BELLS : PySem.W.nsIn K mainGlobals "MOST_BELLS" = some (some (.int 12 t_MOST_BELLS)))
    (g_MOST_LETTERS : PySem.W.nsIn K mainGlobals "MOST_LETTERS" = some (some (.int 8 t_MOST_LETTERS)))
    : ∃ fd : FuncData, (∀ (s : Shared) (u : Value), BindsTo s fd ⟨[u], []⟩ [(("_law_script" : Str), u)]) ∧ ∀ base : Heap, K.In base → base.Ns mainGlobals mg → FnG P w K mg base CX0 7 fa fd [("_law_script" : Str)] (spLaw K) :=
  fin (T := {
    C_Web := C_Web,
    mg_Web := PySem.W.mg_of X G aC_Web,
    cl_Web := ⟨pg_Web, hd_Web, po_Web, sa_Web⟩,
    a_is_name := f_is_name,
    fd_is_name := _,
    fn_is_name := funD_mk l_is_name c_is_name k_is_name,
    mg_is_name := PySem.W.mg_of X G a_is_name,
    a_check_bells := f_check_bells,
    fd_check_bells := _,
    fn_check_bells := funD_mk l_check_bells c_check_bells k_check_bells,
    mg_check_bells := PySem.W.mg_of X G a_check_bells,
    a_is_wake := f_is_wake,
    fd_is_wake := _,
    fn_is_wake := funD_mk l_is_wake c_is_wake k_is_wake,
    mg_is_wake := PySem.W.mg_of X G a_is_wake,
    a_check_wakes := f_check_wakes,
    fd_check_wakes := _,
    fn_check_wakes := funD_mk l_check_wakes c_check_wakes k_check_wakes,
    mg_check_wakes := PySem.W.mg_of X G a_check_wakes,
    e_Web_init := e_Web_init,
    et_Web_init := sqT_nil et_Web_init,
    a_Web_init := f_Web_init,
    fd_Web_init := _,
    fn_Web_init := funD_mk1 l_Web_init c_Web_init k_Web_init dq_Web_init rfl,
    a_law_draw := f_law_draw,
    fd_law_draw := _,
    fn_law_draw := funD_mk l_law_draw c_law_draw k_law_draw,
    mg_law_draw := PySem.W.mg_of X G a_law_draw,
    a_law_calls := f_law_calls,
    fd_law_calls := _,
    fn_law_calls := funD_mk l_law_calls c_law_calls k_law_calls,
    mg_law_calls := PySem.W.mg_of X G a_law_calls,
    a_law_cell := f_law_cell,
    fd_law_cell := _,
    fn_law_cell := funD_mk l_law_cell c_law_cell k_law_cell,
    mg_law_cell := PySem.W.mg_of X G a_law_cell,
    a_check_bell := f_check_bell,
    fd_check_bell := _,
    fn_check_bell := funD_mk l_check_bell c_check_bell k_check_bell,
    mg_check_bell := PySem.W.mg_of X G a_check_bell,
    a_Web_wakers := f_Web_wakers,
    fd_Web_wakers := _,
    fn_Web_wakers := funD_mk l_Web_wakers c_Web_wakers k_Web_wakers,
    me_Web_wakers := ⟨a_Web_wakers, i_Web_wakers, k_Web_wakers⟩,
    a_check_web := f_check_web,
    fd_check_web := _,
    fn_check_web := funD_mk l_check_web c_check_web k_check_web,
    mg_check_web := PySem.W.mg_of X G a_check_web,
    a_how_many_stands := f_how_many_stands,
    fd_how_many_stands := _,
    fn_how_many_stands := funD_mk l_how_many_stands c_how_many_stands k_how_many_stands,
    mg_how_many_stands := PySem.W.mg_of X G a_how_many_stands,
    a_law_is := f_law_is,
    fd_law_is := _,
    fn_law_is := funD_mk l_law_is c_law_is k_law_is,
    mg_law_is := PySem.W.mg_of X G a_law_is,
    a_law_links := f_law_links,
    fd_law_links := _,
    fn_law_links := funD_mk l_law_links c_law_links k_law_links,
    mg_law_links := PySem.W.mg_of X G a_law_links,
    a_law_lots := f_law_lots,
    fd_law_lots := _,
    fn_law_lots := funD_mk l_law_lots c_law_lots k_law_lots,
    mg_law_lots := PySem.W.mg_of X G a_law_lots,
    a_law_purse := f_law_purse,
    fd_law_purse := _,
    fn_law_purse := funD_mk l_law_purse c_law_purse k_law_purse,
    mg_law_purse := PySem.W.mg_of X G a_law_purse,
    a_law_ringless := f_law_ringless,
    fd_law_ringless := _,
    fn_law_ringless := funD_mk l_law_ringless c_law_ringless k_law_ringless,
    mg_law_ringless := PySem.W.mg_of X G a_law_ringless,
    a_law_table_count := f_law_table_count,
    fd_law_table_count := _,
    fn_law_table_count := funD_mk l_law_table_count c_law_table_count k_law_table_count,
    mg_law_table_count := PySem.W.mg_of X G a_law_table_count,
    a_law_selves := f_law_selves,
    fd_law_selves := _,
    fn_law_selves := funD_mk l_law_selves c_law_selves k_law_selves,
    mg_law_selves := PySem.W.mg_of X G a_law_selves,
    a_law_told_ones_right := f_law_told_ones_right,
    fd_law_told_ones_right := _,
    fn_law_told_ones_right := funD_mk l_law_told_ones_right c_law_told_ones_right k_law_told_ones_right,
    mg_law_told_ones_right := PySem.W.mg_of X G a_law_told_ones_right,
    a_law := f_law,
    fd_law := _,
    fn_law := funD_mk l_law c_law k_law,
    mg_law := PySem.W.mg_of X G a_law,
    na_Web_bells := n_Web_bells,
    na_Web_wakes := n_Web_wakes,
    mk_Web := ⟨mk_Web, a_Web_init, i_Web_init, kc_Web⟩,
    co_Web := ⟨⟨pg_Web, hd_Web, po_Web, sa_Web⟩, qa_Web, qn, qt, qm_Web⟩,
    ki_Web := kit_self,
    b_abs := PySem.W.mg_none_of X G z_abs,
    b_all := PySem.W.mg_none_of X G z_all,
    b_any := PySem.W.mg_none_of X G z_any,
    b_divmod := PySem.W.mg_none_of X G z_divmod,
    b_enumerate := PySem.W.mg_none_of X G z_enumerate,
    b_int := PySem.W.mg_none_of X G z_int,
    b_isinstance := PySem.W.mg_none_of X G z_isinstance,
    b_len := PySem.W.mg_none_of X G z_len,
    b_list := PySem.W.mg_none_of X G z_list,
    b_max := PySem.W.mg_none_of X G z_max,
    b_min := PySem.W.mg_none_of X G z_min,
    b_range := PySem.W.mg_none_of X G z_range,
    b_repr := PySem.W.mg_none_of X G z_repr,
    b_sorted := PySem.W.mg_none_of X G z_sorted,
    b_str := PySem.W.mg_none_of X G z_str,
    b_sum := PySem.W.mg_none_of X G z_sum,
    b_tuple := PySem.W.mg_none_of X G z_tuple,
    t_LETTERS := t_LETTERS,
    g_LETTERS := PySem.W.mg_of X G g_LETTERS,
    t_MOST_BELLS := t_MOST_BELLS,
    g_MOST_BELLS := PySem.W.mg_of X G g_MOST_BELLS,
    t_MOST_LETTERS := t_MOST_LETTERS,
    g_MOST_LETTERS := PySem.W.mg_of X G g_MOST_LETTERS }) hfa law_true
end DL.K42
theorem PySem.W.Fast.te4566210950555362217 : True := trivial
open PySem PySem.W PyProof.Rows
set_option maxRecDepth 100000 in
set_option maxHeartbeats 0 in
theorem PySem.Challenge.cw_wakebells_k42_how_many_stands_come_holds : PySem.Challenge.rw_wakebells_k42_how_many_stands_come.Holds := by
  w_on; o_law; k_head; (case hw => w_witness2)
  k_fill
  refine DL.walk (l := PySem.Challenge.rw_wakebells_k42_how_many_stands_come) (k := 7) (x := ("_law_script" : Str)) ⟨rfl, by decide, by decide⟩ rfl rfl (fun w h Y => PySem.W.kIn_of Y) ?F
  case F =>
    intro w mg fa h KX G hmg
    refine' DL.K42.all_mk KX G hmg ?aC_Web ?pg_Web ?hd_Web ?po_Web ?sa_Web ?a_is_name ?l_is_name ?c_is_name ?k_is_name ?a_check_bells ?l_check_bells ?c_check_bells ?k_check_bells ?a_is_wake ?l_is_wake ?c_is_wake ?k_is_wake ?a_check_wakes ?l_check_wakes ?c_check_wakes ?k_check_wakes ?a_Web_init ?i_Web_init ?l_Web_init ?c_Web_init ?k_Web_init ?dq_Web_init ?et_Web_init ?a_law_draw ?l_law_draw ?c_law_draw ?k_law_draw ?a_law_calls ?l_law_calls ?c_law_calls ?k_law_calls ?a_law_cell ?l_law_cell ?c_law_cell ?k_law_cell ?a_check_bell ?l_check_bell ?c_check_bell ?k_check_bell ?a_Web_wakers ?i_Web_wakers ?l_Web_wakers ?c_Web_wakers ?k_Web_wakers ?a_check_web ?l_check_web ?c_check_web ?k_check_web ?a_how_many_stands ?l_how_many_stands ?c_how_many_stands ?k_how_many_stands ?a_law_is ?l_law_is ?c_law_is ?k_law_is ?a_law_links ?l_law_links ?c_law_links ?k_law_links ?a_law_lots ?l_law_lots ?c_law_lots ?k_law_lots ?a_law_purse ?l_law_purse ?c_law_purse ?k_law_purse ?a_law_ringless ?l_law_ringless ?c_law_ringless ?k_law_ringless ?a_law_table_count ?l_law_table_count ?c_law_table_count ?k_law_table_count ?a_law_selves ?l_law_selves ?c_law_selves ?k_law_selves ?a_law_told_ones_right ?l_law_told_ones_right ?c_law_told_ones_right ?k_law_told_ones_right ?a_law ?l_law ?c_law ?k_law ?n_Web_bells ?n_Web_wakes ?mk_Web ?kc_Web ?qn ?qt ?qa_Web ?qm_Web ?z_abs ?z_all ?z_any ?z_divmod ?z_enumerate ?z_int ?z_isinstance ?z_len ?z_list ?z_max ?z_min ?z_range ?z_repr ?z_sorted ?z_str ?z_sum ?z_tuple ?g_LETTERS ?g_MOST_BELLS ?g_MOST_LETTERS
    (case aC_Web => k_is)
    (case pg_Web => k_is)
    (case hd_Web => k_is)
    (case po_Web => k_is)
    (case sa_Web => k_is)
    (case a_is_name => k_is)
    (case l_is_name => k_is)
    (case c_is_name => k_is)
    (case k_is_name => k_is)
    (case a_check_bells => k_is)
    (case l_check_bells => k_is)
    (case c_check_bells => k_is)
    (case k_check_bells => k_is)
    (case a_is_wake => k_is)
    (case l_is_wake => k_is)
    (case c_is_wake => k_is)
    (case k_is_wake => k_is)
    (case a_check_wakes => k_is)
    (case l_check_wakes => k_is)
    (case c_check_wakes => k_is)
    (case k_check_wakes => k_is)
    (case a_Web_init => k_is)
    (case i_Web_init => k_is)
    (case l_Web_init => k_is)
    (case c_Web_init => k_is)
    (case k_Web_init => k_is)
    (case dq_Web_init => k_is)
    (case et_Web_init => k_is)
    (case a_law_draw => k_is)
    (case l_law_draw => k_is)
    (case c_law_draw => k_is)
    (case k_law_draw => k_is)
    (case a_law_calls => k_is)
    (case l_law_calls => k_is)
    (case c_law_calls => k_is)
    (case k_law_calls => k_is)
    (case a_law_cell => k_is)
    (case l_law_cell => k_is)
    (case c_law_cell => k_is)
    (case k_law_cell => k_is)
    (case a_check_bell => k_is)
    (case l_check_bell => k_is)
    (case c_check_bell => k_is)
    (case k_check_bell => k_is)
    (case a_Web_wakers => k_is)
    (case i_Web_wakers => k_is)
    (case l_Web_wakers => k_is)
    (case c_Web_wakers => k_is)
    (case k_Web_wakers => k_is)
    (case a_check_web => k_is)
    (case l_check_web => k_is)
    (case c_check_web => k_is)
    (case k_check_web => k_is)
    (case a_how_many_stands => k_is)
    (case l_how_many_stands => k_is)
    (case c_how_many_stands => k_is)
    (case k_how_many_stands => k_is)
    (case a_law_is => k_is)
    (case l_law_is => k_is)
    (case c_law_is => k_is)
    (case k_law_is => k_is)
    (case a_law_links => k_is)
    (case l_law_links => k_is)
    (case c_law_links => k_is)
    (case k_law_links => k_is)
    (case a_law_lots => k_is)
    (case l_law_lots => k_is)
    (case c_law_lots => k_is)
    (case k_law_lots => k_is)
    (case a_law_purse => k_is)
    (case l_law_purse => k_is)
    (case c_law_purse => k_is)
    (case k_law_purse => k_is)
    (case a_law_ringless => k_is)
    (case l_law_ringless => k_is)
    (case c_law_ringless => k_is)
    (case k_law_ringless => k_is)
    (case a_law_table_count => k_is)
    (case l_law_table_count => k_is)
    (case c_law_table_count => k_is)
    (case k_law_table_count => k_is)
    (case a_law_selves => k_is)
    (case l_law_selves => k_is)
    (case c_law_selves => k_is)
    (case k_law_selves => k_is)
    (case a_law_told_ones_right => k_is)
    (case l_law_told_ones_right => k_is)
    (case c_law_told_ones_right => k_is)
    (case k_law_told_ones_right => k_is)
    (case a_law => k_is)
    (case l_law => k_is)
    (case c_law => k_is)
    (case k_law => k_is)
    (case n_Web_bells => k_is)
    (case n_Web_wakes => k_is)
    (case mk_Web => k_is)
    (case kc_Web => k_is)
    (case qn => k_is)
    (case qt => k_is)
    (case qa_Web => k_is)
    (case qm_Web => k_is)
    (case z_abs => k_is)
    (case z_all => k_is)
    (case z_any => k_is)
    (case z_divmod => k_is)
    (case z_enumerate => k_is)
    (case z_int => k_is)
    (case z_isinstance => k_is)
    (case z_len => k_is)
    (case z_list => k_is)
    (case z_max => k_is)
    (case z_min => k_is)
    (case z_range => k_is)
    (case z_repr => k_is)
    (case z_sorted => k_is)
    (case z_str => k_is)
    (case z_sum => k_is)
    (case z_tuple => k_is)
    (case g_LETTERS => k_is)
    (case g_MOST_BELLS => k_is)
    (case g_MOST_LETTERS => k_is)
