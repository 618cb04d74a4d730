import PyProof.Rows.All
import Wide.All
import OpenK.AllK
import Wide.FinOn
import HandS.ForMost
import HandS.ForExc
import HandS.TryOnly
import HandS.IsInst
import HandS.ExcIs
import HandS.ExcField
import HandS.Zip
import HandS.Walk
import HandS.TupMul
import HandS.OwnEq
import HandS.Lambda
import HandS.TupAny
import HandS.Style
import HandS.Deep
import HandS.Wide
import KE.GoesNew
import KE.GoesEnum
import HandS.WordsExc
import HandS.ExcOwn
import KE.KExcSuper
import KE.KSuper
import HandS.ExcInit
import HandS.More
import HandS.EndTab
import PyProof.ReprRoads
import PyProof.ReprLen
import KE.DatumOrd
import HandS.Steps
import HandS.Iter
import HandS.EndOwn
import KE.KTupSum
import PySem.Challenge.RW_tokennets_k83_whole_live_nets_changed
import KE.RegKSuper
import KE.RegKIsAll
set_option Elab.async false
set_option linter.all false
set_option maxRecDepth 100000
set_option maxHeartbeats 8000000
/-! The D layer, base: values as trees over the hand layer. Tuples (and lists that nobody changes any more) are trees;
a list, an instance that one name alone holds is "own" (flag true). -/
namespace DL
open PySem PySem.Spec PyProof.Rows L2

inductive D where
  | non | bl (b : Bool) | int (i : Int) | str (s : Str) | ty (n : String) | fn (a : Addr) | scr (xs : List Int)
  | gone | exn (a : Addr) (od : Option Addr) (c : Str) (ks : List Str) (vs : List D) | lam (f c : Addr) (q : Str) (vs : List V) (ds : List D) | tab (P : Addr) (q : Str)
  | tup (ds : List D) | lst (o : Bool) (xs : List D) | ins (o : Bool) (c : Str) (ks : List Str) (vs : List D) | dct (o : Bool) (ks : List Key) (vs : List D)
  deriving Inhabited

/-- what a class of the text must tell, so that its instances are made, read and asked for their kind -/
structure InsC (K : PySem.W.Frag) (C : Addr) : Prop where
  cl : Cls K C
  ha : PySem.W.findIn K (.ref C) "__class__" = some (some (.builtin "object.__class__"))
  hn : PySem.W.specialIn K (.builtin "object.__class__") "__get__" = some (some (.builtin "getset_descriptor.__get__"))
  ht : PySem.W.takesIn K (.builtin "object.__class__") = some true
  hm : PySem.W.mroIn K C (.type "object") = some true

/-- a list that stands for ever -/
def FzL (H : Hp) (a : Addr) (xs : List V) : Prop := ∃ o, H a = some (.frz o (.lst xs))
theorem FzL.sq {K : PySem.W.Frag} {H : Hp} {a : Addr} {xs : List V} (h : FzL H a xs) : SqL K H a xs := .inl (.inr h)
/-- the law's own script: frozen, or of the written part -/
def ScL (K : PySem.W.Frag) (H : Hp) (a : Addr) (xs : List V) : Prop := FzL H a xs ∨
    ∃ (o : Obj) (its : Array Value) (n : Nat), K.lookup a = some o ∧ o.cls = .type "list" ∧ o.dict = none ∧ o.data = .seq its n ∧ its.size ≤ sizeLine ∧ Vals xs its.toList
theorem ScL.sq {K : PySem.W.Frag} {H : Hp} {a : Addr} {xs : List V} (h : ScL K H a xs) : SqL K H a xs := by
  rcases h with ⟨o, h⟩ | h
  · exact .inl (.inr ⟨o, h⟩)
  · exact .inr h

mutual
/-- the value v, in the abstract heap H, is the tree d; fp: the addresses of its own (still changing) objects -/
inductive RepD (K : PySem.W.Frag) (mg : Str → Option Value) (H : Hp) : D → V → List Addr → Prop
  | non : RepD K mg H .non .non []
  | bl (b : Bool) : RepD K mg H (.bl b) (.bl b) []
  | int (i : Int) : RepD K mg H (.int i) (.int i) []
  | str (s : Str) : RepD K mg H (.str s) (.str s) []
  | ty (n : String) : RepD K mg H (.ty n) (.ty n) []
  | fn (a : Addr) : RepD K mg H (.fn a) (.ref a) []
  | dctF {a : Addr} {o : Obj} {kvs : List (Key × V)} {ds : List D} (h : H a = some (.frz o (.dK kvs))) (r : RepL K mg H ds (kvs.map (·.2)) []) : RepD K mg H (.dct false (kvs.map (·.1)) ds) (.ref a) []
  | dctO {a : Addr} {kvs : List (Key × V)} {ds : List D} {fp : List Addr} (h : H a = some (.dK kvs)) (r : RepL K mg H ds (kvs.map (·.2)) fp) : RepD K mg H (.dct true (kvs.map (·.1)) ds) (.ref a) (a :: fp)
  | scr {a : Addr} {ns : List Int} (h : ScL K H a (ns.map V.int)) : RepD K mg H (.scr ns) (.ref a) []
  | gone (v : V) : RepD K mg H .gone v []
  | exn0 {a : Addr} {c : Str} : RepD K mg H (.exn a none c [] []) (.ref a) []
  | exn1 {a dd : Addr} {c : Str} {fs : List (Str × V)} {ds : List D} (h : H dd = some (.xd fs)) (r : RepL K mg H ds (fs.map (·.2)) []) : RepD K mg H (.exn a (some dd) c (fs.map (·.1)) ds) (.ref a) []
  | lam {f c : Addr} {q : Str} {vs : List V} {ds : List D} {fp : List Addr} (h : H c = some (LamX.CodeO c q)) (r : RepL K mg H ds vs fp) : RepD K mg H (.lam f c q vs ds) (.ref f) fp
  | tab {a : Addr} {q : Str} (h : LamX.TabS H a q) : RepD K mg H (.tab a q) (.ref a) [a]
  | tup {a : Addr} {xs : List V} {ds : List D} (h : SqT K H a xs) (r : RepL K mg H ds xs []) : RepD K mg H (.tup ds) (.ref a) []
  | lstF {a : Addr} {xs : List V} {ds : List D} (h : FzL H a xs) (r : RepL K mg H ds xs []) : RepD K mg H (.lst false ds) (.ref a) []
  | lstO {a : Addr} {xs : List V} {ds : List D} {fp : List Addr} (h : H a = some (.lst xs)) (r : RepL K mg H ds xs fp) : RepD K mg H (.lst true ds) (.ref a) (a :: fp)
  | insF {a C dx : Addr} {n : Str} {o : Obj} {fs : List (Str × V)} {ds : List D} (h : H a = some (.frz o (.ins C dx fs))) (c : mg n = some (.ref C)) (q : InsC K C) (na : ∀ f ∈ fs.map (·.1), NoAttr K C f)
      (r : RepL K mg H ds (fs.map (·.2)) []) : RepD K mg H (.ins false n (fs.map (·.1)) ds) (.ref a) []
  | insO {a C dx : Addr} {n : Str} {fs : List (Str × V)} {ds : List D} {fp : List Addr} (h : H a = some (.ins C dx fs)) (c : mg n = some (.ref C)) (q : InsC K C) (na : ∀ f ∈ fs.map (·.1), NoAttr K C f)
      (r : RepL K mg H ds (fs.map (·.2)) fp) : RepD K mg H (.ins true n (fs.map (·.1)) ds) (.ref a) (a :: fp)
inductive RepL (K : PySem.W.Frag) (mg : Str → Option Value) (H : Hp) : List D → List V → List Addr → Prop
  | nil : RepL K mg H [] [] []
  | cons {d : D} {v : V} {f : List Addr} {ds : List D} {vs : List V} {g : List Addr} (h : RepD K mg H d v f) (r : RepL K mg H ds vs g) : RepL K mg H (d :: ds) (v :: vs) (f ++ g)
end

/-- tuples and what stands for ever stay -/
structure Stp (H H' : Hp) : Prop where
  t : ∀ b xs, H b = some (.tup xs) → H' b = some (.tup xs)
  f : ∀ b o u, H b = some (.frz o u) → H' b = some (.frz o u)
  x : ∀ b fs, H b = some (.xd fs) → H' b = some (.xd fs)
  c : ∀ b q, H b = some (LamX.CodeO b q) → H' b = some (LamX.CodeO b q)
theorem Stp.refl (H : Hp) : Stp H H := ⟨fun _ _ h => h, fun _ _ _ h => h, fun _ _ h => h, fun _ _ h => h⟩
theorem Stp.trans {H H1 H2 : Hp} (a : Stp H H1) (b : Stp H1 H2) : Stp H H2 := ⟨fun c x h => b.t c x (a.t c x h), fun c o u h => b.f c o u (a.f c o u h), fun c o h => b.x c o (a.x c o h), fun c o h => b.c c o (a.c c o h)⟩
theorem Stp.of {H H' : Hp} (k : ∀ b o, H b = some o → H' b = some o) : Stp H H' := ⟨fun b _ e => k b _ e, fun b _ _ e => k b _ e, fun b _ e => k b _ e, fun b _ e => k b _ e⟩
theorem Stp.fresh {H : Hp} {p : Addr} {o : HO} (h : H p = none) : Stp H (upd H p o) := .of fun b u e => by rw [upd_ne (ne_of_none e h)]; exact e
theorem codeO_lst {b : Addr} {q : Str} {xs : List V} : LamX.CodeO b q ≠ .lst xs := fun z => by unfold LamX.CodeO at z; cases z
theorem codeO_ins {b C dx : Addr} {q : Str} {xs : List (Str × V)} : LamX.CodeO b q ≠ .ins C dx xs := fun z => by unfold LamX.CodeO at z; cases z
theorem codeO_dK {b : Addr} {q : Str} {xs : List (Key × V)} : LamX.CodeO b q ≠ .dK xs := fun z => by unfold LamX.CodeO at z; cases z
theorem Stp.lst {H : Hp} {p : Addr} {xs : List V} {o : HO} (h : H p = some (.lst xs)) : Stp H (upd H p o) :=
  ⟨fun b ys e => by rw [upd_ne (ne_of e h (by intro z; cases z))]; exact e, fun b ys u e => by rw [upd_ne (ne_of e h (by intro z; cases z))]; exact e, fun b u e => by rw [upd_ne (ne_of e h (by intro z; cases z))]; exact e, fun b u e => by rw [upd_ne (ne_of e h codeO_lst)]; exact e⟩
theorem Stp.ins {H : Hp} {p C dx : Addr} {fs : List (Str × V)} {o : HO} (h : H p = some (.ins C dx fs)) : Stp H (upd H p o) :=
  ⟨fun b ys e => by rw [upd_ne (ne_of e h (by intro z; cases z))]; exact e, fun b ys u e => by rw [upd_ne (ne_of e h (by intro z; cases z))]; exact e, fun b u e => by rw [upd_ne (ne_of e h (by intro z; cases z))]; exact e, fun b u e => by rw [upd_ne (ne_of e h codeO_ins)]; exact e⟩
theorem Stp.dK {H : Hp} {p : Addr} {kvs : List (Key × V)} {o : HO} (h : H p = some (.dK kvs)) : Stp H (upd H p o) :=
  ⟨fun b ys e => by rw [upd_ne (ne_of e h (by intro z; cases z))]; exact e, fun b ys u e => by rw [upd_ne (ne_of e h (by intro z; cases z))]; exact e, fun b u e => by rw [upd_ne (ne_of e h (by intro z; cases z))]; exact e, fun b u e => by rw [upd_ne (ne_of e h codeO_dK)]; exact e⟩

section
variable {K : PySem.W.Frag} {mg : Str → Option Value} {H H' : Hp}
theorem sqT_stp (s : Stp H H') {a : Addr} {xs : List V} (h : SqT K H a xs) : SqT K H' a xs := by
  rcases h with (h | ⟨o, h⟩) | h
  · exact .inl (.inl (s.t _ _ h))
  · exact .inl (.inr ⟨o, s.f _ _ _ h⟩)
  · exact .inr h
theorem fzL_stp (s : Stp H H') {a : Addr} {xs : List V} (h : FzL H a xs) : FzL H' a xs := let ⟨o, h⟩ := h; ⟨o, s.f _ _ _ h⟩
theorem scL_stp (s : Stp H H') {a : Addr} {xs : List V} (h : ScL K H a xs) : ScL K H' a xs := h.elim (fun h => .inl (fzL_stp s h)) .inr

mutual
theorem RepD.mono (s : Stp H H') : ∀ (d : D) {v : V} {f : List Addr}, RepD K mg H d v f → (∀ b ∈ f, H' b = H b) → RepD K mg H' d v f
  | .non, _, _, h, _ => by cases h; exact .non
  | .bl b, _, _, h, _ => by cases h; exact .bl b
  | .int i, _, _, h, _ => by cases h; exact .int i
  | .str i, _, _, h, _ => by cases h; exact .str i
  | .ty n, _, _, h, _ => by cases h; exact .ty n
  | .fn a, _, _, h, _ => by cases h; exact .fn a
  | .dct false ks ds, _, _, h, _ => by cases h with | dctF h r => exact .dctF (s.f _ _ _ h) (RepL.mono s ds r (fun b hb => nomatch hb))
  | .dct true ks ds, _, _, h, k => by
    cases h with | dctO h r => exact .dctO ((k _ List.mem_cons_self).trans h) (RepL.mono s ds r fun b hb => k b (List.mem_cons_of_mem _ hb))
  | .scr t, _, _, h, _ => by cases h with | scr h => exact .scr (scL_stp s h)
  | .gone, _, _, h, _ => by cases h; exact .gone _
  | .exn a none c ks ds, _, _, h, _ => by cases h; exact .exn0
  | .exn a (some dd) c ks ds, _, _, h, _ => by
    cases h with
    | exn1 h r => exact .exn1 (s.x _ _ h) (RepL.mono s ds r (fun b hb => nomatch hb))
  | .tab P q, _, _, h, k => by
    cases h with
    | tab h =>
      obtain ⟨ps, h1, h2, h3⟩ := h
      refine .tab ⟨ps, (k _ List.mem_cons_self).trans h1, h2, fun pos cv hc => ?_⟩
      obtain ⟨c, e1, e2⟩ := h3 pos cv hc
      exact ⟨c, e1, s.c _ _ e2⟩
  | .lam f c q vs ds, _, _, h, k => by cases h with | lam h r => exact .lam (s.c _ _ h) (RepL.mono s ds r k)
  | .tup ds, _, _, h, _ => by cases h with | tup h r => exact .tup (sqT_stp s h) (RepL.mono s ds r (fun b hb => nomatch hb))
  | .lst false ds, _, _, h, _ => by cases h with | lstF h r => exact .lstF (fzL_stp s h) (RepL.mono s ds r (fun b hb => nomatch hb))
  | .lst true ds, _, _, h, k => by
    cases h with | lstO h r => exact .lstO ((k _ List.mem_cons_self).trans h) (RepL.mono s ds r fun b hb => k b (List.mem_cons_of_mem _ hb))
  | .ins false n ks ds, _, _, h, _ => by cases h with | insF h c q na r => exact .insF (s.f _ _ _ h) c q na (RepL.mono s ds r (fun b hb => nomatch hb))
  | .ins true n ks ds, _, _, h, k => by
    cases h with | insO h c q na r => exact .insO ((k _ List.mem_cons_self).trans h) c q na (RepL.mono s ds r fun b hb => k b (List.mem_cons_of_mem _ hb))
theorem RepL.mono (s : Stp H H') : ∀ (ds : List D) {vs : List V} {f : List Addr}, RepL K mg H ds vs f → (∀ b ∈ f, H' b = H b) → RepL K mg H' ds vs f
  | [], _, _, h, _ => by cases h; exact .nil
  | d :: ds, _, _, h, k => by
    cases h with | cons h r => exact .cons (RepD.mono s d h fun b hb => k b (List.mem_append_left _ hb)) (RepL.mono s ds r fun b hb => k b (List.mem_append_right _ hb))
end
mutual
/-- the own objects are tracked -/
theorem RepD.there : ∀ (d : D) {v : V} {f : List Addr}, RepD K mg H d v f → ∀ b ∈ f, ∃ o, H b = some o
  | .non, _, _, h, b, hb => by cases h; cases hb
  | .bl _, _, _, h, b, hb => by cases h; cases hb
  | .int _, _, _, h, b, hb => by cases h; cases hb
  | .str _, _, _, h, b, hb => by cases h; cases hb
  | .ty _, _, _, h, b, hb => by cases h; cases hb
  | .fn _, _, _, h, b, hb => by cases h; cases hb
  | .dct false _ ds, _, _, h, b, hb => by cases h; cases hb
  | .dct true _ ds, _, _, h, b, hb => by
    cases h with
    | dctO h r =>
      rcases List.mem_cons.mp hb with rfl | hb
      · exact ⟨_, h⟩
      · exact RepL.there ds r b hb
  | .scr _, _, _, h, b, hb => by cases h; cases hb
  | .gone, _, _, h, b, hb => by cases h; cases hb
  | .exn _ none _ _ _, _, _, h, b, hb => by cases h; cases hb
  | .exn _ (some _) _ _ _, _, _, h, b, hb => by cases h; cases hb
  | .tab _ _, _, _, h, b, hb => by
    cases h with
    | tab h =>
      obtain ⟨ps, h1, _⟩ := h
      have e : b = _ := List.mem_singleton.mp hb
      subst e
      exact ⟨_, h1⟩
  | .lam _ _ _ vs ds, _, _, h, b, hb => by cases h with | lam h r => exact RepL.there ds r b hb
  | .tup ds, _, _, h, b, hb => by cases h; cases hb
  | .lst false ds, _, _, h, b, hb => by cases h; cases hb
  | .lst true ds, _, _, h, b, hb => by
    cases h with
    | lstO h r =>
      rcases List.mem_cons.mp hb with rfl | hb
      · exact ⟨_, h⟩
      · exact RepL.there ds r b hb
  | .ins false n ks ds, _, _, h, b, hb => by cases h; cases hb
  | .ins true n ks ds, _, _, h, b, hb => by
    cases h with
    | insO h c q na r =>
      rcases List.mem_cons.mp hb with rfl | hb
      · exact ⟨_, h⟩
      · exact RepL.there ds r b hb
theorem RepL.there : ∀ (ds : List D) {vs : List V} {f : List Addr}, RepL K mg H ds vs f → ∀ b ∈ f, ∃ o, H b = some o
  | [], _, _, h, b, hb => by cases h; cases hb
  | d :: ds, _, _, h, b, hb => by
    cases h with
    | cons h r =>
      rcases List.mem_append.mp hb with hb | hb
      · exact RepD.there d h b hb
      · exact RepL.there ds r b hb
end
theorem RepL.length : ∀ {ds : List D} {vs : List V} {f : List Addr}, RepL K mg H ds vs f → ds.length = vs.length
  | [], _, _, h => by cases h; rfl
  | d :: ds, _, _, h => by cases h with | cons h r => show ds.length + 1 = _ + 1; rw [RepL.length r]
theorem RepL.append : ∀ {as bs : List D} {vs ws : List V} {f g : List Addr}, RepL K mg H as vs f → RepL K mg H bs ws g → RepL K mg H (as ++ bs) (vs ++ ws) (f ++ g)
  | [], _, _, _, _, _, h, r => by cases h; exact r
  | a :: as, _, _, _, _, _, h, r => by cases h with | cons h q => rw [List.append_assoc]; exact .cons h (RepL.append q r)
theorem RepL.split : ∀ {as bs : List D} {vs : List V} {f : List Addr}, RepL K mg H (as ++ bs) vs f → ∃ v1 v2 f1 f2, vs = v1 ++ v2 ∧ f = f1 ++ f2 ∧ RepL K mg H as v1 f1 ∧ RepL K mg H bs v2 f2
  | [], _, _, _, h => ⟨[], _, [], _, rfl, rfl, .nil, h⟩
  | a :: as, bs, _, _, h => by
    cases h with
    | cons h q =>
      obtain ⟨v1, v2, f1, f2, rfl, rfl, r1, r2⟩ := RepL.split q
      exact ⟨_ :: v1, v2, _ ++ f1, f2, rfl, (List.append_assoc _ _ _).symm, .cons h r1, r2⟩
theorem RepL.one {d : D} {v : V} {f : List Addr} (h : RepD K mg H d v f) : RepL K mg H [d] [v] f := by
  have := RepL.cons h (RepL.nil (K := K) (mg := mg) (H := H))
  rwa [List.append_nil] at this
theorem RepL.one_inv {d : D} {vs : List V} {f : List Addr} (h : RepL K mg H [d] vs f) : ∃ v, vs = [v] ∧ RepD K mg H d v f := by
  cases h with | cons h r => cases r; exact ⟨_, rfl, by rw [List.append_nil]; exact h⟩
theorem RepL.get : ∀ {ds : List D} {vs : List V} {f : List Addr} {i : Nat} {d : D}, RepL K mg H ds vs f → ds[i]? = some d → ∃ v g, vs[i]? = some v ∧ RepD K mg H d v g ∧ (∀ b ∈ g, b ∈ f)
  | [], _, _, _, _, _, e => by simp at e
  | a :: ds, _, _, 0, d, h, e => by
    cases h with | cons h r => simp at e; subst e; exact ⟨_, _, rfl, h, fun b hb => List.mem_append_left _ hb⟩
  | a :: ds, _, _, i + 1, d, h, e => by
    cases h with
    | cons h r =>
      obtain ⟨v, g, e1, r1, s⟩ := RepL.get (i := i) r (by simpa using e)
      exact ⟨v, g, by simpa using e1, r1, fun b hb => List.mem_append_right _ (s b hb)⟩

/-! ### slots -/
inductive RepS (K : PySem.W.Frag) (mg : Str → Option Value) (H : Hp) : List (Option D) → List (Option V) → List Addr → Prop
  | nil : RepS K mg H [] [] []
  | non (o : Option V) {σd : List (Option D)} {σv : List (Option V)} {f : List Addr} (r : RepS K mg H σd σv f) : RepS K mg H (none :: σd) (o :: σv) f
  | som {d : D} {v : V} {f g : List Addr} {σd : List (Option D)} {σv : List (Option V)} (h : RepD K mg H d v f) (r : RepS K mg H σd σv g) : RepS K mg H (some d :: σd) (some v :: σv) (f ++ g)
theorem RepS.mono (s : Stp H H') : ∀ {σd : List (Option D)} {σv : List (Option V)} {f : List Addr}, RepS K mg H σd σv f → (∀ b ∈ f, H' b = H b) → RepS K mg H' σd σv f
  | [], _, _, h, _ => by cases h; exact .nil
  | none :: _, _, _, h, k => by cases h with | non o r => exact .non o (RepS.mono s r k)
  | some d :: _, _, _, h, k => by cases h with | som h r => exact .som (h.mono s d fun b hb => k b (List.mem_append_left _ hb)) (RepS.mono s r fun b hb => k b (List.mem_append_right _ hb))
theorem RepS.there : ∀ {σd : List (Option D)} {σv : List (Option V)} {f : List Addr}, RepS K mg H σd σv f → ∀ b ∈ f, ∃ o, H b = some o
  | [], _, _, h, b, hb => by cases h; cases hb
  | none :: _, _, _, h, b, hb => by cases h with | non o r => exact RepS.there r b hb
  | some d :: _, _, _, h, b, hb => by
    cases h with
    | som h r =>
      rcases List.mem_append.mp hb with hb | hb
      · exact h.there d b hb
      · exact RepS.there r b hb
theorem RepS.length : ∀ {σd : List (Option D)} {σv : List (Option V)} {f : List Addr}, RepS K mg H σd σv f → σd.length = σv.length
  | [], _, _, h => by cases h; rfl
  | none :: _, _, _, h => by cases h with | non o r => show _ + 1 = _ + 1; rw [RepS.length r]
  | some d :: _, _, _, h => by cases h with | som h r => show _ + 1 = _ + 1; rw [RepS.length r]
/-- a slot's place: what it holds can be exchanged -/
theorem RepS.at : ∀ {σd : List (Option D)} {σv : List (Option V)} {f : List Addr} {i : Nat} {d : D}, RepS K mg H σd σv f → σd[i]? = some (some d) →
    ∃ v p g s, σv[i]? = some (some v) ∧ f = p ++ g ++ s ∧ RepD K mg H d v g ∧
      (∀ (H' : Hp) (d' : D) (v' : V) (g' : List Addr), Stp H H' → (∀ b ∈ p ++ s, H' b = H b) → RepD K mg H' d' v' g' → RepS K mg H' (σd.set i (some d')) (σv.set i (some v')) (p ++ g' ++ s)) ∧
      (∀ (H' : Hp), Stp H H' → (∀ b ∈ p ++ s, H' b = H b) → RepS K mg H' (σd.set i none) σv (p ++ s))
  | [], _, _, _, _, _, e => by simp at e
  | none :: σd, _, _, 0, d, h, e => by simp at e
  | some a :: σd, _, _, 0, d, h, e => by
    cases h with
    | som h r =>
      rename_i v f1 g1 σv'
      simp at e; subst e
      refine ⟨_, [], _, _, rfl, rfl, h, fun H' d' v' g' st k rd => ?_, fun H' st k => ?_⟩
      · exact .som rd (r.mono st fun b hb => k b (by simpa using hb))
      · exact .non _ (r.mono st fun b hb => k b (by simpa using hb))
  | none :: σd, _, _, i + 1, d, h, e => by
    cases h with
    | non o r =>
      obtain ⟨v, p, g, s, e1, e2, rd, k1, k2⟩ := RepS.at (i := i) r (by simpa using e)
      refine ⟨v, p, g, s, by simpa using e1, e2, rd, fun H' d' v' g' st k rd' => ?_, fun H' st k => ?_⟩
      · exact .non o (k1 H' d' v' g' st k rd')
      · exact .non o (k2 H' st k)
  | some a :: σd, _, _, i + 1, d, h, e => by
    cases h with
    | som h r =>
      rename_i v0 f1 g1 σv'
      obtain ⟨v, p, g, s, e1, e2, rd, k1, k2⟩ := RepS.at (i := i) r (by simpa using e)
      subst e2
      refine ⟨v, f1 ++ p, g, s, by simpa using e1, by simp [List.append_assoc], rd, fun H' d' v' g' st k rd' => ?_, fun H' st k => ?_⟩
      · have q := RepS.som (h.mono st _ fun b hb => k b (by simp [hb])) (k1 H' d' v' g' st (fun b hb => k b (by simp at hb ⊢; rcases hb with hb | hb <;> simp [hb])) rd')
        simpa [List.append_assoc] using q
      · have q := RepS.som (h.mono st _ fun b hb => k b (by simp [hb])) (k2 H' st (fun b hb => k b (by simp at hb ⊢; rcases hb with hb | hb <;> simp [hb])))
        simpa [List.append_assoc] using q
/-- a slot is set anew -/
theorem RepS.set : ∀ {σd : List (Option D)} {σv : List (Option V)} {f : List Addr} (i : Nat) {d' : D} {v' : V} {g' : List Addr}, RepS K mg H σd σv f → RepD K mg H d' v' g' → i < σd.length →
    ∃ p g s, f = p ++ g ++ s ∧ RepS K mg H (σd.set i (some d')) (σv.set i (some v')) (p ++ g' ++ s)
  | [], _, _, _, _, _, _, _, _, hi => by simp at hi
  | none :: σd, _, _, 0, d', v', g', h, rd, _ => by
    cases h with | non o r => exact ⟨[], [], _, rfl, .som rd r⟩
  | some a :: σd, _, _, 0, d', v', g', h, rd, _ => by
    cases h with | som h r => exact ⟨[], _, _, rfl, .som rd r⟩
  | none :: σd, _, _, i + 1, d', v', g', h, rd, hi => by
    cases h with
    | non o r =>
      obtain ⟨p, g, s, e, q⟩ := RepS.set i r rd (by simpa using hi)
      exact ⟨p, g, s, e, .non o q⟩
  | some a :: σd, _, _, i + 1, d', v', g', h, rd, hi => by
    cases h with
    | som h r =>
      rename_i v0 f1 g1 σv'
      obtain ⟨p, g, s, e, q⟩ := RepS.set i r rd (by simpa using hi)
      subst e
      exact ⟨f1 ++ p, g, s, by simp [List.append_assoc], by simpa [List.append_assoc] using RepS.som h q⟩
theorem RepS.unset : ∀ {σd : List (Option D)} {σv : List (Option V)} {f : List Addr} (i : Nat), RepS K mg H σd σv f → ∀ o, ∃ p g s, f = p ++ g ++ s ∧ RepS K mg H (σd.set i none) (σv.set i o) (p ++ s)
  | [], _, _, i, h, o => by cases h; exact ⟨[], [], [], rfl, .nil⟩
  | none :: σd, _, _, 0, h, o => by cases h with | non o' r => exact ⟨[], [], _, rfl, .non _ r⟩
  | some a :: σd, _, _, 0, h, o => by cases h with | som h r => exact ⟨[], _, _, rfl, .non _ r⟩
  | none :: σd, _, _, i + 1, h, o => by
    cases h with
    | non o' r =>
      obtain ⟨p, g, s, e, q⟩ := RepS.unset i r o
      exact ⟨p, g, s, e, .non _ q⟩
  | some a :: σd, _, _, i + 1, h, o => by
    cases h with
    | som h r =>
      rename_i v0 f1 g1 σv'
      obtain ⟨p, g, s, e, q⟩ := RepS.unset i r o
      subst e
      exact ⟨f1 ++ p, g, s, by simp [List.append_assoc], by simpa [List.append_assoc] using RepS.som h q⟩
end
end DL
namespace DL
open PySem PySem.Spec PyProof.Rows L2

/-! ### the ghost step: a tracked object stands for ever from now on -/
def canFrz : HO → Prop
  | .lst _ => True
  | .ins _ _ _ => True
  | .dK _ => True
  | _ => False
inductive GT : Hp → (Hp → Prop) → Prop
  | here {H : Hp} {P : Hp → Prop} (h : P H) : GT H P
  | step {H : Hp} {P : Hp → Prop} {a : Addr} {u : HO} (e : H a = some u) (c : canFrz u) (k : ∀ o, GT (upd H a (.frz o u)) P) : GT H P
theorem GT.mono {H : Hp} {P P' : Hp → Prop} (g : GT H P) (h : ∀ H', P H' → P' H') : GT H P' := by
  induction g with
  | here q => exact .here (h _ q)
  | step e c k ih => exact .step e c fun o => ih o h
theorem GT.bind {H : Hp} {P P' : Hp → Prop} (g : GT H P) (h : ∀ H', P H' → GT H' P') : GT H P' := by
  induction g with
  | here q => exact h _ q
  | step e c k ih => exact .step e c fun o => ih o h
section
variable {X : Cx} {pins : List (Addr × Obj)} {σ : L2.St} {H : Hp} {s : Shared}
theorem Inv.frz {a : Addr} {u : HO} (I : Inv X pins σ H s) (e : H a = some u) (c : canFrz u) : ∃ o, Inv X pins σ (upd H a (.frz o u)) s := by
  obtain ⟨o, ho⟩ := objOk_get (I.hok a u e)
  have nt : ∀ b xs, H b = some (.tup xs) → b ≠ a := fun b xs q => ne_of q e (by rintro rfl; exact c)
  have nf : ∀ b o' xs, H b = some (.frz o' xs) → b ≠ a := fun b o' xs q => ne_of q e (by rintro rfl; exact c)
  have nb : ∀ b xs, H b = some (.tbl xs) → b ≠ a := fun b xs q => ne_of q e (by rintro rfl; exact c)
  have nw : ∀ b x, H b = some (.own x) → b ≠ a := fun b x q => ne_of q e (by rintro rfl; exact c)
  have st : ∀ {b : Addr} {v : HO}, ObjOk X.prog X.w H s.heap b v → ObjOk X.prog X.w (upd H a (.frz o u)) s.heap b v := fun {b v} x =>
    x.stay (fun _ _ _ q => q) (fun d q => by rw [upd_ne (nw d _ q)]; exact q) fun d xs q => by rw [upd_ne (nt d _ q)]; exact q
  refine ⟨o, I.un (h' := s.heap) (t' := s.toks) ⟨fun _ _ q _ _ _ => q, fun _ ob q _ _ _ => ⟨ob.slots, q⟩, fun b _ _ n _ => ?_, fun _ ob q _ => ⟨ob, q⟩, fun b xs q => ?_, fun b o' v q => ?_, fun b ps q => ⟨#[], ?_⟩⟩ fun b v q => ?_⟩
  · rw [upd_ne (fun z => by rw [z, e] at n; cases n)]; exact n
  · rw [upd_ne (nt b _ q)]; exact q
  · rw [upd_ne (nf b _ _ q)]; exact q
  · rw [upd_ne (nb b _ q), q]; simp
  · by_cases hb : b = a
    · subst hb
      rw [upd_same] at q
      cases q
      exact ⟨ho, st (I.hok b u e)⟩
    · rw [upd_ne hb] at q
      exact st (I.hok b v q)
theorem Inv.ghost {P : Hp → Prop} (g : GT H P) (I : Inv X pins σ H s) : ∃ H', Inv X pins σ H' s ∧ P H' := by
  induction g with
  | here q => exact ⟨_, I, q⟩
  | step e c k ih =>
    obtain ⟨o, J⟩ := Inv.frz I e c
    exact ih o J
end
section
variable {X : Cx} {e : Expr} {es : List Expr} {t t' : TE} {st : Stmt} {sts : List Stmt}
theorem PE.imp (h : PE X e t) (k : ∀ σ H Q, t' σ H Q → t σ H Q) : PE X e t' := ⟨fun pins s σ H Q I q => h.run pins s σ H Q I (k _ _ _ q)⟩
theorem PE.gh (h : PE X e t) : PE X e (fun σ H Q => t σ H fun x H' => GT H' (Q x)) := ⟨fun pins s σ H Q I q =>
  thn (h.run pins s σ H _ I q) fun _ _ ⟨v, H', I', r, q'⟩ => by
    obtain ⟨H2, I2, q2⟩ := Inv.ghost q' I'
    exact ⟨v, H2, I2, r, q2⟩⟩
theorem PT.imp {t t' : TT} (h : PT X e t) (k : ∀ σ H Q, t' σ H Q → t σ H Q) : PT X e t' := ⟨fun pins s σ H Q I q => h.run pins s σ H Q I (k _ _ _ q)⟩
theorem PW.imp {t t' : TT} (h : PW X e t) (k : ∀ σ H Q, t' σ H Q → t σ H Q) : PW X e t' := ⟨fun w pins s σ H Q I q => h.run w pins s σ H Q I (k _ _ _ q)⟩
theorem PA.imp {t t' : TA} (h : PA X es t) (k : ∀ σ H Q, t' σ H Q → t σ H Q) : PA X es t' := ⟨fun pos pins s σ H Q I q => h.run pos pins s σ H Q I (k _ _ _ q)⟩
theorem PA.gh {t : TA} (h : PA X es t) : PA X es (fun σ H Q => t σ H fun xs H' => GT H' (Q xs)) := ⟨fun pos pins s σ H Q I q =>
  thn (h.run pos pins s σ H _ I q) fun _ _ ⟨v, H', I', r, q'⟩ => by
    obtain ⟨H2, I2, q2⟩ := Inv.ghost q' I'
    exact ⟨v, H2, I2, r, q2⟩⟩
theorem PS.imp {t t' : TS} (h : PS X st t) (k : ∀ D σ H, t' D σ H → t D σ H) : PS X st t' := ⟨fun pins s σ H D I q => h.run pins s σ H D I (k _ _ _ q)⟩
theorem PSs.imp {t t' : TS} (h : PSs X sts t) (k : ∀ D σ H, t' D σ H → t D σ H) : PSs X sts t' := ⟨fun pins s σ H D I q => h.run pins s σ H D I (k _ _ _ q)⟩
/-- a ghost step ahead -/
theorem PS.gh0 {t : TS} (h : PS X st t) : PS X st (fun D σ H => GT H (t D σ)) := ⟨fun pins s σ H D I q => by
  obtain ⟨H2, I2, q2⟩ := Inv.ghost q I
  exact h.run pins s σ H2 D I2 q2⟩
end

/-! ### sharing: what is held by a name is given to another holder: from then on nobody changes it -/
mutual
def share : D → D
  | .lst true ds => .lst false (shareL ds)
  | .ins true n ks vs => .ins false n ks (shareL vs)
  | .dct true ks vs => .dct false ks (shareL vs)
  | .tab _ _ => .gone
  | .lam _ _ _ _ _ => .gone
  | d => d
def shareL : List D → List D
  | [] => []
  | d :: ds => share d :: shareL ds
end
/-- nothing of its own at the top -/
def fz : D → Bool
  | .lst true _ => false
  | .ins true _ _ _ => false
  | .dct true _ _ => false
  | .tab _ _ => false
  | .lam _ _ _ _ _ => false
  | _ => true
theorem share_fz : ∀ {d : D}, fz d = true → share d = d
  | .non, _ => by simp [share]
  | .bl _, _ => by simp [share]
  | .int _, _ => by simp [share]
  | .str _, _ => by simp [share]
  | .ty _, _ => by simp [share]
  | .fn _, _ => by simp [share]
  | .dct false _ _, _ => by simp [share]
  | .dct true _ _, h => by simp [fz] at h
  | .scr _, _ => by simp [share]
  | .gone, _ => by simp [share]
  | .exn _ _ _ _ _, _ => by simp [share]
  | .tab _ _, h => by simp [fz] at h
  | .lam _ _ _ _ _, h => by simp [fz] at h
  | .tup _, _ => by simp [share]
  | .lst false _, _ => by simp [share]
  | .ins false _ _ _, _ => by simp [share]
  | .lst true _, h => by simp [fz] at h
  | .ins true _ _ _, h => by simp [fz] at h
theorem shareL_fz : ∀ {ds : List D}, ds.all fz = true → shareL ds = ds
  | [], _ => by simp [shareL]
  | d :: ds, h => by
    simp only [List.all_cons, Bool.and_eq_true] at h
    rw [shareL, share_fz h.1, shareL_fz h.2]
theorem fz_share : ∀ (d : D), fz (share d) = true
  | .non => by simp [share, fz]
  | .bl _ => by simp [share, fz]
  | .int _ => by simp [share, fz]
  | .str _ => by simp [share, fz]
  | .ty _ => by simp [share, fz]
  | .fn _ => by simp [share, fz]
  | .dct false _ _ => by simp [share, fz]
  | .dct true _ _ => by simp [share, fz]
  | .scr _ => by simp [share, fz]
  | .gone => by simp [share, fz]
  | .exn _ _ _ _ _ => by simp [share, fz]
  | .tab _ _ => by simp [share, fz]
  | .lam _ _ _ _ _ => by simp [share, fz]
  | .tup _ => by simp [share, fz]
  | .lst false _ => by simp [share, fz]
  | .ins false _ _ _ => by simp [share, fz]
  | .lst true _ => by simp [share, fz]
  | .ins true _ _ _ => by simp [share, fz]
theorem shareL_length : ∀ (ds : List D), (shareL ds).length = ds.length
  | [] => by simp [shareL]
  | d :: ds => by simp [shareL, shareL_length ds]
theorem shareL_append : ∀ (as bs : List D), shareL (as ++ bs) = shareL as ++ shareL bs
  | [], bs => by simp [shareL]
  | a :: as, bs => by simp [shareL, shareL_append as bs]
section
variable {K : PySem.W.Frag} {mg : Str → Option Value} {H H' : Hp}
theorem RepD.fz {d : D} {v : V} {f : List Addr} (h : RepD K mg H d v f) (q : fz d = true) : f = [] := by
  cases h <;> first | rfl | (simp [DL.fz] at q)
theorem RepL.fz : ∀ {ds : List D} {vs : List V} {f : List Addr}, RepL K mg H ds vs f → ds.all DL.fz = true → f = []
  | [], _, _, h, _ => by cases h; rfl
  | d :: ds, _, _, h, q => by
    simp only [List.all_cons, Bool.and_eq_true] at q
    cases h with | cons h r => rw [h.fz q.1, RepL.fz r q.2]; rfl
mutual
theorem RepD.frz {P : Hp → Prop} : ∀ (d : D) {H : Hp} {v : V} {f : List Addr}, RepD K mg H d v f → f.Nodup →
    (∀ H', Stp H H' → (∀ b, b ∉ f → H' b = H b) → RepD K mg H' (share d) v [] → GT H' P) → GT H P
  | .non, H, _, _, h, _, k => by cases h; exact k H (Stp.refl H) (fun _ _ => rfl) (by rw [share_fz rfl]; exact .non)
  | .bl b, H, _, _, h, _, k => by cases h; exact k H (Stp.refl H) (fun _ _ => rfl) (by rw [share_fz rfl]; exact .bl b)
  | .int b, H, _, _, h, _, k => by cases h; exact k H (Stp.refl H) (fun _ _ => rfl) (by rw [share_fz rfl]; exact .int b)
  | .str b, H, _, _, h, _, k => by cases h; exact k H (Stp.refl H) (fun _ _ => rfl) (by rw [share_fz rfl]; exact .str b)
  | .ty b, H, _, _, h, _, k => by cases h; exact k H (Stp.refl H) (fun _ _ => rfl) (by rw [share_fz rfl]; exact .ty b)
  | .fn b, H, _, _, h, _, k => by cases h; exact k H (Stp.refl H) (fun _ _ => rfl) (by rw [share_fz rfl]; exact .fn b)
  | .dct true ks ds, H, _, _, h, nd, k => by
    cases h with
    | dctO h r =>
      rename_i a kvs fp
      have nd2 := List.nodup_cons.mp nd
      refine RepL.frz ds r nd2.2 fun H1 s1 e1 r1 => ?_
      have h1 : H1 a = some (.dK kvs) := (e1 a nd2.1).trans h
      refine .step h1 trivial fun o => ?_
      have s2 : Stp H1 (upd H1 a (.frz o (.dK kvs))) := Stp.dK h1
      refine k _ (s1.trans s2) (fun b hb => ?_) ?_
      · have hba : b ≠ a := fun z => hb (by rw [z]; exact List.mem_cons_self)
        rw [upd_ne hba]
        exact e1 b fun z => hb (List.mem_cons_of_mem _ z)
      · rw [share]
        exact .dctF upd_same (r1.mono s2 _ fun b hb => nomatch hb)
  | .dct false b b2, H, _, _, h, _, k => by
    have z := h.fz rfl
    subst z
    exact k H (Stp.refl H) (fun _ _ => rfl) (by rw [share_fz rfl]; exact h)
  | .scr b, H, _, _, h, _, k => by
    have z := h.fz rfl
    subst z
    exact k H (Stp.refl H) (fun _ _ => rfl) (by rw [share_fz rfl]; exact h)
  | .gone, H, _, _, h, _, k => by
    have z := h.fz rfl
    subst z
    exact k H (Stp.refl H) (fun _ _ => rfl) (by rw [share_fz rfl]; exact h)
  | .exn a b c d e, H, _, _, h, _, k => by
    have z := h.fz rfl
    subst z
    exact k H (Stp.refl H) (fun _ _ => rfl) (by rw [share_fz rfl]; exact h)
  | .lam b b2 b3 b4 b5, H, v, _, h, _, k => k H (Stp.refl H) (fun _ _ => rfl) (by
    rw [share]
    exact .gone v)
  | .tab b b2, H, v, _, h, _, k => k H (Stp.refl H) (fun _ _ => rfl) (by
    rw [share]
    exact .gone v)
  | .tup b, H, _, _, h, _, k => by
    have z := h.fz rfl
    subst z
    exact k H (Stp.refl H) (fun _ _ => rfl) (by rw [share_fz rfl]; exact h)
  | .lst false b, H, _, _, h, _, k => by
    have z := h.fz rfl
    subst z
    exact k H (Stp.refl H) (fun _ _ => rfl) (by rw [share_fz rfl]; exact h)
  | .ins false _ _ b, H, _, _, h, _, k => by
    have z := h.fz rfl
    subst z
    exact k H (Stp.refl H) (fun _ _ => rfl) (by rw [share_fz rfl]; exact h)
  | .lst true ds, H, _, _, h, nd, k => by
    cases h with
    | lstO h r =>
      rename_i a xs fp
      have nd2 := List.nodup_cons.mp nd
      refine RepL.frz ds r nd2.2 fun H1 s1 e1 r1 => ?_
      have h1 : H1 a = some (.lst xs) := (e1 a nd2.1).trans h
      refine .step h1 trivial fun o => ?_
      have s2 : Stp H1 (upd H1 a (.frz o (.lst xs))) := Stp.lst h1
      refine k _ (s1.trans s2) (fun b hb => ?_) ?_
      · have hba : b ≠ a := fun z => hb (by rw [z]; exact List.mem_cons_self)
        rw [upd_ne hba]
        exact e1 b fun z => hb (List.mem_cons_of_mem _ z)
      · rw [share]
        exact .lstF ⟨o, upd_same⟩ (r1.mono s2 _ fun b hb => nomatch hb)
  | .ins true n ks ds, H, _, _, h, nd, k => by
    cases h with
    | insO h c q na r =>
      rename_i a C dx fs fp
      have nd2 := List.nodup_cons.mp nd
      refine RepL.frz ds r nd2.2 fun H1 s1 e1 r1 => ?_
      have h1 : H1 a = some (.ins C dx fs) := (e1 a nd2.1).trans h
      refine .step h1 trivial fun o => ?_
      have s2 : Stp H1 (upd H1 a (.frz o (.ins C dx fs))) := Stp.ins h1
      refine k _ (s1.trans s2) (fun b hb => ?_) ?_
      · have hba : b ≠ a := fun z => hb (by rw [z]; exact List.mem_cons_self)
        rw [upd_ne hba]
        exact e1 b fun z => hb (List.mem_cons_of_mem _ z)
      · rw [share]
        exact .insF upd_same c q na (r1.mono s2 _ fun b hb => nomatch hb)
theorem RepL.frz {P : Hp → Prop} : ∀ (ds : List D) {H : Hp} {vs : List V} {f : List Addr}, RepL K mg H ds vs f → f.Nodup →
    (∀ H', Stp H H' → (∀ b, b ∉ f → H' b = H b) → RepL K mg H' (shareL ds) vs [] → GT H' P) → GT H P
  | [], H, _, _, h, _, k => by cases h; exact k H (Stp.refl H) (fun _ _ => rfl) (by rw [shareL]; exact .nil)
  | d :: ds, H, _, _, h, nd, k => by
    cases h with
    | cons h r =>
      rename_i v f1 vs f2
      obtain ⟨n1, n2, n3⟩ := List.nodup_append.mp nd
      refine RepD.frz d h n1 fun H1 s1 e1 r1 => ?_
      have r' : RepL K mg H1 ds vs f2 := r.mono s1 _ fun b hb => e1 b fun z => n3 b z b hb rfl
      refine RepL.frz ds r' n2 fun H2 s2 e2 r2 => ?_
      refine k H2 (s1.trans s2) (fun b hb => ?_) ?_
      · rw [e2 b fun z => hb (List.mem_append_right _ z)]
        exact e1 b fun z => hb (List.mem_append_left _ z)
      · rw [shareL]
        have := RepL.cons (r1.mono s2 _ fun b hb => nomatch hb) r2
        simpa using this
end
end

/-! ### the world: the frame's values (of the callers, and what is being reckoned), the def's slots -/
def Wd (K : PySem.W.Frag) (mg : Str → Option Value) (H : Hp) (φd : List D) (φv : List V) (σd : List (Option D)) (σv : L2.St) : Prop :=
  ∃ f g, RepL K mg H φd φv f ∧ RepS K mg H σd σv g ∧ (f ++ g).Nodup
section
variable {K : PySem.W.Frag} {mg : Str → Option Value} {H H' : Hp} {φd : List D} {φv : List V} {σd : List (Option D)} {σv : L2.St}
theorem Wd.slot (w : Wd K mg H φd φv σd σv) {i : Nat} {d : D} (e : σd[i]? = some (some d)) : ∃ v f, σv[i]? = some (some v) ∧ RepD K mg H d v f := by
  obtain ⟨f, g, r, s, nd⟩ := w
  obtain ⟨v, p, q, t, e1, _, rd, _⟩ := s.at e
  exact ⟨v, q, e1, rd⟩
theorem Wd.temp (w : Wd K mg H φd φv σd σv) {i : Nat} {d : D} {v : V} (e : φd[i]? = some d) (e' : φv[i]? = some v) : ∃ f, RepD K mg H d v f := by
  obtain ⟨f, g, r, s, nd⟩ := w
  obtain ⟨v', q, e1, rd, _⟩ := r.get e
  rw [e1] at e'; cases e'
  exact ⟨q, rd⟩
theorem Wd.length (w : Wd K mg H φd φv σd σv) : φd.length = φv.length ∧ σd.length = σv.length := by
  obtain ⟨f, g, r, s, nd⟩ := w
  exact ⟨r.length, s.length⟩
/-- a step that keeps tuples, frozen things and all own objects of the world -/
theorem Wd.mono (w : Wd K mg H φd φv σd σv) (s : Stp H H') (k : ∀ b o, H b = some o → H' b = some o) : Wd K mg H' φd φv σd σv := by
  obtain ⟨f, g, r, q, nd⟩ := w
  have kf : ∀ b ∈ f ++ g, H' b = H b := fun b hb => by
    rcases List.mem_append.mp hb with hb | hb
    · obtain ⟨o, e⟩ := r.there _ b hb; rw [e]; exact k b o e
    · obtain ⟨o, e⟩ := q.there b hb; rw [e]; exact k b o e
  exact ⟨f, g, r.mono s _ fun b hb => kf b (List.mem_append_left _ hb), q.mono s fun b hb => kf b (List.mem_append_right _ hb), nd⟩
theorem Wd.fresh (w : Wd K mg H φd φv σd σv) {p : Addr} {o : HO} (h : H p = none) : Wd K mg (upd H p o) φd φv σd σv :=
  w.mono (Stp.fresh h) fun b u e => by rw [upd_ne (ne_of_none e h)]; exact e
/-- temporaries are let go -/
theorem Wd.drop {ψd : List D} {ψv : List V} (w : Wd K mg H (φd ++ ψd) (φv ++ ψv) σd σv) (l : ψd.length = ψv.length) : Wd K mg H φd φv σd σv := by
  obtain ⟨f, g, r, q, nd⟩ := w
  obtain ⟨v1, v2, f1, f2, e, rfl, r1, r2⟩ := r.split
  obtain ⟨e1, e2⟩ := List.append_inj' e (by rw [← r2.length]; exact l.symm)
  subst e1
  refine ⟨f1, g, r1, q, ?_⟩
  rw [List.append_assoc] at nd
  obtain ⟨n1, n2, n3⟩ := List.nodup_append.mp nd
  obtain ⟨n4, n5, n6⟩ := List.nodup_append.mp n2
  exact List.nodup_append.mpr ⟨n1, n5, fun a ha b hb => n3 a ha b (List.mem_append_right _ hb)⟩
/-- a value without own objects is held besides -/
theorem Wd.push (w : Wd K mg H φd φv σd σv) {d : D} {v : V} (rd : RepD K mg H d v []) : Wd K mg H (φd ++ [d]) (φv ++ [v]) σd σv := by
  obtain ⟨f, g, r, q, nd⟩ := w
  refine ⟨f ++ [], g, r.append (RepL.one rd), q, ?_⟩
  rw [List.append_nil]; exact nd
theorem Wd.pushL (w : Wd K mg H φd φv σd σv) {ds : List D} {vs : List V} (rd : RepL K mg H ds vs []) : Wd K mg H (φd ++ ds) (φv ++ vs) σd σv := by
  obtain ⟨f, g, r, q, nd⟩ := w
  refine ⟨f ++ [], g, r.append rd, q, ?_⟩
  rw [List.append_nil]; exact nd
/-- the last temporaries, taken out -/
theorem Wd.last {ψd : List D} {ψv : List V} (w : Wd K mg H (φd ++ ψd) (φv ++ ψv) σd σv) (l : ψd.length = ψv.length) :
    ∃ f t g, RepL K mg H φd φv f ∧ RepL K mg H ψd ψv t ∧ RepS K mg H σd σv g ∧ (f ++ (t ++ g)).Nodup := by
  obtain ⟨f, g, r, q, nd⟩ := w
  obtain ⟨v1, v2, f1, f2, e, rfl, r1, r2⟩ := r.split
  obtain ⟨e1, e2⟩ := List.append_inj' e (by rw [← r2.length]; exact l.symm)
  subst e1 e2
  exact ⟨f1, f2, g, r1, r2, q, by rw [← List.append_assoc]; exact nd⟩
theorem Wd.of_last {ψd : List D} {ψv : List V} {f t g : List Addr} (r : RepL K mg H φd φv f) (r2 : RepL K mg H ψd ψv t) (q : RepS K mg H σd σv g) (nd : (f ++ (t ++ g)).Nodup) : Wd K mg H (φd ++ ψd) (φv ++ ψv) σd σv :=
  ⟨f ++ t, g, r.append r2, q, by rw [List.append_assoc]; exact nd⟩
/-- temporaries become the items of a new list -/
theorem Wd.newList {ψd : List D} {ψv : List V} {p : Addr} (w : Wd K mg H (φd ++ ψd) (φv ++ ψv) σd σv) (l : ψd.length = ψv.length) (h : H p = none) :
    Wd K mg (upd H p (.lst ψv)) (φd ++ [.lst true ψd]) (φv ++ [.ref p]) σd σv := by
  obtain ⟨f, t, g, r1, r2, q, nd⟩ := (w.fresh (o := .lst ψv) h).last l
  obtain ⟨f', t', g', r1', r2', q', _⟩ := w.last l
  have fr : ∀ b, (b ∈ f ∨ b ∈ t ∨ b ∈ g) → b ≠ p → True := fun _ _ _ => trivial
  obtain ⟨f0, t0, g0, s1, s2, s3, nd0⟩ := w.last l
  have st : Stp H (upd H p (.lst ψv)) := Stp.fresh h
  have keep : ∀ b o, H b = some o → upd H p (.lst ψv) b = H b := fun b o e => upd_ne (ne_of_none e h)
  refine Wd.of_last (t := p :: t0) (g := g0) (s1.mono st _ fun b hb => ?_) (.one (.lstO upd_same (s2.mono st _ fun b hb => ?_))) (s3.mono st fun b hb => ?_) ?_
  · obtain ⟨o, e⟩ := s1.there _ b hb; exact keep b o e
  · obtain ⟨o, e⟩ := s2.there _ b hb; exact keep b o e
  · obtain ⟨o, e⟩ := s3.there b hb; exact keep b o e
  · rw [List.cons_append]
    refine (List.perm_middle).nodup_iff.mpr (List.nodup_cons.mpr ⟨fun z => ?_, nd0⟩)
    have ex : ∃ o, H p = some o := by
      rcases List.mem_append.mp z with z | z
      · exact s1.there _ p z
      · rcases List.mem_append.mp z with z | z
        · exact s2.there _ p z
        · exact s3.there p z
    obtain ⟨o, e⟩ := ex
    rw [h] at e; cases e
/-- temporaries without own objects become a tuple -/
theorem Wd.newTup {ψd : List D} {ψv : List V} {p : Addr} (w : Wd K mg H (φd ++ ψd) (φv ++ ψv) σd σv) (l : ψd.length = ψv.length) (z : ψd.all fz = true) (h : H p = none) :
    Wd K mg (upd H p (.tup ψv)) (φd ++ [.tup ψd]) (φv ++ [.ref p]) σd σv := by
  obtain ⟨f0, t0, g0, s1, s2, s3, nd0⟩ := w.last l
  have et := s2.fz z
  subst et
  have st : Stp H (upd H p (.tup ψv)) := Stp.fresh h
  exact ((w.drop l).fresh h).push (.tup (.inl (.inl upd_same)) (s2.mono st _ fun b hb => nomatch hb))
/-- the last temporary goes into a slot -/
theorem Wd.store {d : D} {v : V} (w : Wd K mg H (φd ++ [d]) (φv ++ [v]) σd σv) {i : Nat} (hi : i < σd.length) : Wd K mg H φd φv (σd.set i (some d)) (σv.set i (some v)) := by
  obtain ⟨f, t, g, r1, r2, q, nd⟩ := w.last rfl
  obtain ⟨v', ev, rd⟩ := r2.one_inv
  cases ev
  obtain ⟨p, m, s, eg, q2⟩ := q.set i rd hi
  subst eg
  refine ⟨f, p ++ t ++ s, r1, q2, ?_⟩
  have h1 : (f ++ (t ++ (p ++ s))).Nodup := by
    refine List.Nodup.sublist ?_ nd
    refine List.Sublist.append_left (List.Sublist.append_left ?_ _) _
    rw [List.append_assoc]
    exact List.Sublist.append_left (List.sublist_append_right _ _) _
  refine (List.Perm.append_left f ?_).nodup_iff.mpr h1
  rw [List.append_assoc]
  exact (List.perm_append_comm_assoc p t s)
/-- a slot is forgotten -/
theorem Wd.unset (w : Wd K mg H φd φv σd σv) (i : Nat) (o : Option V) : Wd K mg H φd φv (σd.set i none) (σv.set i o) := by
  obtain ⟨f, g, r, q, nd⟩ := w
  obtain ⟨p, m, s, eg, q2⟩ := q.unset i o
  subst eg
  refine ⟨f, p ++ s, r, q2, List.Nodup.sublist (List.Sublist.append_left ?_ _) nd⟩
  rw [List.append_assoc]
  exact List.Sublist.append_left (List.sublist_append_right _ _) _
/-- what a slot holds of its own becomes a temporary -/
theorem Wd.take (w : Wd K mg H φd φv σd σv) {i : Nat} {d : D} (e : σd[i]? = some (some d)) :
    ∃ v, σv[i]? = some (some v) ∧ Wd K mg H (φd ++ [d]) (φv ++ [v]) (σd.set i none) σv := by
  obtain ⟨f, g, r, q, nd⟩ := w
  obtain ⟨v, p, m, s, e1, eg, rd, _, k2⟩ := q.at e
  subst eg
  refine ⟨v, e1, Wd.of_last r (RepL.one rd) (k2 H (Stp.refl H) fun _ _ => rfl) ?_⟩
  refine (List.Perm.append_left f ?_).nodup_iff.mpr nd
  rw [List.append_assoc]
  exact (List.perm_append_comm_assoc m p s)
/-- what a slot holds is given away too: from now on it stands -/
theorem Wd.shareSlot {P : Hp → Prop} (w : Wd K mg H φd φv σd σv) {i : Nat} {d : D} (e : σd[i]? = some (some d))
    (k : ∀ H' v, σv[i]? = some (some v) → Wd K mg H' (φd ++ [share d]) (φv ++ [v]) (σd.set i (some (share d))) σv → GT H' P) : GT H P := by
  obtain ⟨f, g, r, q, nd⟩ := w
  obtain ⟨v, p, m, s, e1, eg, rd, k1, _⟩ := q.at e
  subst eg
  have nd' : (f ++ (m ++ (p ++ s))).Nodup := by
    refine (List.Perm.append_left f ?_).nodup_iff.mpr nd
    rw [List.append_assoc]
    exact (List.perm_append_comm_assoc m p s)
  obtain ⟨n1, n2, n3⟩ := List.nodup_append.mp nd'
  obtain ⟨n4, n5, n6⟩ := List.nodup_append.mp n2
  refine rd.frz d n4 fun H' st ke rd' => ?_
  have kps : ∀ b ∈ p ++ s, H' b = H b := fun b hb => ke b fun z => n6 b z b hb rfl
  have kf : ∀ b ∈ f, H' b = H b := fun b hb => ke b fun z => n3 b hb b (List.mem_append_left _ z) rfl
  have q2 := k1 H' (share d) v [] st kps rd'
  rw [List.append_nil] at q2
  have ev : σv.set i (some v) = σv := by
    obtain ⟨hi, e2⟩ := List.getElem?_eq_some_iff.mp e1
    rw [← e2]; exact List.set_getElem_self hi
  rw [ev] at q2
  have w2 : Wd K mg H' φd φv (σd.set i (some (share d))) σv := ⟨f, p ++ s, r.mono st _ kf, q2, List.nodup_append.mpr ⟨n1, n5, fun a ha b hb => n3 a ha b (List.mem_append_right _ hb)⟩⟩
  exact k H' v e1 (w2.push rd')
/-- temporaries: from now on they stand -/
theorem Wd.shareTemps {P : Hp → Prop} {ψd : List D} {ψv : List V} (w : Wd K mg H (φd ++ ψd) (φv ++ ψv) σd σv) (l : ψd.length = ψv.length)
    (k : ∀ H', Wd K mg H' (φd ++ shareL ψd) (φv ++ ψv) σd σv → GT H' P) : GT H P := by
  obtain ⟨f, t, g, r1, r2, q, nd⟩ := w.last l
  obtain ⟨n1, n2, n3⟩ := List.nodup_append.mp nd
  obtain ⟨n4, n5, n6⟩ := List.nodup_append.mp n2
  refine r2.frz ψd n4 fun H' st ke r2' => ?_
  refine k H' (Wd.pushL ⟨f, g, r1.mono st _ fun b hb => ke b fun z => n3 b hb b (List.mem_append_left _ z) rfl, q.mono st fun b hb => ke b fun z => n6 b z b hb rfl, List.nodup_append.mpr ⟨n1, n5, fun a ha b hb => n3 a ha b (List.mem_append_right _ hb)⟩⟩ r2')
end
end DL
namespace DL
open PySem PySem.Spec PyProof.Rows L2

abbrev En := List (Option D)
/-- what an expression gives: a value held by nobody else, or what stands in the i-th slot -/
inductive Hd where
  | val (d : D) | sl (i : Nat)
/-- err: nothing is promised -/
inductive Out (α : Type) where
  | err | ok (a : α) (σ : En) | exc (c : Str) (ks : List Str) (vs : List D) (σ : En)
def Out.bind {α β : Type} (r : Out α) (k : α → En → Out β) : Out β := match r with
  | .err => .err
  | .ok a σ => k a σ
  | .exc c ks vs σ => .exc c ks vs σ
/-- an equation that is no rewriting by definition -/
theorem nrfl {α : Sort u} {a b : α} (h : a = b) : a = b := h ▸ rfl
@[simp] theorem Out.bind_ok {α β : Type} (a : α) (σ : En) (k : α → En → Out β) : (Out.ok a σ).bind k = k a σ := nrfl rfl
@[simp] theorem Out.bind_err {α β : Type} (k : α → En → Out β) : (Out.err).bind k = .err := nrfl rfl
@[simp] theorem Out.bind_exc {α β : Type} (c ks vs σ) (k : α → En → Out β) : (Out.exc c ks vs σ).bind k = .exc c ks vs σ := nrfl rfl
abbrev EF := En → Out Hd
abbrev AF := En → Out (List Hd)
abbrev TF := En → Out Bool
def sget (σ : En) (i : Nat) : Option D := match σ[i]? with
  | some (some d) => some d
  | _ => none
theorem sget_some {σ : En} {i : Nat} {d : D} (h : sget σ i = some d) : σ[i]? = some (some d) := by
  unfold sget at h
  split at h
  · rename_i d' e; cases h; exact e
  · cases h
def deref (h : Hd) (σ : En) : Option D := match h with
  | .val d => some d
  | .sl i => sget σ i
def tmpD : List Hd → List D
  | [] => []
  | .val d :: r => d :: tmpD r
  | .sl _ :: r => tmpD r
def tmpV : List Hd → List V → List V
  | .val _ :: r, v :: vs => v :: tmpV r vs
  | .sl _ :: r, _ :: vs => tmpV r vs
  | _, _ => []
theorem tmpD_append : ∀ (a b : List Hd), tmpD (a ++ b) = tmpD a ++ tmpD b
  | [], b => rfl
  | .val d :: a, b => by show d :: tmpD (a ++ b) = d :: (tmpD a ++ tmpD b); rw [tmpD_append a b]
  | .sl _ :: a, b => tmpD_append a b
theorem tmpV_append : ∀ (a b : List Hd) (va vb : List V), a.length = va.length → tmpV (a ++ b) (va ++ vb) = tmpV a va ++ tmpV b vb
  | [], b, [], vb, _ => by
    show tmpV b vb = tmpV [] [] ++ tmpV b vb
    have : tmpV [] [] = [] := by unfold tmpV; rfl
    rw [this]; rfl
  | [], b, _ :: _, vb, h => by simp at h
  | _ :: _, b, [], vb, h => by simp at h
  | .val d :: a, b, v :: va, vb, h => by show v :: tmpV (a ++ b) (va ++ vb) = v :: (tmpV a va ++ tmpV b vb); rw [tmpV_append a b va vb (by simpa using h)]
  | .sl _ :: a, b, v :: va, vb, h => tmpV_append a b va vb (by simpa using h)
theorem tmp_length : ∀ (a : List Hd) (va : List V), a.length = va.length → (tmpD a).length = (tmpV a va).length
  | [], [], _ => by unfold tmpV; rfl
  | [], _ :: _, h => by simp at h
  | _ :: _, [], h => by simp at h
  | .val d :: a, v :: va, h => by show (tmpD a).length + 1 = (tmpV a va).length + 1; rw [tmp_length a va (by simpa using h)]
  | .sl _ :: a, v :: va, h => tmp_length a va (by simpa using h)
theorem tmpV_nil : ∀ vs : List V, tmpV [] vs = []
  | [] => by unfold tmpV; rfl
  | _ :: _ => by unfold tmpV; rfl

section
variable (K : PySem.W.Frag) (mg : Str → Option Value)
/-- the world with the handles hs (their references xs) in hand -/
structure WdH (H : Hp) (φd : List D) (φv : List V) (σd : En) (σv : L2.St) (hs : List Hd) (xs : List V) : Prop where
  len : hs.length = xs.length
  wd : Wd K mg H (φd ++ tmpD hs) (φv ++ tmpV hs xs) σd σv
  at_ : ∀ (k i : Nat) (x : V), hs[k]? = some (Hd.sl i) → xs[k]? = some x → σv[i]? = some (some x)
/-- an exception of the text's class c with the fields ks, vs -/
def XRep (H : Hp) (c : Str) (ks : List Str) (vs : List D) (C : Addr) (d : Option Addr) : Prop :=
  mg c = some (.ref C) ∧ ((ks = [] ∧ vs = [] ∧ d = none) ∨ ∃ dd fs, d = some dd ∧ H dd = some (.xd fs) ∧ fs.map (·.1) = ks ∧ ks ≠ [] ∧ RepL K mg H vs (fs.map (·.2)) [])
def xW (φd : List D) (φv : List V) (σv : L2.St) (W : WX) : Str → List Str → List D → En → Prop := fun c ks vs σd' =>
  ∀ C d H', Wd K mg H' φd φv σd' σv → XRep K mg H' c ks vs C d → W (.ref C) d σv H'
end
def Gd {α : Type} (Pk : α → En → Prop) (Xk : Str → List Str → List D → En → Prop) : Out α → Prop
  | .err => False
  | .ok a σ => Pk a σ
  | .exc c ks vs σ => Xk c ks vs σ
theorem Gd.bind {α β : Type} {Pk : β → En → Prop} {Xk : Str → List Str → List D → En → Prop} {r : Out α} {k : α → En → Out β} (h : Gd Pk Xk (r.bind k)) : Gd (fun a σ => Gd Pk Xk (k a σ)) Xk r := by
  cases r with
  | err => exact h
  | ok a σ => exact h
  | exc c ks vs σ => exact h
theorem Gd.mono {α : Type} {Pk Pk' : α → En → Prop} {Xk Xk' : Str → List Str → List D → En → Prop} {r : Out α} (h : Gd Pk Xk r) (p : ∀ a σ, Pk a σ → Pk' a σ) (x : ∀ c ks vs σ, Xk c ks vs σ → Xk' c ks vs σ) : Gd Pk' Xk' r := by
  cases r with
  | err => exact h
  | ok a σ => exact p _ _ h
  | exc c ks vs σ => exact x _ _ _ _ h

section
variable (K : PySem.W.Frag) (mg : Str → Option Value) (W : WX)
def TEd (f : EF) : TE := fun σv H Q => ∃ φd φv σd, Wd K mg H φd φv σd σv ∧ Gd (fun h σd' => ∀ x H', WdH K mg H' φd φv σd' σv [h] [x] → Q x H') (xW K mg φd φv σv W) (f σd)
def TAd (f : AF) : TA := fun σv H Q => ∃ φd φv σd, Wd K mg H φd φv σd σv ∧ Gd (fun hs σd' => ∀ xs H', WdH K mg H' φd φv σd' σv hs xs → Q xs H') (xW K mg φd φv σv W) (f σd)
def TTd (f : TF) : TT := fun σv H Q => ∃ φd φv σd, Wd K mg H φd φv σd σv ∧ Gd (fun b σd' => ∀ H', Wd K mg H' φd φv σd' σv → Q b H') (xW K mg φd φv σv W) (f σd)
end
/-- the judgements: the expression e is the function f -/
abbrev LE (X : Cx) (W : WX) (e : Expr) (f : EF) : Prop := PE X e (TEd X.K X.mg W f)
abbrev LA (X : Cx) (W : WX) (es : List Expr) (f : AF) : Prop := PA X es (TAd X.K X.mg W f)
abbrev LT (X : Cx) (W : WX) (e : Expr) (f : TF) : Prop := PT X e (TTd X.K X.mg W f)

section
variable {K : PySem.W.Frag} {mg : Str → Option Value} {W : WX} {H H' : Hp} {φd : List D} {φv : List V} {σd : En} {σv : L2.St} {hs : List Hd} {xs : List V}
theorem WdH.nil (w : Wd K mg H φd φv σd σv) : WdH K mg H φd φv σd σv [] [] := ⟨rfl, by rw [tmpV_nil]; show Wd K mg H (φd ++ []) (φv ++ []) σd σv; rw [List.append_nil, List.append_nil]; exact w, fun k i x e => by simp at e⟩
theorem WdH.out (w : WdH K mg H φd φv σd σv hs xs) : Wd K mg H φd φv σd σv := w.wd.drop (tmp_length _ _ w.len)
theorem WdH.app {hs2 : List Hd} {xs2 : List V} {σd2 : En} (w : WdH K mg H φd φv σd σv hs xs) (w2 : WdH K mg H' (φd ++ tmpD hs) (φv ++ tmpV hs xs) σd2 σv hs2 xs2) : WdH K mg H' φd φv σd2 σv (hs ++ hs2) (xs ++ xs2) := by
  refine ⟨by rw [List.length_append, List.length_append, w.len, w2.len], ?_, fun k i x e1 e2 => ?_⟩
  · rw [tmpD_append, tmpV_append _ _ _ _ w.len, ← List.append_assoc, ← List.append_assoc]
    exact w2.wd
  · by_cases hk : k < hs.length
    · rw [List.getElem?_append_left hk] at e1
      rw [List.getElem?_append_left (by rw [← w.len]; exact hk)] at e2
      exact w.at_ k i x e1 e2
    · rw [List.getElem?_append_right (by omega)] at e1
      rw [List.getElem?_append_right (by rw [← w.len]; omega)] at e2
      rw [← w.len] at e2
      exact w2.at_ _ i x e1 e2
theorem WdH.rep (w : WdH K mg H φd φv σd σv hs xs) {k : Nat} {h : Hd} {x : V} {d : D} (e1 : hs[k]? = some h) (e2 : xs[k]? = some x) (e3 : deref h σd = some d) : ∃ f, RepD K mg H d x f := by
  cases h with
  | sl i =>
    have e4 := w.at_ k i x e1 e2
    obtain ⟨v, f, e5, r⟩ := w.wd.slot (sget_some e3)
    rw [e4] at e5
    cases e5
    exact ⟨f, r⟩
  | val d' =>
    cases e3
    -- its place among the temporaries
    have key : ∀ (hs : List Hd) (xs : List V) (k : Nat), hs.length = xs.length → hs[k]? = some (.val d) → xs[k]? = some x → ∃ j : Nat, (tmpD hs)[j]? = some d ∧ (tmpV hs xs)[j]? = some x := by
      intro hs
      induction hs with
      | nil => intro xs k _ e; simp at e
      | cons h r ih =>
        intro xs k hl e1 e2
        cases xs with
        | nil => simp at hl
        | cons y ys =>
          cases k with
          | zero =>
            simp at e1 e2
            subst e1 e2
            exact ⟨0, rfl, rfl⟩
          | succ k =>
            obtain ⟨j, j1, j2⟩ := ih ys k (by simpa using hl) (by simpa using e1) (by simpa using e2)
            cases h with
            | val d' => exact ⟨j + 1, by simpa [tmpD] using j1, by simpa [tmpV] using j2⟩
            | sl i => exact ⟨j, by simpa [tmpD] using j1, by simpa [tmpV] using j2⟩
    obtain ⟨j, j1, j2⟩ := key hs xs k w.len e1 e2
    have hl := w.out.length.1
    exact w.wd.temp (i := φd.length + j) (by rw [List.getElem?_append_right (by omega)]; simpa using j1) (by rw [List.getElem?_append_right (by omega), ← hl]; simpa using j2)
/-- the answer: a value without own objects; the handles are let go -/
theorem WdH.ret (w : WdH K mg H φd φv σd σv hs xs) {d : D} {x : V} (r : RepD K mg H d x []) : WdH K mg H φd φv σd σv [.val d] [x] := ⟨rfl, w.out.push r, fun k i y e => by cases k <;> simp at e⟩
theorem WdH.mono (w : WdH K mg H φd φv σd σv hs xs) (s : Stp H H') (k : ∀ b o, H b = some o → H' b = some o) : WdH K mg H' φd φv σd σv hs xs := ⟨w.len, w.wd.mono s k, w.at_⟩
theorem WdH.fresh (w : WdH K mg H φd φv σd σv hs xs) {p : Addr} {o : HO} (h : H p = none) : WdH K mg (upd H p o) φd φv σd σv hs xs := ⟨w.len, w.wd.fresh h, w.at_⟩
theorem WdH.val {d : D} {x : V} (w : Wd K mg H (φd ++ [d]) (φv ++ [x]) σd σv) : WdH K mg H φd φv σd σv [.val d] [x] := ⟨rfl, w, fun k i y e => by cases k <;> simp at e⟩
theorem xW_drop {hs : List Hd} {xs : List V} (hl : hs.length = xs.length) {c : Str} {ks : List Str} {vs : List D} {σd' : En} (q : xW K mg φd φv σv W c ks vs σd') : xW K mg (φd ++ tmpD hs) (φv ++ tmpV hs xs) σv W c ks vs σd' :=
  fun C d H' w x => q C d H' (w.drop (tmp_length _ _ hl)) x
/-- the next expression, while the handles hs are in hand -/
theorem ted_step {β : Type} {Pk : β → En → Prop} {g : EF} {k : Hd → En → Out β} (w : WdH K mg H φd φv σd σv hs xs) (q : Gd Pk (xW K mg φd φv σv W) ((g σd).bind k)) :
    TEd K mg W g σv H fun y H2 => ∃ h σd2, WdH K mg H2 φd φv σd2 σv (hs ++ [h]) (xs ++ [y]) ∧ Gd Pk (xW K mg φd φv σv W) (k h σd2) :=
  ⟨_, _, σd, w.wd, q.bind.mono (fun h σ2 q2 y H2 w2 => ⟨h, σ2, w.app w2, q2⟩) fun c ks vs σ2 q2 => xW_drop w.len q2⟩
theorem tad_step {β : Type} {Pk : β → En → Prop} {g : AF} {k : List Hd → En → Out β} (w : WdH K mg H φd φv σd σv hs xs) (q : Gd Pk (xW K mg φd φv σv W) ((g σd).bind k)) :
    TAd K mg W g σv H fun ys H2 => ∃ hs2 σd2, WdH K mg H2 φd φv σd2 σv (hs ++ hs2) (xs ++ ys) ∧ Gd Pk (xW K mg φd φv σv W) (k hs2 σd2) :=
  ⟨_, _, σd, w.wd, q.bind.mono (fun h σ2 q2 y H2 w2 => ⟨h, σ2, w.app w2, q2⟩) fun c ks vs σ2 q2 => xW_drop w.len q2⟩
theorem ttd_step {β : Type} {Pk : β → En → Prop} {g : TF} {k : Bool → En → Out β} (w : WdH K mg H φd φv σd σv hs xs) (q : Gd Pk (xW K mg φd φv σv W) ((g σd).bind k)) :
    TTd K mg W g σv H fun b H2 => ∃ σd2, WdH K mg H2 φd φv σd2 σv hs xs ∧ Gd Pk (xW K mg φd φv σv W) (k b σd2) :=
  ⟨_, _, σd, w.wd, q.bind.mono (fun b σ2 q2 H2 w2 => ⟨σ2, ⟨w.len, w2, w.at_⟩, q2⟩) fun c ks vs σ2 q2 => xW_drop w.len q2⟩
end

/-! ### constants, names -/
def eC (d : D) : EF := fun σ => .ok (.val d) σ
def eV (i : Nat) : EF := fun σ => match sget σ i with
  | some _ => .ok (.sl i) σ
  | none => .err
section
variable {X : Cx} {W : WX} {e a b c : Expr} {fa fb fc : EF} {pos : Pos}
theorem le_const {d : D} {v : V} (h : PE X e (tC v)) (r : ∀ H, RepD X.K X.mg H d v []) : LE X W e (eC d) :=
  PE.imp h fun σ H Q ⟨φd, φv, σd, w, q⟩ => q v H (WdH.val (w.push (r H)))
theorem le_int {i : Int} {j pos} : LE X W (.Constant (.int i) j pos) (eC (.int i)) := le_const pe_int fun _ => .int i
theorem le_bl {i : Bool} {j pos} : LE X W (.Constant (.bool i) j pos) (eC (.bl i)) := le_const pe_bl fun _ => .bl i
theorem le_non {j pos} : LE X W (.Constant .none j pos) (eC .non) := le_const pe_non fun _ => .non
theorem le_str {i : Str} {j pos} : LE X W (.Constant (.str i) j pos) (eC (.str i)) := le_const pe_str fun _ => .str i
theorem le_globI {x : Str} {i : Int} {t : Tok} (hg : Gl X x) (hm : X.mg x = some (.int i t)) (hd : (x == ("__debug__" : Str)) = false := by decide) : LE X W (.Name x pos) (eC (.int i)) :=
  le_const (pe_glob (v := .int i) hg hm ⟨t, rfl⟩ hd) fun _ => .int i
theorem le_globF {x : Str} {f : Addr} (hg : Gl X x) (hm : X.mg x = some (.ref f)) (hd : (x == ("__debug__" : Str)) = false := by decide) : LE X W (.Name x pos) (eC (.fn f)) :=
  le_const (pe_glob (v := .ref f) hg hm rfl hd) fun _ => .fn f
theorem le_var {i : Nat} (h : PE X e (tVar i)) : LE X W e (eV i) := PE.imp h fun σ H Q ⟨φd, φv, σd, w, q⟩ => by
  unfold eV at q
  cases e : sget σd i with
  | none => rw [e] at q; exact q.elim
  | some d =>
    rw [e] at q
    obtain ⟨v, f, e1, r⟩ := w.slot (sget_some e)
    refine ⟨v, e1, q v H ⟨rfl, ?_, fun k j x e2 e3 => ?_⟩⟩
    · show Wd X.K X.mg H (φd ++ []) (φv ++ []) σd σ
      rw [List.append_nil, List.append_nil]; exact w
    · cases k with
      | zero => simp at e2 e3; subst e2 e3; exact e1
      | succ k => simp at e2
/-! ### two operands -/
def eBin (op : D → D → Option D) (fa fb : EF) : EF := fun σ => (fa σ).bind fun ha σ1 => (fb σ1).bind fun hb σ2 => match deref ha σ2, deref hb σ2 with
  | some x, some y => match op x y with
    | some d => .ok (.val d) σ2
    | none => .err
  | _, _ => .err
/-- an operator by values: what op tells of two trees, the rule r does -/
def OpD (K : PySem.W.Frag) (mg : Str → Option Value) (op : D → D → Option D) (r : R2) : Prop :=
  ∀ (H : Hp) (x y : V) (a b d : D) (f g : List Addr) (φd : List D) (φv : List V) (σd : En) (σv : L2.St) (Q : VK), RepD K mg H a x f → RepD K mg H b y g → op a b = some d → Wd K mg H φd φv σd σv →
    (∀ z H', Wd K mg H' (φd ++ [d]) (φv ++ [z]) σd σv → Q z H') → r x y H Q
theorem tBin {op : D → D → Option D} {r : R2} (ho : OpD X.K X.mg op r) {σv : L2.St} {H : Hp} {Q : VK} (h : TEd X.K X.mg W (eBin op fa fb) σv H Q) : tOp r (TEd X.K X.mg W fa) (TEd X.K X.mg W fb) σv H Q := by
  obtain ⟨φd, φv, σd, w, q⟩ := h
  obtain ⟨φd1, φv1, σd1, w1, q1⟩ := ted_step (WdH.nil w) q
  refine ⟨φd1, φv1, σd1, w1, q1.mono (fun h1 σ1 k y H1 w1 => ?_) fun _ _ _ _ q => q⟩
  obtain ⟨h', σ', w', q'⟩ := k y H1 w1
  obtain ⟨φd2, φv2, σd2, w2, q2⟩ := ted_step w' q'
  refine ⟨φd2, φv2, σd2, w2, q2.mono (fun h2 σ2 k2 z H2 w2 => ?_) fun _ _ _ _ q => q⟩
  obtain ⟨h'', σ'', w'', q''⟩ := k2 z H2 w2
  split at q''
  · rename_i x' y' e1 e2
    split at q''
    · rename_i d e3
      obtain ⟨f, r1⟩ := w''.rep (k := 0) rfl rfl e1
      obtain ⟨g, r2⟩ := w''.rep (k := 1) rfl rfl e2
      exact ho H2 y z _ _ d f g φd φv σ'' σv Q r1 r2 e3 w''.out fun z' H' w3 => q'' z' H' (WdH.val w3)
    · exact q''.elim
  · exact q''.elim
theorem le_bin {o : Operator} {op : D → D → Option D} {r : R2} (hr : OpR X (binaryOp o) r) (ho : OpD X.K X.mg op r) (ha : LE X W a fa) (hb : LE X W b fb) : LE X W (.BinOp a o b pos) (eBin op fa fb) :=
  PE.imp (pe_op hr ha hb) fun _ _ _ => tBin ho
theorem le_cmp {o : CmpOp} {op : D → D → Option D} {r : R2} (hr : OpR X (compareOp o) r) (ho : OpD X.K X.mg op r) (ha : LE X W a fa) (hb : LE X W b fb) (hm : behindInMarks o b = false := by first | exact nomark _ | rfl) : LE X W (.Compare a [o] [b] pos) (eBin op fa fb) :=
  PE.imp (pe_cmpR hr ha hb hm) fun _ _ _ => tBin ho
end
end DL
namespace DL
open PySem PySem.Spec PyProof.Rows L2

/-! ### operators by trees -/
abbrev RD := D → D → Option D
section
variable {K : PySem.W.Frag} {mg : Str → Option Value}
theorem opd_or {op : RD} {r r' : R2} (p : D → D → Prop) (h : ∀ (H : Hp) (x y : V) (a b d : D) (f g : List Addr) (φd : List D) (φv : List V) (σd : List (Option D)) (σv : L2.St) (Q : VK), RepD K mg H a x f → RepD K mg H b y g → op a b = some d → Wd K mg H φd φv σd σv →
    (∀ z H', Wd K mg H' (φd ++ [d]) (φv ++ [z]) σd σv → Q z H') → r x y H Q ∨ r' x y H Q) : OpD K mg op (fun x y H Q => r x y H Q ∨ r' x y H Q) := h
/-- two ints -/
theorem opd_int {C : Int → Int → Prop} [∀ i j, Decidable (C i j)] {g : Int → Int → V} {gd : Int → Int → D} {op : RD} (hg : ∀ i j H, RepD K mg H (gd i j) (g i j) []) (hop : ∀ a b d, op a b = some d → ∃ i j, a = .int i ∧ b = .int j ∧ C i j ∧ d = gd i j) : OpD K mg op (rI C g) := by
  intro H x y a b d f g' φd φv σd σv Q ra rb e w k
  obtain ⟨i, j, rfl, rfl, c, rfl⟩ := hop _ _ _ e
  cases ra; cases rb
  exact ⟨i, j, rfl, rfl, c, k _ H (w.push (hg i j H))⟩
theorem opd_int0 {g : Int → Int → V} {gd : Int → Int → D} {op : RD} (hg : ∀ i j H, RepD K mg H (gd i j) (g i j) []) (hop : ∀ a b d, op a b = some d → ∃ i j, a = .int i ∧ b = .int j ∧ d = gd i j) : OpD K mg op (rI0 g) := by
  intro H x y a b d f g' φd φv σd σv Q ra rb e w k
  obtain ⟨i, j, rfl, rfl, rfl⟩ := hop _ _ _ e
  cases ra; cases rb
  exact ⟨i, j, rfl, rfl, k _ H (w.push (hg i j H))⟩
end

/-- list + list, what is frozen too -/
def rCatR : R2 := fun x y H Q => ∃ l b xs zs, x = .ref l ∧ y = .ref b ∧ Rd H l (.lst xs) ∧ Rd H b (.lst zs) ∧ xs.length + zs.length ≤ sizeLine ∧ ∀ p, H p = none → Q (.ref p) (upd H p (.lst (xs ++ zs)))
theorem op_catR {X : Cx} : OpR X (binaryOp .Add) rCatR := by
  intro pins s σ H x y v u Q I rx ry h
  obtain ⟨l, b, xs, zs, rfl, rfl, hH, hB, hz, q⟩ := h
  cases rx
  cases ry
  obtain ⟨z, its, n, r, e⟩ := hH.ok I.hok
  obtain ⟨z2, its2, n2, r2, e2⟩ := hB.ok I.hok
  have hl := r.length
  have hl2 := r2.length
  refine PySem.P.add_list e e2 ?_ (by rw [List.size_toArray, List.size_toArray]; omega)
  have ea : its.toArray ++ its2.toArray = (its ++ its2).toArray := by simp
  rw [ea]
  exact ⟨.ref _, _, I.lnew (t' := s.toks) (r.append r2) (by rw [List.length_append]; omega), rfl, q _ I.fresh⟩

/-! ### + -/
def dAdd : RD
  | .int i, .int j => some (.int (i + j))
  | .str a, .str b => if a.length + b.length ≤ 16777216 then some (.str (a ++ b)) else none
  | .tup a, .tup b => if a.length + b.length ≤ 16777216 then some (.tup (a ++ b)) else none
  | .lst _ a, .lst _ b => if a.all fz && b.all fz && decide (a.length + b.length ≤ 16777216) then some (.lst true (a ++ b)) else none
  | _, _ => none
section
variable {K : PySem.W.Frag} {mg : Str → Option Value}
theorem RepD.lst_inv {H : Hp} {o : Bool} {ds : List D} {x : V} {f : List Addr} (h : RepD K mg H (.lst o ds) x f) : ∃ a xs g, x = .ref a ∧ Rd H a (.lst xs) ∧ RepL K mg H ds xs g ∧ ∀ b ∈ g, b ∈ f := by
  cases h with
  | lstF h r => obtain ⟨o, h⟩ := h; exact ⟨_, _, _, rfl, .inr ⟨o, h⟩, r, fun b hb => nomatch hb⟩
  | lstO h r => exact ⟨_, _, _, rfl, .inl h, r, fun b hb => List.mem_cons_of_mem _ hb⟩
theorem RepD.tup_inv {H : Hp} {ds : List D} {x : V} {f : List Addr} (h : RepD K mg H (.tup ds) x f) : ∃ a xs, x = .ref a ∧ SqT K H a xs ∧ RepL K mg H ds xs [] ∧ f = [] := by
  cases h with | tup h r => exact ⟨_, _, rfl, h, r, rfl⟩
abbrev rAddD (K : PySem.W.Frag) : R2 := fun x y H Q => rI0 (fun i j => .int (i + j)) x y H Q ∨ ((∃ i j, x = .str i ∧ y = .str j ∧ i.length + j.length ≤ sizeLine ∧ Q (.str (i ++ j)) H) ∨ (rCatA K x y H Q ∨ rCatR x y H Q))
theorem opd_add : OpD K mg dAdd (rAddD K) := by
  intro H x y a b d f g φd φv σd σv Q ra rb e w k
  unfold dAdd at e
  split at e
  · cases e; cases ra; cases rb
    exact .inl ⟨_, _, rfl, rfl, k _ H (w.push (.int _))⟩
  · split at e
    · rename_i hz
      cases e; cases ra; cases rb
      exact .inr (.inl ⟨_, _, rfl, rfl, by rw [sizeLine_eq]; exact hz, k _ H (w.push (.str _))⟩)
    · cases e
  · split at e
    · rename_i hz
      cases e
      have ra' := ra; have rb' := rb
      obtain ⟨p, xs, rfl, hp, rp, rfl⟩ := ra.tup_inv
      obtain ⟨q, ys, rfl, hq, rq, rfl⟩ := rb.tup_inv
      refine .inr (.inr (.inl ⟨p, q, xs, ys, rfl, rfl, hp, hq, by rw [← rp.length, ← rq.length, sizeLine_eq]; exact hz, fun z => ?_, fun _ z => ?_, fun _ _ t ht => ?_⟩))
      · subst z; cases rp; exact k _ H (w.push rb')
      · subst z; cases rq; rw [List.append_nil] at k; exact k _ H (w.push ra')
      · have st : Stp H (upd H t (.tup (xs ++ ys))) := Stp.fresh ht
        refine k _ _ ((w.fresh ht).push (.tup (.inl (.inl upd_same)) ?_))
        exact (rp.append rq).mono st _ fun b hb => nomatch hb
    · cases e
  · split at e
    · rename_i hz
      simp only [Bool.and_eq_true, decide_eq_true_eq] at hz
      obtain ⟨⟨z1, z2⟩, z3⟩ := hz
      cases e
      obtain ⟨p, xs, g1, rfl, hp, rp, _⟩ := ra.lst_inv
      obtain ⟨q, ys, g2, rfl, hq, rq, _⟩ := rb.lst_inv
      have e1 := rp.fz z1
      have e2 := rq.fz z2
      subst e1 e2
      refine .inr (.inr (.inr ⟨p, q, xs, ys, rfl, rfl, hp, hq, by rw [← rp.length, ← rq.length, sizeLine_eq]; exact z3, fun t ht => ?_⟩))
      have rr := rp.append rq
      exact k _ _ ((w.pushL rr).newList rr.length ht)
    · cases e
  · cases e
end
theorem or_add {X : Cx} : OpR X (binaryOp .Add) (rAddD X.K) := OpR.or op_add (OpR.or op_add_str (OpR.or op_catA op_catR))

/-! ### - * // % ** -/
def dSub : RD
  | .int i, .int j => some (.int (i - j))
  | _, _ => none
theorem opd_sub {K mg} : OpD K mg dSub (rI0 fun i j => .int (i - j)) := opd_int0 (gd := fun i j => .int (i - j)) (fun i j H => .int _) fun a b d e => by
  unfold dSub at e
  split at e
  · cases e; exact ⟨_, _, rfl, rfl, rfl⟩
  · cases e
instance (i j : Int) : Decidable (CMul i j) := by unfold CMul; exact inferInstance
instance (i j : Int) : Decidable (CDivN i j) := by unfold CDivN; exact inferInstance
instance (i j : Int) : Decidable (CPow i j) := by unfold CPow; exact inferInstance
/-- tuple * int, all cases -/
def rRepA (K : PySem.W.Frag) : R2 := fun x y H Q => ∃ l k xs, x = .ref l ∧ y = .int k ∧ SqT K H l xs ∧ -1000 ≤ k ∧ k ≤ 1000 ∧ xs.length ≤ 1000 ∧ (xs = [] ∨ k = 1 → Q (.ref l) H) ∧ (xs ≠ [] → k ≠ 1 → ∀ p, H p = none → Q (.ref p) (upd H p (.tup (List.replicate k.toNat xs).flatten)))
theorem tuple_mulS (l : Addr) (items : Array Value) (n : Nat) (dd : Option Addr) (sl : Array (Option Value)) (x : Int) (u : Tok) (c0 : (decide (x < -(2 ^ 63)) || decide (x ≥ 2 ^ 63)) = false) (c1 : (items.isEmpty || x == 1) = true) :
    Meets (Builtin.«tuple.__mul__» ⟨[.ref l, .int x u], []⟩) (fun _ R s => s.heap.get? l = some { cls := .type "tuple", dict := dd, data := .seq items n, slots := sl } ∧ R (.ok (.ret (Value.ref l))) s) :=
  .of_wp fun prog w A R s h => by
    obtain ⟨hp, g, d, tk, os⟩ := s
    obtain ⟨hl, h⟩ := h
    have f1 := AutoSeq1.idx_int
    wp_walk using wpAny_loadPart' hl
    repeat (first
      | (refine wpAny_ite_false (decide_eq_false (by rw [c0]; exact Bool.false_ne_true)) ?_; wp_walk using wpAny_loadPart' hl)
      | (refine wpAny_ite_true (decide_eq_true (by rw [c1])) ?_; wp_walk using wpAny_loadPart' hl))
    exact ⟨_, rfl, h⟩
theorem tuple_mul0 (l : Addr) (items : Array Value) (n : Nat) (dd : Option Addr) (sl : Array (Option Value)) (x : Int) (u : Tok) (c0 : (decide (x < -(2 ^ 63)) || decide (x ≥ 2 ^ 63)) = false) (c1 : (items.isEmpty || x == 1) = false) (c2 : (decide (x ≤ 0) || items.isEmpty) = true) :
    Meets (Builtin.«tuple.__mul__» ⟨[.ref l, .int x u], []⟩) (fun _ R s => s.heap.get? l = some { cls := .type "tuple", dict := dd, data := .seq items n, slots := sl } ∧
      R (.ok (.ret (Value.ref s.heap.objs.size))) { s with heap := s.heap.push { cls := Value.type "tuple", data := Data.seq #[] }, toks := s.toks }) :=
  .of_wp fun prog w A R s h => by
    obtain ⟨hp, g, d, tk, os⟩ := s
    obtain ⟨hl, h⟩ := h
    have f1 := AutoSeq1.idx_int
    have hz : (#[] : Array Value).size ≤ sizeLine := by rw [sizeLine_eq]; decide
    wp_walk using wpAny_loadPart' hl
    repeat (first
      | (refine wpAny_ite_false (decide_eq_false (by rw [c0]; exact Bool.false_ne_true)) ?_; wp_walk using wpAny_loadPart' hl)
      | (refine wpAny_ite_false (decide_eq_false (by rw [c1]; exact Bool.false_ne_true)) ?_; wp_walk using wpAny_loadPart' hl)
      | (refine wpAny_ite_true (decide_eq_true (by rw [c2])) ?_; wp_walk using wpAny_loadPart' hl)
      | (refine wpAny_ite_false (decide_eq_false (Nat.not_lt.mpr hz)) ?_; wp_walk using wpAny_loadPart' hl))
    exact ⟨_, rfl, h⟩
theorem op_repA {X : Cx} : OpR X (binaryOp .Mult) (rRepA X.K) := by
  intro pins s σ H x y v u Q I rx ry h
  obtain ⟨l, k, xs, rfl, rfl, hT, h1, h2, hz, q1, q2⟩ := h
  by_cases hs : xs = [] ∨ k = 1
  · cases rx
    obtain ⟨t, rfl⟩ := ry
    obtain ⟨its, r, ⟨⟨cls, dd, data, sl⟩, ho, hc, n, hd⟩, hsz⟩ := I.tuple hT
    simp only at hc hd
    subst hc hd
    have c0 : (decide (k < -(2 ^ 63)) || decide (k ≥ 2 ^ 63)) = false := by
      rw [decide_eq_false (by omega), decide_eq_false (by omega)] <;> rfl
    have c1 : (its.toArray.isEmpty || k == 1) = true := by
      rcases hs with e | e
      · subst e; cases r; rfl
      · subst e; simp
    refine wpAny_binaryOp_repeat_ref (T := "tuple") (U := "int") (by decide) ⟨_, ho, rfl⟩ (fun s' => typeIs_int s' k t) noFill_tuple_mul F.fills_int_mul F.slot_int_rmul repeat_tuple F.slot_int_index.lookup
      (call_meets F.slot_int_rmul (typeIs_int s k t) F.entry_int_rmul (F.args_int_rmul_2 _ _) (int_rmul_tuple k t l its.toArray n dd sl)
        ⟨ho, rfl, ⟨_, ho, rfl⟩, call_meets F.slot_tuple_mul ⟨_, ho, rfl⟩ F.entry_tuple_mul (F.args_tuple_mul_2 _ _) (tuple_mulS l its.toArray n dd sl k t c0 c1) ⟨ho, ?_⟩⟩)
    exact ⟨.ref l, H, I, rfl, q1 hs⟩
  · have hne : xs ≠ [] := fun z => hs (.inl z)
    have hk1 : k ≠ 1 := fun z => hs (.inr z)
    by_cases hk : 2 ≤ k
    · exact op_repT pins s σ H _ _ v u Q I rx ry ⟨l, k, xs, rfl, rfl, hT, hne, hk, h2, hz, q2 hne hk1⟩
    · cases rx
      obtain ⟨t, rfl⟩ := ry
      obtain ⟨its, r, ⟨⟨cls, dd, data, sl⟩, ho, hc, n, hd⟩, hsz⟩ := I.tuple hT
      simp only at hc hd
      subst hc hd
      have c0 : (decide (k < -(2 ^ 63)) || decide (k ≥ 2 ^ 63)) = false := by
        rw [decide_eq_false (by omega), decide_eq_false (by omega)] <;> rfl
      have hi : its.toArray.isEmpty = false := by
        cases r with
        | nil => exact absurd rfl hne
        | cons a b => rfl
      have c1 : (its.toArray.isEmpty || k == 1) = false := by
        rw [hi, Bool.false_or]
        exact beq_eq_false_iff_ne.mpr hk1
      have c2 : (decide (k ≤ 0) || its.toArray.isEmpty) = true := by
        rw [decide_eq_true (by omega)]; rfl
      have e0 : k.toNat = 0 := by omega
      refine wpAny_binaryOp_repeat_ref (T := "tuple") (U := "int") (by decide) ⟨_, ho, rfl⟩ (fun s' => typeIs_int s' k t) noFill_tuple_mul F.fills_int_mul F.slot_int_rmul repeat_tuple F.slot_int_index.lookup
        (call_meets F.slot_int_rmul (typeIs_int s k t) F.entry_int_rmul (F.args_int_rmul_2 _ _) (int_rmul_tuple k t l its.toArray n dd sl)
          ⟨ho, rfl, ⟨_, ho, rfl⟩, call_meets F.slot_tuple_mul ⟨_, ho, rfl⟩ F.entry_tuple_mul (F.args_tuple_mul_2 _ _) (tuple_mul0 l its.toArray n dd sl k t c0 c1 c2) ⟨ho, ?_⟩⟩)
      have q := q2 hne hk1
      rw [e0] at q
      refine ⟨.ref s.heap.objs.size, _, I.laid (t' := s.toks) (o := .tup []) (fun b ob q => Heap.get?_push_of_some _ q) (Nat.le_refl _) ?_, rfl, q _ (I.hok.fresh (Nat.le_refl _))⟩
      exact ⟨by show 0 ≤ sizeLine; exact Nat.zero_le _, [], .nil, IsTup.new _ _⟩
/-- list * int: an own list whose items stand -/
def dMul : RD
  | .int i, .int j => if CMul i j then some (.int (i * j)) else none
  | .tup a, .int k => if -1000 ≤ k ∧ k ≤ 1000 ∧ a.length ≤ 1000 then some (.tup (List.replicate k.toNat a).flatten) else none
  | .lst true a, .int k => if a.all fz ∧ -1000 ≤ k ∧ k ≤ 1000 ∧ a.length ≤ 1000 then some (.lst true (List.replicate k.toNat a).flatten) else none
  | _, _ => none
theorem RepL.rep {K mg} {H : Hp} {ds : List D} {xs : List V} (h : RepL K mg H ds xs []) : ∀ k : Nat, RepL K mg H (List.replicate k ds).flatten (List.replicate k xs).flatten []
  | 0 => .nil
  | k + 1 => by
    show RepL K mg H (ds ++ (List.replicate k ds).flatten) (xs ++ (List.replicate k xs).flatten) []
    exact h.append (RepL.rep h k)
abbrev rMulD (K : PySem.W.Frag) : R2 := fun x y H Q => rI CMul (fun i j => .int (i * j)) x y H Q ∨ (rRepA K x y H Q ∨ rRep x y H Q)
theorem opd_mul {K mg} : OpD K mg dMul (rMulD K) := by
  intro H x y a b d f g φd φv σd σv Q ra rb e w k
  unfold dMul at e
  split at e
  · split at e
    · rename_i c; cases e; cases ra; cases rb
      exact .inl ⟨_, _, rfl, rfl, c, k _ H (w.push (.int _))⟩
    · cases e
  · split at e
    · rename_i i hz
      cases e
      have ra' := ra
      obtain ⟨p, xs, rfl, hp, rp, rfl⟩ := ra.tup_inv
      cases rb
      refine .inr (.inl ⟨p, _, xs, rfl, rfl, hp, hz.1, hz.2.1, by rw [← rp.length]; exact hz.2.2, fun z => ?_, fun _ _ t ht => ?_⟩)
      · rcases z with z | z
        · subst z; cases rp
          have e2 : (List.replicate i.toNat ([] : List D)).flatten = [] := by simp
          rw [e2] at k
          exact k _ H (w.push ra')
        · subst z
          have e2 : ∀ (a : List D), (List.replicate (1 : Int).toNat a).flatten = a := fun a => by simp
          rw [e2] at k
          exact k _ H (w.push ra')
      · have st : Stp H (upd H t (.tup (List.replicate i.toNat xs).flatten)) := Stp.fresh ht
        exact k _ _ ((w.fresh ht).push (.tup (.inl (.inl upd_same)) ((rp.rep _).mono st _ fun b hb => nomatch hb)))
    · cases e
  · split at e
    · rename_i i hz
      cases e
      cases rb
      cases ra with
      | lstO h r =>
        have e1 := r.fz hz.1
        subst e1
        have hl := r.length
        refine .inr (.inr ⟨_, i, _, rfl, rfl, h, by omega, by omega, ?_, fun t ht => ?_⟩)
        · rw [sizeLine_eq]
          have b1 : ∀ n : Nat, n ≤ 1000 → n * i.toNat ≤ 16777216 := fun n hn =>
            Nat.le_trans (Nat.mul_le_mul hn (by omega : i.toNat ≤ 1000)) (by decide)
          exact b1 _ (by omega)
        · have rr := r.rep i.toNat
          exact k _ _ ((w.pushL rr).newList rr.length ht)
    · cases e
  · cases e
theorem or_mul {X : Cx} : OpR X (binaryOp .Mult) (rMulD X.K) := OpR.or op_mul (OpR.or op_repA op_rep)
def dFdiv : RD
  | .int i, .int j => if CDivN i j then some (.int (i.fdiv j)) else none
  | _, _ => none
theorem opd_fdiv {K mg} : OpD K mg dFdiv (rI CDivN fun i j => .int (i.fdiv j)) := opd_int (gd := fun i j => .int (i.fdiv j)) (fun i j H => .int _) fun a b d e => by
  unfold dFdiv at e
  split at e
  · split at e
    · rename_i c; cases e; exact ⟨_, _, rfl, rfl, c, rfl⟩
    · cases e
  · cases e
def dMod : RD
  | .int i, .int j => if j ≠ 0 then some (.int (i.fmod j)) else none
  | _, _ => none
theorem opd_mod {K mg} : OpD K mg dMod (rI (fun _ j => j ≠ 0) fun i j => .int (i.fmod j)) := opd_int (gd := fun i j => .int (i.fmod j)) (fun i j H => .int _) fun a b d e => by
  unfold dMod at e
  split at e
  · split at e
    · rename_i c; cases e; exact ⟨_, _, rfl, rfl, c, rfl⟩
    · cases e
  · cases e
def dPow : RD
  | .int i, .int j => if CPow i j then some (.int (i ^ j.toNat)) else none
  | _, _ => none
theorem opd_pow {K mg} : OpD K mg dPow (rI CPow fun i j => .int (i ^ j.toNat)) := opd_int (gd := fun i j => .int (i ^ j.toNat)) (fun i j H => .int _) fun a b d e => by
  unfold dPow at e
  split at e
  · split at e
    · rename_i c; cases e; exact ⟨_, _, rfl, rfl, c, rfl⟩
    · cases e
  · cases e

/-! ### comparisons -/
def dCmp (p : Int → Int → Bool) : RD
  | .int i, .int j => some (.bl (p i j))
  | _, _ => none
theorem opd_cmp {K mg} {p : Int → Int → Bool} : OpD K mg (dCmp p) (rI0 fun i j => .bl (p i j)) := opd_int0 (gd := fun i j => .bl (p i j)) (fun i j H => .bl _) fun a b d e => by
  unfold dCmp at e
  split at e
  · cases e; exact ⟨_, _, rfl, rfl, rfl⟩
  · cases e
abbrev dLt : RD := dCmp fun i j => decide (i < j)
abbrev dLe : RD := dCmp fun i j => decide (i ≤ j)
abbrev dGt : RD := dCmp fun i j => decide (j < i)
abbrev dGe : RD := dCmp fun i j => decide (j ≤ i)
mutual
def toP : D → Option PyData
  | .non => some .none
  | .bl b => some (.bool b)
  | .int i => some (.int i)
  | .str s => some (.str s)
  | .tup ds => (toPL ds).map .tuple
  | .lst _ ds => (toPL ds).map .list
  | _ => none
def toPL : List D → Option (List PyData)
  | [] => some []
  | d :: ds => match toP d, toPL ds with
    | some p, some ps => some (p :: ps)
    | _, _ => none
end
section
variable {K : PySem.W.Frag} {mg : Str → Option Value} {H : Hp}
mutual
theorem RepD.dp : ∀ (d : D) {x : V} {f : List Addr} {p : PyData}, RepD K mg H d x f → toP d = some p → Dp K H x p
  | .non, _, _, _, h, e => by cases h; simp [toP] at e; subst e; exact .non
  | .bl b, _, _, _, h, e => by cases h; simp [toP] at e; subst e; exact .bl b
  | .int b, _, _, _, h, e => by cases h; simp [toP] at e; subst e; exact .int b
  | .str b, _, _, _, h, e => by cases h; simp [toP] at e; subst e; exact .str b
  | .ty b, _, _, _, h, e => by simp [toP] at e
  | .fn b, _, _, _, h, e => by simp [toP] at e
  | .dct _ _ _, _, _, _, h, e => by simp [toP] at e
  | .gone, _, _, _, h, e => by simp [toP] at e
  | .exn _ _ _ _ _, _, _, _, h, e => by simp [toP] at e
  | .lam _ _ _ _ _, _, _, _, h, e => by simp [toP] at e
  | .tab _ _, _, _, _, h, e => by simp [toP] at e
  | .scr b, _, _, _, h, e => by simp [toP] at e
  | .ins _ _ _ _, _, _, _, h, e => by simp [toP] at e
  | .tup ds, _, _, _, h, e => by
    simp only [toP, Option.map_eq_some_iff] at e
    obtain ⟨ps, e1, rfl⟩ := e
    obtain ⟨a, xs, rfl, hq, r, _⟩ := h.tup_inv
    exact .tup hq (RepL.dp ds r e1)
  | .lst o ds, _, _, _, h, e => by
    simp only [toP, Option.map_eq_some_iff] at e
    obtain ⟨ps, e1, rfl⟩ := e
    obtain ⟨a, xs, g, rfl, hq, r, _⟩ := h.lst_inv
    exact .lst (.inl hq) (RepL.dp ds r e1)
theorem RepL.dp : ∀ (ds : List D) {xs : List V} {f : List Addr} {ps : List PyData}, RepL K mg H ds xs f → toPL ds = some ps → DpAll K H xs ps
  | [], _, _, _, h, e => by cases h; simp [toPL] at e; subst e; exact .nil
  | d :: ds, _, _, _, h, e => by
    cases h with
    | cons h r =>
      simp only [toPL] at e
      split at e
      · rename_i p ps e1 e2
        cases e
        exact .cons (RepD.dp d h e1) (RepL.dp ds r e2)
      · cases e
end
end
def dEq : RD := fun a b => match toP a, toP b with
  | some p, some q => if SeqAt.shaped p && SeqAt.shaped q then some (.bl (PyData.eqv p q)) else none
  | _, _ => none
def dNe : RD := fun a b => match toP a, toP b with
  | some p, some q => if SeqAt.shaped p && SeqAt.shaped q then some (.bl (!PyData.eqv p q)) else none
  | _, _ => none
theorem opd_eq {K mg} : OpD K mg dEq (rEqD K) := by
  intro H x y a b d f g φd φv σd σv Q ra rb e w k
  unfold dEq at e
  split at e
  · rename_i p q e1 e2
    split at e
    · rename_i hz
      cases e
      obtain ⟨z1, z2⟩ := Bool.and_eq_true_iff.mp hz
      exact ⟨p, q, ra.dp a e1, rb.dp b e2, z1, z2, k _ H (w.push (.bl _))⟩
    · cases e
  · cases e
theorem opd_ne {K mg} : OpD K mg dNe (rNeD K) := by
  intro H x y a b d f g φd φv σd σv Q ra rb e w k
  unfold dNe at e
  split at e
  · rename_i p q e1 e2
    split at e
    · rename_i hz
      cases e
      obtain ⟨z1, z2⟩ := Bool.and_eq_true_iff.mp hz
      exact ⟨p, q, ra.dp a e1, rb.dp b e2, z1, z2, k _ H (w.push (.bl _))⟩
    · cases e
  · cases e
/-- is None, is not None -/
def isNon : D → Bool
  | .non => true
  | _ => false
def isGone : D → Bool
  | .gone => true
  | _ => false
theorem RepD.non_iff {K mg} {H : Hp} {a : D} {x : V} {f : List Addr} (h : RepD K mg H a x f) (z : isGone a = false) : decide (x = .non) = isNon a := by
  cases h <;> first | (simp [isNon]; done) | (simp [isGone] at z)
def dIsN : RD := fun a b => match b with
  | .non => if isGone a = false then some (.bl (isNon a)) else none
  | _ => none
def dNotN : RD := fun a b => match b with
  | .non => if isGone a = false then some (.bl (!isNon a)) else none
  | _ => none
theorem opd_isN {K mg} : OpD K mg dIsN (fun x y H Q => y = .non ∧ Q (.bl (decide (x = .non))) H) := by
  intro H x y a b d f g φd φv σd σv Q ra rb e w k
  unfold dIsN at e
  split at e
  · split at e
    · rename_i z
      cases e; cases rb
      exact ⟨rfl, by rw [ra.non_iff z]; exact k _ H (w.push (.bl _))⟩
    · cases e
  · cases e
theorem opd_notN {K mg} : OpD K mg dNotN (fun x y H Q => y = .non ∧ Q (.bl (!decide (x = .non))) H) := by
  intro H x y a b d f g φd φv σd σv Q ra rb e w k
  unfold dNotN at e
  split at e
  · split at e
    · rename_i z
      cases e; cases rb
      exact ⟨rfl, by rw [ra.non_iff z]; exact k _ H (w.push (.bl _))⟩
    · cases e
  · cases e
/-- is True .. of bools -/
def dIsB : RD
  | .bl a, .bl b => some (.bl (decide (a = b)))
  | _, _ => none
def dNotB : RD
  | .bl a, .bl b => some (.bl (!decide (a = b)))
  | _, _ => none
theorem opd_isB {K mg} : OpD K mg dIsB rIsB := by
  intro H x y a b d f g φd φv σd σv Q ra rb e w k
  unfold dIsB at e
  split at e
  · cases e; cases ra; cases rb
    exact ⟨_, _, rfl, rfl, k _ H (w.push (.bl _))⟩
  · cases e
theorem opd_notB {K mg} : OpD K mg dNotB rNotB := by
  intro H x y a b d f g φd φv σd σv Q ra rb e w k
  unfold dNotB at e
  split at e
  · cases e; cases ra; cases rb
    exact ⟨_, _, rfl, rfl, k _ H (w.push (.bl _))⟩
  · cases e
end DL
namespace DL
open PySem PySem.Spec PyProof.Rows L2

section
variable {K : PySem.W.Frag} {mg : Str → Option Value} {W : WX} {H H' : Hp} {φd : List D} {φv : List V} {σd : En} {σv : L2.St} {hs : List Hd} {xs : List V}
/-- temporaries in the middle are let go -/
theorem Wd.dropMid {ψd χd : List D} {ψv χv : List V} (w : Wd K mg H (φd ++ ψd ++ χd) (φv ++ ψv ++ χv) σd σv) (l1 : ψd.length = ψv.length) (l2 : χd.length = χv.length) : Wd K mg H (φd ++ χd) (φv ++ χv) σd σv := by
  obtain ⟨f, t, g, r1, r2, q, nd⟩ := w.last l2
  obtain ⟨v1, v2, f1, f2, e, rfl, s1, s2⟩ := r1.split
  obtain ⟨e1, e2⟩ := List.append_inj' e (by rw [← s2.length]; exact l1.symm)
  subst e1 e2
  refine Wd.of_last s1 r2 q (List.Nodup.sublist ?_ nd)
  rw [List.append_assoc]
  exact List.Sublist.append_left (List.sublist_append_right _ _) _
/-- the last handle alone -/
theorem WdH.last1 {h : Hd} {x : V} (w : WdH K mg H φd φv σd σv (hs ++ [h]) (xs ++ [x])) : WdH K mg H φd φv σd σv [h] [x] := by
  have hl : hs.length = xs.length := by have := w.len; simp at this; exact this
  refine ⟨rfl, ?_, fun k i y e1 e2 => ?_⟩
  · have w2 := w.wd
    rw [tmpD_append, tmpV_append _ _ _ _ hl, ← List.append_assoc, ← List.append_assoc] at w2
    exact w2.dropMid (tmp_length _ _ hl) (tmp_length _ _ rfl)
  · cases k with
    | zero =>
      simp at e1 e2
      subst e1 e2
      exact w.at_ hs.length i x (by simp) (by rw [hl]; simp)
    | succ k => simp at e1
/-- a value without own objects is laid ahead of the last temporaries -/
theorem Wd.pushMid {ψd : List D} {ψv : List V} (w : Wd K mg H (φd ++ ψd) (φv ++ ψv) σd σv) (l : ψd.length = ψv.length) {d : D} {v : V} (rd : RepD K mg H d v []) : Wd K mg H (φd ++ [d] ++ ψd) (φv ++ [v] ++ ψv) σd σv := by
  obtain ⟨f, t, g, r1, r2, q, nd⟩ := w.last l
  have r3 := r1.append (RepL.one rd)
  rw [List.append_nil] at r3
  exact Wd.of_last r3 r2 q nd
theorem Wd.lastRep {d : D} {v : V} (w : Wd K mg H (φd ++ [d]) (φv ++ [v]) σd σv) (z : fz d = true) : RepD K mg H d v [] := by
  obtain ⟨f, t, g, r1, r2, q, nd⟩ := w.last rfl
  obtain ⟨v', e, rd⟩ := r2.one_inv
  cases e
  have := rd.fz z
  subst this
  exact rd
end

/-! ### tests -/
section
variable {X : Cx} {W : WX} {e a b c : Expr} {rest : List Expr} {fa fb fc : EF} {ta tb : TF} {pos : Pos}
def tVal (f : EF) : TF := fun σ => (f σ).bind fun h σ1 => match deref h σ1 with
  | some (.bl b) => .ok b σ1
  | _ => .err
theorem tVal_good {σv : L2.St} {H : Hp} {Q : Bool → Hp → Prop} (h : TTd X.K X.mg W (tVal fa) σv H Q) : TEd X.K X.mg W fa σv H fun x H1 => ∃ k, x = .bl k ∧ Q k H1 := by
  obtain ⟨φd, φv, σd, w, q⟩ := h
  obtain ⟨φd1, φv1, σd1, w1, q1⟩ := ted_step (WdH.nil w) q
  refine ⟨φd1, φv1, σd1, w1, q1.mono (fun h1 σ1 k y H1 w1 => ?_) fun _ _ _ _ q => q⟩
  obtain ⟨h', σ', w', q'⟩ := k y H1 w1
  split at q'
  · rename_i b e1
    obtain ⟨f, r⟩ := w'.rep (k := 0) rfl rfl e1
    cases r
    exact ⟨b, rfl, q' H1 w'.out⟩
  · exact q'.elim
theorem lt_val (h : LE X W e fa) (he : ∀ whole, isTrue e X.env whole = (do let v ← whole; standAt e.pos; holding [v] (truthy v)) := by intro _; rfl) : LT X W e (tVal fa) :=
  PT.imp (pt_val h he) fun _ _ _ => tVal_good
theorem lt_cmp {o : CmpOp} {op : D → D → Option D} {r : R2} (hr : OpR X (compareOp o) r) (ho : OpD X.K X.mg op r) (ha : LE X W a fa) (hb : LE X W b fb) (hm : behindInMarks o b = false := by first | exact nomark _ | rfl) : LT X W (.Compare a [o] [b] pos) (tVal (eBin op fa fb)) :=
  PT.imp (pt_cmpR hr ha hb hm) fun _ _ _ h => tBin ho (tVal_good h)
def tNotD (t : TF) : TF := fun σ => (t σ).bind fun b σ1 => .ok (!b) σ1
def tAndD (t u : TF) : TF := fun σ => (t σ).bind fun b σ1 => if b = true then u σ1 else .ok false σ1
def tOrD (t u : TF) : TF := fun σ => (t σ).bind fun b σ1 => if b = true then .ok true σ1 else u σ1
theorem lt_not (h : LT X W a ta) : LT X W (.UnaryOp .Not a pos) (tNotD ta) := PT.imp (pt_not h) fun σ H Q ⟨φd, φv, σd, w, q⟩ => by
  obtain ⟨φd1, φv1, σd1, w1, q1⟩ := ttd_step (WdH.nil w) q
  refine ⟨φd1, φv1, σd1, w1, q1.mono (fun b σ1 k H1 w1 => ?_) fun _ _ _ _ q => q⟩
  obtain ⟨σ', w', q'⟩ := k H1 w1
  exact q' H1 w'.out
abbrev LW (X : Cx) (W : WX) (e : Expr) (f : TF) : Prop := PW X e (TTd X.K X.mg W f)
theorem lw_and1 (h : LT X W a ta) : LW X W (.BoolOp .And [a] pos) ta := pw_and1 h
theorem lw_or1 (h : LT X W a ta) : LW X W (.BoolOp .Or [a] pos) ta := pw_or1 h
theorem lw_and (h : LT X W a ta) (k : LW X W (.BoolOp .And (b :: rest) pos) tb) : LW X W (.BoolOp .And (a :: b :: rest) pos) (tAndD ta tb) := PW.imp (pw_and h k) fun σ H Q ⟨φd, φv, σd, w, q⟩ => by
  obtain ⟨φd1, φv1, σd1, w1, q1⟩ := ttd_step (WdH.nil w) q
  refine ⟨φd1, φv1, σd1, w1, q1.mono (fun b σ1 k H1 w1 => ?_) fun _ _ _ _ q => q⟩
  obtain ⟨σ', w', q'⟩ := k H1 w1
  cases b with
  | true => exact ⟨φd, φv, σ', w'.out, q'⟩
  | false => exact q' H1 w'.out
theorem lw_or (h : LT X W a ta) (k : LW X W (.BoolOp .Or (b :: rest) pos) tb) : LW X W (.BoolOp .Or (a :: b :: rest) pos) (tOrD ta tb) := PW.imp (pw_or h k) fun σ H Q ⟨φd, φv, σd, w, q⟩ => by
  obtain ⟨φd1, φv1, σd1, w1, q1⟩ := ttd_step (WdH.nil w) q
  refine ⟨φd1, φv1, σd1, w1, q1.mono (fun b σ1 k H1 w1 => ?_) fun _ _ _ _ q => q⟩
  obtain ⟨σ', w', q'⟩ := k H1 w1
  cases b with
  | true => exact q' H1 w'.out
  | false => exact ⟨φd, φv, σ', w'.out, q'⟩
theorem LW.t (h : LW X W a ta) : LT X W a ta := PW.pt h

/-! ### and, or, not, if as values -/
def eAnd (fa fb : EF) : EF := fun σ => (fa σ).bind fun h σ1 => match deref h σ1 with
  | some (.bl true) => fb σ1
  | some (.bl false) => .ok (.val (.bl false)) σ1
  | _ => .err
def eOr (fa fb : EF) : EF := fun σ => (fa σ).bind fun h σ1 => match deref h σ1 with
  | some (.bl false) => fb σ1
  | some (.bl true) => .ok (.val (.bl true)) σ1
  | _ => .err
def eNot (fa : EF) : EF := fun σ => (fa σ).bind fun h σ1 => match deref h σ1 with
  | some (.bl b) => .ok (.val (.bl (!b))) σ1
  | _ => .err
def eIf (t : TF) (fa fb : EF) : EF := fun σ => (t σ).bind fun b σ1 => if b = true then fa σ1 else fb σ1
theorem le_one {op} (h : LE X W a fa) : LE X W (.BoolOp op [a] pos) fa := pe_one h
theorem le_and (h : LE X W a fa) (k : LE X W (.BoolOp .And (b :: rest) pos) fb) : LE X W (.BoolOp .And (a :: b :: rest) pos) (eAnd fa fb) := PE.imp (pe_and h k) fun σ H Q ⟨φd, φv, σd, w, q⟩ => by
  obtain ⟨φd1, φv1, σd1, w1, q1⟩ := ted_step (WdH.nil w) q
  refine ⟨φd1, φv1, σd1, w1, q1.mono (fun h1 σ1 k y H1 w1 => ?_) fun _ _ _ _ q => q⟩
  obtain ⟨h', σ', w', q'⟩ := k y H1 w1
  split at q'
  · rename_i e1
    obtain ⟨f, r⟩ := w'.rep (k := 0) rfl rfl e1
    cases r
    refine ⟨true, rfl, ?_⟩
    rw [if_pos rfl]
    exact ⟨φd, φv, σ', w'.out, q'⟩
  · rename_i e1
    obtain ⟨f, r⟩ := w'.rep (k := 0) rfl rfl e1
    cases r
    refine ⟨false, rfl, ?_⟩
    rw [if_neg Bool.false_ne_true]
    exact q' (.bl false) H1 (w'.ret (.bl false))
  · exact q'.elim
theorem le_or (h : LE X W a fa) (k : LE X W (.BoolOp .Or (b :: rest) pos) fb) : LE X W (.BoolOp .Or (a :: b :: rest) pos) (eOr fa fb) := PE.imp (pe_or h k) fun σ H Q ⟨φd, φv, σd, w, q⟩ => by
  obtain ⟨φd1, φv1, σd1, w1, q1⟩ := ted_step (WdH.nil w) q
  refine ⟨φd1, φv1, σd1, w1, q1.mono (fun h1 σ1 k y H1 w1 => ?_) fun _ _ _ _ q => q⟩
  obtain ⟨h', σ', w', q'⟩ := k y H1 w1
  split at q'
  · rename_i e1
    obtain ⟨f, r⟩ := w'.rep (k := 0) rfl rfl e1
    cases r
    refine ⟨false, rfl, ?_⟩
    rw [if_neg Bool.false_ne_true]
    exact ⟨φd, φv, σ', w'.out, q'⟩
  · rename_i e1
    obtain ⟨f, r⟩ := w'.rep (k := 0) rfl rfl e1
    cases r
    refine ⟨true, rfl, ?_⟩
    rw [if_pos rfl]
    exact q' (.bl true) H1 (w'.ret (.bl true))
  · exact q'.elim
theorem le_not (h : LE X W a fa) : LE X W (.UnaryOp .Not a pos) (eNot fa) := PE.imp (pe_not h) fun σ H Q ⟨φd, φv, σd, w, q⟩ => by
  obtain ⟨φd1, φv1, σd1, w1, q1⟩ := ted_step (WdH.nil w) q
  refine ⟨φd1, φv1, σd1, w1, q1.mono (fun h1 σ1 k y H1 w1 => ?_) fun _ _ _ _ q => q⟩
  obtain ⟨h', σ', w', q'⟩ := k y H1 w1
  split at q'
  · rename_i b e1
    obtain ⟨f, r⟩ := w'.rep (k := 0) rfl rfl e1
    cases r
    exact ⟨b, rfl, q' (.bl (!b)) H1 (w'.ret (.bl _))⟩
  · exact q'.elim
theorem le_if (h : LT X W c ta) (ha : LE X W a fa) (hb : LE X W b fb) : LE X W (.IfExp c a b pos) (eIf ta fa fb) := PE.imp (pe_ifExp h ha hb) fun σ H Q ⟨φd, φv, σd, w, q⟩ => by
  obtain ⟨φd1, φv1, σd1, w1, q1⟩ := ttd_step (WdH.nil w) q
  refine ⟨φd1, φv1, σd1, w1, q1.mono (fun b σ1 k H1 w1 => ?_) fun _ _ _ _ q => q⟩
  obtain ⟨σ', w', q'⟩ := k H1 w1
  cases b with
  | true => rw [if_pos rfl] at q' ⊢; exact ⟨φd, φv, σ', w'.out, q'⟩
  | false => rw [if_neg Bool.false_ne_true] at q' ⊢; exact ⟨φd, φv, σ', w'.out, q'⟩

/-! ### a op b op' c -/
def eChain (op op' : D → D → Option D) (fa fb fc : EF) : EF := fun σ => (fa σ).bind fun ha σ1 => (fb σ1).bind fun hb σ2 => match deref ha σ2, deref hb σ2 with
  | some x, some y => match op x y with
    | some (.bl true) => (fc σ2).bind fun hc σ3 => match deref hb σ3, deref hc σ3 with
      | some y', some z => match op' y' z with
        | some d => .ok (.val d) σ3
        | none => .err
      | _, _ => .err
    | some (.bl false) => .ok (.val (.bl false)) σ2
    | _ => .err
  | _, _ => .err
theorem tChain_good {op op' : D → D → Option D} {r r' : R2} (ho : OpD X.K X.mg op r) (ho' : OpD X.K X.mg op' r') {σv : L2.St} {H : Hp} {Q : VK} (h : TEd X.K X.mg W (eChain op op' fa fb fc) σv H Q) :
    tChain r r' (TEd X.K X.mg W fa) (TEd X.K X.mg W fb) (TEd X.K X.mg W fc) σv H Q := by
  obtain ⟨φd, φv, σd, w, q⟩ := h
  obtain ⟨φd1, φv1, σd1, w1, q1⟩ := ted_step (WdH.nil w) q
  refine ⟨φd1, φv1, σd1, w1, q1.mono (fun h1 σ1 k y H1 w1 => ?_) fun _ _ _ _ q => q⟩
  obtain ⟨h', σ', w', q'⟩ := k y H1 w1
  obtain ⟨φd2, φv2, σd2, w2, q2⟩ := ted_step w' q'
  refine ⟨φd2, φv2, σd2, w2, q2.mono (fun h2 σ2 k2 z H2 w2 => ?_) fun _ _ _ _ q => q⟩
  obtain ⟨h'', σ'', w'', q''⟩ := k2 z H2 w2
  split at q''
  · rename_i x' y' e1 e2
    obtain ⟨f, r1⟩ := w''.rep (k := 0) rfl rfl e1
    obtain ⟨g, r2⟩ := w''.rep (k := 1) rfl rfl e2
    split at q''
    · rename_i e3
      refine ho H2 y z _ _ _ f g _ _ σ'' σv _ r1 r2 e3 w''.wd fun t H3 w3 => ?_
      have rt := w3.lastRep rfl
      cases rt
      refine ⟨true, rfl, ?_⟩
      rw [if_pos rfl]
      have w4 : WdH X.K X.mg H3 φd φv σ'' σv ([] ++ [h'] ++ [h'']) ([] ++ [y] ++ [z]) := ⟨w''.len, w3.drop rfl, w''.at_⟩
      obtain ⟨φd3, φv3, σd3, w5, q5⟩ := ted_step w4 q''
      refine ⟨φd3, φv3, σd3, w5, q5.mono (fun h3 σ3 k3 u H4 w6 => ?_) fun _ _ _ _ q => q⟩
      obtain ⟨h7, σ7, w7, q7⟩ := k3 u H4 w6
      split at q7
      · rename_i y2 z2 e5 e6
        obtain ⟨f5, r5⟩ := w7.rep (k := 1) rfl rfl e5
        obtain ⟨f6, r6⟩ := w7.rep (k := 2) rfl rfl e6
        split at q7
        · rename_i d e7
          exact ho' H4 z u _ _ _ f5 f6 φd φv σ7 σv Q r5 r6 e7 w7.out fun t' H5 w8 => q7 t' H5 (WdH.val w8)
        · exact q7.elim
      · exact q7.elim
    · rename_i e3
      refine ho H2 y z _ _ _ f g _ _ σ'' σv _ r1 r2 e3 w''.out fun t H3 w3 => ?_
      have rt := w3.lastRep rfl
      cases rt
      refine ⟨false, rfl, ?_⟩
      rw [if_neg Bool.false_ne_true]
      exact q'' _ H3 (WdH.val w3)
    · exact q''.elim
  · exact q''.elim
theorem le_chain {o o' : CmpOp} {op op' : D → D → Option D} {r r' : R2} (hr : OpR X (compareOp o) r) (ho : OpD X.K X.mg op r) (hr' : OpR X (compareOp o') r') (ho' : OpD X.K X.mg op' r') (ha : LE X W a fa) (hb : LE X W b fb) (hc : LE X W c fc)
    (hm : lastMarks [o, o'] [b, c] = false := by with_unfolding_all rfl) : LE X W (.Compare a [o, o'] [b, c] pos) (eChain op op' fa fb fc) := PE.imp (pe_chain hr hr' ha hb hc hm) fun _ _ _ => tChain_good ho ho'
theorem lt_chain {o o' : CmpOp} {op op' : D → D → Option D} {r r' : R2} (hr : OpR X (compareOp o) r) (ho : OpD X.K X.mg op r) (hr' : OpR X (compareOp o') r') (ho' : OpD X.K X.mg op' r') (ha : LE X W a fa) (hb : LE X W b fb) (hc : LE X W c fc)
    (hm : lastMarks [o, o'] [b, c] = false := by with_unfolding_all rfl) : LT X W (.Compare a [o, o'] [b, c] pos) (tVal (eChain op op' fa fb fc)) := PT.imp (pt_chain hr hr' ha hb hc hm) fun _ _ _ h => tChain_good ho ho' (tVal_good h)

/-! ### one operand, by a function of its tree -/
def eUn (op : D → Option D) (fa : EF) : EF := fun σ => (fa σ).bind fun ha σ1 => match deref ha σ1 with
  | some x => match op x with
    | some d => .ok (.val d) σ1
    | none => .err
  | none => .err
def UnD (K : PySem.W.Frag) (mg : Str → Option Value) (op : D → Option D) (r : V → Hp → VK → Prop) : Prop :=
  ∀ (H : Hp) (x : V) (a d : D) (f : List Addr) (φd : List D) (φv : List V) (σd : List (Option D)) (σv : L2.St) (Q : VK), RepD K mg H a x f → op a = some d → Wd K mg H φd φv σd σv →
    (∀ z H', Wd K mg H' (φd ++ [d]) (φv ++ [z]) σd σv → Q z H') → r x H Q
theorem tUn_good {op : D → Option D} {r : V → Hp → VK → Prop} (ho : UnD X.K X.mg op r) {σv : L2.St} {H : Hp} {Q : VK} (h : TEd X.K X.mg W (eUn op fa) σv H Q) : TEd X.K X.mg W fa σv H fun x H1 => r x H1 Q := by
  obtain ⟨φd, φv, σd, w, q⟩ := h
  obtain ⟨φd1, φv1, σd1, w1, q1⟩ := ted_step (WdH.nil w) q
  refine ⟨φd1, φv1, σd1, w1, q1.mono (fun h1 σ1 k y H1 w1 => ?_) fun _ _ _ _ q => q⟩
  obtain ⟨h', σ', w', q'⟩ := k y H1 w1
  split at q'
  · rename_i x' e1
    split at q'
    · rename_i d e3
      obtain ⟨f, r1⟩ := w'.rep (k := 0) rfl rfl e1
      exact ho H1 y _ _ f φd φv σ' σv Q r1 e3 w'.out fun z' H' w3 => q' z' H' (WdH.val w3)
    · exact q'.elim
  · exact q'.elim
theorem le_un {o : UnaryOp} {op : D → Option D} {r : V → Hp → VK → Prop} (hr : UnR X (unaryOp o) r) (ho : UnD X.K X.mg op r) (ha : LE X W a fa) : LE X W (.UnaryOp o a pos) (eUn op fa) := PE.imp (pe_un hr ha) fun _ _ _ => tUn_good ho
def dNeg : D → Option D
  | .int i => some (.int (-i))
  | _ => none
theorem und_neg {K mg} : UnD K mg dNeg (rU fun i => .int (-i)) := by
  intro H x a d f φd φv σd σv Q ra e w k
  unfold dNeg at e
  split at e
  · cases e; cases ra
    exact ⟨_, rfl, k _ H (w.push (.int _))⟩
  · cases e
/-- a built-in of one argument -/
theorem le_call1 {x : Str} {p : Pos} {id : String} {op : D → Option D} {r : List V → Hp → VK → Prop} (hc : CallR X (.builtin id) r) (ho : UnD X.K X.mg op (fun v H Q => r [v] H Q)) (hg : Gl X x) (hm : X.mg x = none) (hv : bootBuiltins x = some (.builtin id)) (ha : LE X W a fa) (hn : x ≠ "__name__" := by decide) (hdb : (x == ("__debug__" : Str)) = false := by decide)
    (hs : starEach [a] X.env = (false, eval a X.env) :: starEach [] X.env := by rfl) (hpl : (backTo pos (starEach [] X.env)).any (·.1) = false := by rfl) : LE X W (.Call (.Name x p) [a] [] pos) (eUn op fa) :=
  PE.imp (pe_callB hc hg hm hv (pa_cons ha pa_nil hs) hn hdb hs hpl) fun _ _ _ h => tUn_good ho h
theorem le_callT1 {x : Str} {p : Pos} {T : String} {op : D → Option D} {r : List V → Hp → VK → Prop} (hc : CallR X (.type T) r) (ho : UnD X.K X.mg op (fun v H Q => r [v] H Q)) (hg : Gl X x) (hm : X.mg x = none) (hv : bootBuiltins x = some (.type T)) (ha : LE X W a fa) (hn : x ≠ "__name__" := by decide) (hdb : (x == ("__debug__" : Str)) = false := by decide)
    (hs : starEach [a] X.env = (false, eval a X.env) :: starEach [] X.env := by rfl) (hpl : (backTo pos (starEach [] X.env)).any (·.1) = false := by rfl) : LE X W (.Call (.Name x p) [a] [] pos) (eUn op fa) :=
  PE.imp (pe_callTy hc hg hm hv (pa_cons ha pa_nil hs) hn hdb hs hpl) fun _ _ _ h => tUn_good ho h
end
end DL
namespace DL
open PySem PySem.Spec PyProof.Rows L2

/-! ### a[i] -/
def dIx : RD
  | .tup ds, .int i => atI ds i
  | .lst _ ds, .int i => match atI ds i with
    | some d => if fz d then some d else none
    | none => none
  | .scr ns, .int i => match atI ns i with
    | some n => some (.int n)
    | none => none
  | .str z, .int i => if z.length ≤ 16777216 then (match atI z.cps.toList i with
    | some c => some (.str ⟨#[c]⟩)
    | none => none) else none
  | _, _ => none
section
variable {K : PySem.W.Frag} {mg : Str → Option Value}
theorem RepL.atI {H : Hp} {ds : List D} {xs : List V} {f : List Addr} {i : Int} {d : D} (r : RepL K mg H ds xs f) (e : atI ds i = some d) : ∃ v g, L2.atI xs i = some v ∧ RepD K mg H d v g ∧ ∀ b ∈ g, b ∈ f := by
  unfold L2.atI at e ⊢
  rw [r.length] at e
  cases q : ixN xs.length i with
  | none => rw [q] at e; cases e
  | some j =>
    rw [q] at e
    obtain ⟨v, g, e1, rd, s⟩ := r.get (i := j) e
    exact ⟨v, g, e1, rd, s⟩
theorem opd_ix : OpD K mg dIx (rIx K) := by
  intro H x y a b d f g φd φv σd σv Q ra rb e w k
  unfold dIx at e
  split at e
  · cases rb
    obtain ⟨p, xs, rfl, hp, r, rfl⟩ := ra.tup_inv
    obtain ⟨v, g, e1, rd, s⟩ := r.atI e
    cases g with
    | nil => exact .inr (.inl ⟨p, xs, _, v, rfl, rfl, hp, e1, k _ H (w.push rd)⟩)
    | cons b _ => exact nomatch s b List.mem_cons_self
  · split at e
    · rename_i d' e0
      split at e
      · rename_i hz
        cases e
        cases rb
        obtain ⟨p, xs, g0, rfl, hp, r, _⟩ := ra.lst_inv
        obtain ⟨v, g, e1, rd, s⟩ := r.atI e0
        have := rd.fz hz
        subst this
        exact .inl ⟨p, xs, _, v, rfl, rfl, .inl hp, e1, k _ H (w.push rd)⟩
      · cases e
    · cases e
  · rename_i ns i
    split at e
    · rename_i n e0
      cases e
      cases rb
      cases ra with
      | scr h =>
        have e1 : L2.atI (ns.map V.int) i = some (.int n) := by
          unfold L2.atI at e0 ⊢
          rw [List.length_map]
          cases q : ixN ns.length i with
          | none => rw [q] at e0; cases e0
          | some j =>
            rw [q] at e0
            show (ns.map V.int)[j]? = _
            have e0' : ns[j]? = some n := e0
            rw [List.getElem?_map, e0']; rfl
        exact .inl ⟨_, _, _, .int n, rfl, rfl, h.sq, e1, k _ H (w.push (.int _))⟩
    · cases e
  · split at e
    · rename_i hz
      split at e
      · rename_i c e0
        cases e
        cases rb
        cases ra
        exact .inr (.inr ⟨_, _, c, rfl, rfl, by rw [sizeLine_eq]; exact hz, e0, k _ H (w.push (.str _))⟩)
      · cases e
    · cases e
  · cases e
end
section
variable {X : Cx} {W : WX} {e a b : Expr} {es : List Expr} {fa fb : EF} {fs : AF} {pos p2 : Pos}
theorem le_ix (ha : LE X W a fa) (hb : LE X W b fb) (hs : PlainIx b := by exact fun _ _ => rfl) : LE X W (.Subscript a b pos) (eBin dIx fa fb) := PE.imp (pe_ix ix_seq ha hb hs) fun _ _ _ => tBin opd_ix

/-! ### slices -/
abbrev OF := En → Out (Option Int)
def oNone : OF := fun σ => .ok none σ
def oSome (f : EF) : OF := fun σ => (f σ).bind fun h σ1 => match deref h σ1 with
  | some (.int i) => .ok (some i) σ1
  | _ => .err
def TOd (K : PySem.W.Frag) (mg : Str → Option Value) (W : WX) (f : OF) : TO := fun σv H Q => ∃ φd φv σd, Wd K mg H φd φv σd σv ∧ Gd (fun b σd' => ∀ H', Wd K mg H' φd φv σd' σv → Q b H') (xW K mg φd φv σv W) (f σd)
structure LO (X : Cx) (W : WX) (e : Option Expr) (f : OF) : Prop where
  ex : ∃ t, PO X e t ∧ ∀ σ H Q, TOd X.K X.mg W f σ H Q → t σ H Q
theorem lo_none : LO X W none oNone := ⟨_, po_none, fun σ H Q ⟨φd, φv, σd, w, q⟩ => q H w⟩
theorem lo_some (h : LE X W e fa) : LO X W (some e) (oSome fa) := ⟨_, po_some h, fun σ H Q ⟨φd, φv, σd, w, q⟩ => by
  obtain ⟨φd1, φv1, σd1, w1, q1⟩ := ted_step (WdH.nil w) q
  refine ⟨φd1, φv1, σd1, w1, q1.mono (fun h1 σ1 k y H1 w1 => ?_) fun _ _ _ _ q => q⟩
  obtain ⟨h', σ', w', q'⟩ := k y H1 w1
  split at q'
  · rename_i i e1
    obtain ⟨f, r⟩ := w'.rep (k := 0) rfl rfl e1
    cases r
    exact ⟨_, rfl, q' H1 w'.out⟩
  · exact q'.elim⟩
theorem tod_step {K mg} {W : WX} {H : Hp} {φd φv σd σv} {hs : List Hd} {xs : List V} {β : Type} {Pk : β → En → Prop} {g : OF} {k : Option Int → En → Out β} (w : WdH K mg H φd φv σd σv hs xs) (q : Gd Pk (xW K mg φd φv σv W) ((g σd).bind k)) :
    TOd K mg W g σv H fun b H2 => ∃ σd2, WdH K mg H2 φd φv σd2 σv hs xs ∧ Gd Pk (xW K mg φd φv σv W) (k b σd2) :=
  ⟨_, _, σd, w.wd, q.bind.mono (fun b σ2 q2 H2 w2 => ⟨σ2, ⟨w.len, w2, w.at_⟩, q2⟩) fun c ks vs σ2 q2 => xW_drop w.len q2⟩
def cutL {α : Type} (xs : List α) (lo hi : Option Int) : List α := (xs.drop (HT.sIx xs.length 0 lo)).take (HT.sIx xs.length xs.length hi - HT.sIx xs.length 0 lo)
def dCut (x : D) (lo hi : Option Int) : Option D := match x with
  | .tup ds => some (.tup (cutL ds lo hi))
  | .lst _ ds => if ds.all fz then some (.lst true (cutL ds lo hi)) else none
  | .scr ns => some (.lst true ((cutL ns lo hi).map .int))
  | .str z => if z.length ≤ 16777216 then some (.str (cutS z lo hi)) else none
  | _ => none
def eCut (f : EF) (lo hi : OF) : EF := fun σ => (f σ).bind fun h σ1 => (lo σ1).bind fun l σ2 => (hi σ2).bind fun u σ3 => match deref h σ3 with
  | some x => match dCut x l u with
    | some d => .ok (.val d) σ3
    | none => .err
  | none => .err
abbrev rCutD (K : PySem.W.Frag) : V → Option Int → Option Int → Hp → VK → Prop := fun x lo hi H Q => rSlA K x lo hi H Q ∨ (rSlL K x lo hi H Q ∨ rSlS x lo hi H Q)
theorem RepL.drop {K mg} {H : Hp} : ∀ (n : Nat) {ds : List D} {xs : List V}, RepL K mg H ds xs [] → RepL K mg H (ds.drop n) (xs.drop n) []
  | 0, _, _, h => h
  | n + 1, [], _, h => by cases h; exact .nil
  | n + 1, d :: ds, _, h => by
    have key : ∀ {xs : List V} {f : List Addr}, RepL K mg H (d :: ds) xs f → f = [] → RepL K mg H ((d :: ds).drop (n + 1)) (xs.drop (n + 1)) [] := by
      intro xs f h e
      cases h with
      | cons h r =>
        obtain ⟨e1, e2⟩ := List.append_eq_nil_iff.mp e
        subst e1 e2
        exact RepL.drop n r
    exact key h rfl
theorem RepL.take {K mg} {H : Hp} : ∀ (n : Nat) {ds : List D} {xs : List V}, RepL K mg H ds xs [] → RepL K mg H (ds.take n) (xs.take n) []
  | 0, _, _, h => by rw [List.take_zero, List.take_zero]; exact .nil
  | n + 1, [], _, h => by cases h; exact .nil
  | n + 1, d :: ds, _, h => by
    have key : ∀ {xs : List V} {f : List Addr}, RepL K mg H (d :: ds) xs f → f = [] → RepL K mg H ((d :: ds).take (n + 1)) (xs.take (n + 1)) [] := by
      intro xs f h e
      cases h with
      | cons h r =>
        obtain ⟨e1, e2⟩ := List.append_eq_nil_iff.mp e
        subst e1 e2
        exact RepL.cons h (RepL.take n r)
    exact key h rfl
theorem RepL.cut {K mg} {H : Hp} {ds : List D} {xs : List V} (h : RepL K mg H ds xs []) (lo hi : Option Int) : RepL K mg H (cutL ds lo hi) (cutV xs lo hi) [] := by
  unfold cutL cutV
  rw [h.length]
  exact (h.drop _).take _
theorem RepL.ints {K mg} {H : Hp} : ∀ ns : List Int, RepL K mg H (ns.map .int) (ns.map V.int) []
  | [] => .nil
  | n :: ns => RepL.cons (.int n) (RepL.ints ns)
theorem sl_all : SlR X (rCutD X.K) := SlR.or sl_tupA (SlR.or sl_list sl_str)
theorem le_cut {lo hi : Option Expr} {fl fh : OF} (h : LE X W e fa) (hl : LO X W lo fl) (hh : LO X W hi fh) : LE X W (.Subscript e (.Slice lo hi none p2) pos) (eCut fa fl fh) := by
  obtain ⟨tl, pl, kl⟩ := hl.ex
  obtain ⟨th, ph, kh⟩ := hh.ex
  refine PE.imp (pe_slice sl_all h pl ph) fun σ H Q ⟨φd, φv, σd, w, q⟩ => ?_
  obtain ⟨φd1, φv1, σd1, w1, q1⟩ := ted_step (WdH.nil w) q
  refine ⟨φd1, φv1, σd1, w1, q1.mono (fun h1 σ1 k y H1 w1 => ?_) fun _ _ _ _ q => q⟩
  obtain ⟨h', σ', w', q'⟩ := k y H1 w1
  refine kl _ _ _ ?_
  obtain ⟨φd2, φv2, σd2, w2, q2⟩ := tod_step w' q'
  refine ⟨φd2, φv2, σd2, w2, q2.mono (fun l σ2 k2 H2 w2 => ?_) fun _ _ _ _ q => q⟩
  obtain ⟨σ'', w'', q''⟩ := k2 H2 w2
  refine kh _ _ _ ?_
  obtain ⟨φd3, φv3, σd3, w3, q3⟩ := tod_step w'' q''
  refine ⟨φd3, φv3, σd3, w3, q3.mono (fun u σ3 k3 H3 w3 => ?_) fun _ _ _ _ q => q⟩
  obtain ⟨σ4, w4, q4⟩ := k3 H3 w3
  split at q4
  · rename_i x e1
    obtain ⟨f, r⟩ := w4.rep (k := 0) rfl rfl e1
    split at q4
    · rename_i d e2
      unfold dCut at e2
      split at e2
      · cases e2
        have r' := r
        obtain ⟨p, xs, rfl, hp, rp, rfl⟩ := r.tup_inv
        refine .inl ⟨p, xs, rfl, hp, fun z => ?_, fun _ t ht => ?_⟩
        · refine q4 _ _ (w4.ret ?_)
          unfold cutL
          rw [rp.length, z.1, z.2, List.drop_zero, Nat.sub_zero, List.take_of_length_le (by rw [rp.length]; exact Nat.le_refl _)]
          exact r'
        · have st : Stp H3 (upd H3 t (.tup (cutV xs l u))) := Stp.fresh ht
          exact q4 _ _ ((w4.fresh ht).ret (.tup (.inl (.inl upd_same)) ((rp.cut l u).mono st _ fun b hb => nomatch hb)))
      · split at e2
        · rename_i hz
          cases e2
          obtain ⟨p, xs, g, rfl, hp, rp, _⟩ := r.lst_inv
          have := rp.fz hz
          subst this
          refine .inr (.inl ⟨p, xs, rfl, .inl hp, fun t ht => ?_⟩)
          have rc := rp.cut l u
          exact q4 _ _ (WdH.val ((w4.out.pushL rc).newList rc.length ht))
        · cases e2
      · cases e2
        cases r with
        | scr h =>
          rename_i ns p
          refine .inr (.inl ⟨p, _, rfl, h.sq, fun t ht => ?_⟩)
          have e3 : cutV (ns.map V.int) l u = (cutL ns l u).map V.int := by
            unfold cutV cutL
            rw [List.length_map, List.map_take, List.map_drop]
          have rc : RepL X.K X.mg H3 ((cutL ns l u).map .int) (cutV (ns.map V.int) l u) [] := by rw [e3]; exact RepL.ints _
          exact q4 _ _ (WdH.val ((w4.out.pushL rc).newList rc.length ht))
      · split at e2
        · rename_i hz
          cases e2
          cases r
          exact .inr (.inr ⟨_, rfl, by rw [sizeLine_eq]; exact hz, q4 _ _ (w4.ret (.str _))⟩)
        · cases e2
      · cases e2
    · exact q4.elim
  · exact q4.elim

/-! ### e.f -/
theorem ins_getR {P : Program} {w : World} {H : Hp} {h : Heap} {a C dx : Addr} {fs : List (Str × V)} (hok : HOk P w H h) (e : Rd H a (.ins C dx fs)) : ∃ mA, ObjM h a dx C mA ∧ (∀ f, RelO (fs.lookup f) (mA f)) := by
  obtain ⟨d, z, ne, ob, mA, n, r, q⟩ := (show ObjOk P w H h a (.ins C dx fs) from e.ok hok)
  exact ⟨mA, ⟨ob, n, ne⟩, r⟩
def tFldR (K : PySem.W.Frag) (ta : TE) (f : Str) : TE := fun σ H Q => ta σ H fun x H1 => ∃ a C dx fs v, x = .ref a ∧ Rd H1 a (.ins C dx fs) ∧ Cls K C ∧ NoAttr K C f ∧ fs.lookup f = some v ∧ Q v H1
theorem pe_fldR {f : Str} {ta : TE} (he : PE X e ta) (hb : attributeBase e f X.env (eval e X.env) = eval e X.env) : PE X (.Attribute e f pos) (tFldR X.K ta f) := by
  refine ⟨fun pins s σ H Q I h => ?_⟩
  refine attr_of hb (thn (he.run pins s σ H _ I h) fun u s1 ⟨x, H1, I1, rx, a, C, dx, fs, v, ex, ea, c, n, l, q⟩ => ?_)
  subst ex
  obtain rfl : u = Value.ref a := rx
  obtain ⟨mA, O, r⟩ := ins_getR I1.hok ea
  obtain ⟨u, hu, ru⟩ := RelO.some_of (v := v) (o := mA f) (by rw [← l]; exact r f)
  exact get_map I1.kIn O (c.get f) c.hd n hu (handed_of ru) ⟨v, H1, I1.tok _, ru, q⟩
def lookK : Str → List Str → List D → Option D
  | f, k :: ks, v :: vs => if f = k then some v else lookK f ks vs
  | _, _, _ => none
theorem lookK_rep {K mg} {H : Hp} {f : Str} {d : D} : ∀ {fs : List (Str × V)} {ds : List D} {g : List Addr}, RepL K mg H ds (fs.map (·.2)) g → lookK f (fs.map (·.1)) ds = some d → ∃ v g', fs.lookup f = some v ∧ RepD K mg H d v g' ∧ (∀ b ∈ g', b ∈ g) ∧ f ∈ fs.map (·.1)
  | [], ds, g, r, e => by cases r; simp [lookK] at e
  | (n, v) :: fs, ds, g, r, e => by
    cases ds with
    | nil => simp [lookK] at e
    | cons d0 ds =>
      cases r with
      | cons h r =>
        have e' : (if f = n then some d0 else lookK f (fs.map (·.1)) ds) = some d := e
        by_cases hf : f = n
        · rw [if_pos hf] at e'
          cases e'
          subst hf
          exact ⟨v, _, by simp, h, fun b hb => List.mem_append_left _ hb, by simp⟩
        · rw [if_neg hf] at e'
          obtain ⟨v', g', e1, rd, s, m⟩ := lookK_rep r e'
          refine ⟨v', g', ?_, rd, fun b hb => List.mem_append_right _ (s b hb), by simp [m]⟩
          rw [List.lookup_cons]
          have : (f == n) = false := beq_eq_false_iff_ne.mpr hf
          rw [this]
          exact e1
theorem RepD.ins_inv {K mg} {H : Hp} {o : Bool} {n : Str} {ks : List Str} {ds : List D} {x : V} {f : List Addr} (h : RepD K mg H (.ins o n ks ds) x f) : ∃ a C dx fs g, x = .ref a ∧ Rd H a (.ins C dx fs) ∧ mg n = some (.ref C) ∧ InsC K C ∧ (∀ f ∈ fs.map (·.1), NoAttr K C f) ∧ ks = fs.map (·.1) ∧ RepL K mg H ds (fs.map (·.2)) g ∧ ∀ b ∈ g, b ∈ f := by
  cases h with
  | insF h c q na r => exact ⟨_, _, _, _, _, rfl, .inr ⟨_, h⟩, c, q, na, rfl, r, fun b hb => nomatch hb⟩
  | insO h c q na r => exact ⟨_, _, _, _, _, rfl, .inl h, c, q, na, rfl, r, fun b hb => List.mem_cons_of_mem _ hb⟩
def dFld (f : Str) : D → Option D
  | .ins _ _ ks ds => match lookK f ks ds with
    | some d => if fz d then some d else none
    | none => none
  | _ => none
theorem und_fld {f : Str} {K mg} : UnD K mg (dFld f) (fun x H Q => ∃ a C dx fs v, x = .ref a ∧ Rd H a (.ins C dx fs) ∧ Cls K C ∧ NoAttr K C f ∧ fs.lookup f = some v ∧ Q v H) := by
  intro H x a d g φd φv σd σv Q ra e w k
  unfold dFld at e
  split at e
  · split at e
    · rename_i d' e0
      split at e
      · rename_i hz
        cases e
        obtain ⟨a, C, dx, fs, g, rfl, hr, c, q, na, rfl, r, _⟩ := ra.ins_inv
        obtain ⟨v, g', e1, rd, s, m⟩ := lookK_rep r e0
        have := rd.fz hz
        subst this
        exact ⟨a, C, dx, fs, v, rfl, hr, q.cl, na f m, e1, k _ H (w.push rd)⟩
      · cases e
    · cases e
  · cases e
theorem le_fld {f : Str} (h : LE X W e fa) (hb : attributeBase e f X.env (eval e X.env) = eval e X.env := by rfl) : LE X W (.Attribute e f pos) (eUn (dFld f) fa) := PE.imp (pe_fldR h hb) fun _ _ _ q => tUn_good und_fld q

/-! ### argument lists, displays -/
def aNil : AF := fun σ => .ok [] σ
def aCons (f : EF) (g : AF) : AF := fun σ => (f σ).bind fun h σ1 => (g σ1).bind fun hs σ2 => .ok (h :: hs) σ2
theorem la_nil : LA X W [] aNil := PA.imp pa_nil fun σ H Q ⟨φd, φv, σd, w, q⟩ => q [] H (WdH.nil w)
theorem la_cons (h : LE X W e fa) (r : LA X W es fs) (hs : starEach (e :: es) X.env = (false, eval e X.env) :: starEach es X.env := by rfl) : LA X W (e :: es) (aCons fa fs) := PA.imp (pa_cons h r hs) fun σ H Q ⟨φd, φv, σd, w, q⟩ => by
  obtain ⟨φd1, φv1, σd1, w1, q1⟩ := ted_step (WdH.nil w) q
  refine ⟨φd1, φv1, σd1, w1, q1.mono (fun h1 σ1 k y H1 w1 => ?_) fun _ _ _ _ q => q⟩
  obtain ⟨h', σ', w', q'⟩ := k y H1 w1
  obtain ⟨φd2, φv2, σd2, w2, q2⟩ := tad_step w' q'
  refine ⟨φd2, φv2, σd2, w2, q2.mono (fun h2 σ2 k2 z H2 w2 => ?_) fun _ _ _ _ q => q⟩
  obtain ⟨h'', σ'', w'', q''⟩ := k2 z H2 w2
  exact q'' _ _ w''
/-- handles given away: what a slot holds stands from then on -/
def give : List Hd → En → Option (List D × En)
  | [], σ => some ([], σ)
  | .val d :: r, σ => match give r σ with
    | some (ds, σ') => some (d :: ds, σ')
    | none => none
  | .sl i :: r, σ => match sget σ i with
    | some d => match give r (σ.set i (some (share d))) with
      | some (ds, σ') => some (share d :: ds, σ')
      | none => none
    | none => none
theorem give_ok {K mg} {P : Hp → Prop} {σv : L2.St} : ∀ (hs : List Hd) {H : Hp} {φd : List D} {φv : List V} {σd σd' : En} {xs : List V} {ds : List D}, WdH K mg H φd φv σd σv hs xs → give hs σd = some (ds, σd') →
    (∀ H', Wd K mg H' (φd ++ ds) (φv ++ xs) σd' σv → ds.length = xs.length → GT H' P) → GT H P
  | [], H, φd, φv, σd, σd', xs, ds, w, e, k => by
    simp [give] at e
    obtain ⟨rfl, rfl⟩ := e
    cases xs with
    | nil => exact k H (by rw [List.append_nil, List.append_nil]; exact w.out) rfl
    | cons x xs => have := w.len; simp at this
  | .val d :: r, H, φd, φv, σd, σd', [], ds, w, e, k => by have := w.len; simp at this
  | .sl i :: r, H, φd, φv, σd, σd', [], ds, w, e, k => by have := w.len; simp at this
  | .val d :: r, H, φd, φv, σd, σd', x :: xs, ds, w, e, k => by
    simp only [give] at e
    split at e
    · rename_i ds2 σ2 e2
      cases e
      have w2 : WdH K mg H (φd ++ [d]) (φv ++ [x]) σd σv r xs := by
        refine ⟨by have := w.len; simp at this; exact this, ?_, fun k i y e1 e2 => w.at_ (k + 1) i y (by simpa using e1) (by simpa using e2)⟩
        have := w.wd
        simpa [tmpD, tmpV, List.append_assoc] using this
      refine give_ok r w2 e2 fun H' w3 hl => k H' ?_ (by simp [hl])
      simpa [List.append_assoc] using w3
    · cases e
  | .sl i :: r, H, φd, φv, σd, σd', x :: xs, ds, w, e, k => by
    simp only [give] at e
    split at e
    · rename_i d e0
      split at e
      · rename_i ds2 σ2 e2
        cases e
        have hl : r.length = xs.length := by have := w.len; simp at this; exact this
        have hx : σv[i]? = some (some x) := w.at_ 0 i x rfl rfl
        refine w.wd.shareSlot (sget_some e0) fun H' v ev w2 => ?_
        rw [hx] at ev
        cases ev
        have w3 : Wd K mg H' (φd ++ tmpD r) (φv ++ tmpV r xs) (σd.set i (some (share d))) σv := w2.drop rfl
        have rd := w2.lastRep (fz_share d)
        have w4 := w3.pushMid (tmp_length _ _ hl) rd
        have w5 : WdH K mg H' (φd ++ [share d]) (φv ++ [x]) (σd.set i (some (share d))) σv r xs :=
          ⟨hl, w4, fun k j y e1 e2 => w.at_ (k + 1) j y (by simpa using e1) (by simpa using e2)⟩
        refine give_ok r w5 e2 fun H' w3 hl => k H' ?_ (by simp [hl])
        simpa [List.append_assoc] using w3
      · cases e
    · cases e
def eTup (f : AF) : EF := fun σ => (f σ).bind fun hs σ1 => match give hs σ1 with
  | some (ds, σ2) => if ds.length ≤ 16777216 then .ok (.val (.tup (shareL ds))) σ2 else .err
  | none => .err
def eLst (f : AF) : EF := fun σ => (f σ).bind fun hs σ1 => match give hs σ1 with
  | some (ds, σ2) => if ds.length ≤ 16777216 then .ok (.val (.lst true ds)) σ2 else .err
  | none => .err
theorem shareL_all : ∀ ds : List D, (shareL ds).all fz = true
  | [] => by simp [shareL]
  | d :: ds => by rw [shareL, List.all_cons, fz_share, shareL_all ds]; rfl
theorem le_tup {x1 : Nat} (h : LA X W es fs) : LE X W (.Tuple es x1 pos) (eTup fs) := PE.imp (PE.gh (pe_tup (PA.gh h))) fun σ H Q ⟨φd, φv, σd, w, q⟩ => by
  obtain ⟨φd1, φv1, σd1, w1, q1⟩ := tad_step (WdH.nil w) q
  refine ⟨φd1, φv1, σd1, w1, q1.mono (fun hs σ1 k xs H1 w1 => ?_) fun _ _ _ _ q => q⟩
  obtain ⟨hs', σ', w', q'⟩ := k xs H1 w1
  split at q'
  · rename_i ds σ2 e0
    split at q'
    · rename_i hz
      refine give_ok _ w' e0 fun H2 w2 hl => w2.shareTemps hl fun H3 w3 => .here ⟨by rw [sizeLine_eq]; have hl2 : ds.length = xs.length := hl; rw [← hl2]; exact hz, fun p hp => .here (q' _ _ (WdH.val (w3.newTup (by rw [shareL_length]; exact hl) (shareL_all _) hp)))⟩
    · exact q'.elim
  · exact q'.elim
theorem le_lst (h : LA X W es fs) : LE X W (.List es pos) (eLst fs) := PE.imp (PE.gh (pe_lst (PA.gh h))) fun σ H Q ⟨φd, φv, σd, w, q⟩ => by
  obtain ⟨φd1, φv1, σd1, w1, q1⟩ := tad_step (WdH.nil w) q
  refine ⟨φd1, φv1, σd1, w1, q1.mono (fun hs σ1 k xs H1 w1 => ?_) fun _ _ _ _ q => q⟩
  obtain ⟨hs', σ', w', q'⟩ := k xs H1 w1
  split at q'
  · rename_i ds σ2 e0
    split at q'
    · rename_i hz
      refine give_ok _ w' e0 fun H2 w2 hl => .here ⟨by rw [sizeLine_eq]; have hl2 : ds.length = xs.length := hl; rw [← hl2]; exact hz, fun p hp => .here (q' _ _ (WdH.val (w2.newList hl hp)))⟩
    · exact q'.elim
  · exact q'.elim
/-- a value that is given to another holder -/
def eGive (f : EF) : EF := fun σ => (f σ).bind fun h σ1 => match give [h] σ1 with
  | some ([d], σ2) => .ok (.val d) σ2
  | _ => .err
theorem le_give (h : LE X W e fa) : LE X W e (eGive fa) := PE.imp (PE.gh h) fun σ H Q ⟨φd, φv, σd, w, q⟩ => by
  obtain ⟨φd1, φv1, σd1, w1, q1⟩ := ted_step (WdH.nil w) q
  refine ⟨φd1, φv1, σd1, w1, q1.mono (fun h1 σ1 k y H1 w1 => ?_) fun _ _ _ _ q => q⟩
  obtain ⟨h', σ', w', q'⟩ := k y H1 w1
  split at q'
  · rename_i d σ2 e0
    exact give_ok _ w' e0 fun H2 w2 hl => .here (q' _ _ (WdH.val w2))
  · exact q'.elim
end
end DL
namespace DL
open PySem PySem.Spec PyProof.Rows L2

/-! ### built-ins of one argument -/
def dLen : D → Option D
  | .tup ds => some (.int ds.length)
  | .lst _ ds => some (.int ds.length)
  | .scr ns => some (.int ns.length)
  | .str z => if z.length ≤ 16777216 then some (.int z.length) else none
  | _ => none
section
variable {K : PySem.W.Frag} {mg : Str → Option Value}
abbrev rLenD (K : PySem.W.Frag) : List V → Hp → VK → Prop := fun xs H Q => (∃ p ys, xs = [.ref p] ∧ (SqL K H p ys ∨ SqT K H p ys) ∧ Q (.int ys.length) H) ∨ ∃ z, xs = [.str z] ∧ z.length ≤ sizeLine ∧ Q (.int z.length) H
theorem und_len : UnD K mg dLen (fun v H Q => rLenD K [v] H Q) := by
  intro H x a d f φd φv σd σv Q ra e w k
  unfold dLen at e
  split at e
  · cases e
    obtain ⟨p, xs, rfl, hp, r, rfl⟩ := ra.tup_inv
    exact .inl ⟨p, xs, rfl, .inr hp, by rw [← r.length]; exact k _ H (w.push (.int _))⟩
  · cases e
    obtain ⟨p, xs, g, rfl, hp, r, _⟩ := ra.lst_inv
    exact .inl ⟨p, xs, rfl, .inl (.inl hp), by rw [← r.length]; exact k _ H (w.push (.int _))⟩
  · cases e
    cases ra with
    | scr h => exact .inl ⟨_, _, rfl, .inl h.sq, by rw [List.length_map]; exact k _ H (w.push (.int _))⟩
  · split at e
    · rename_i hz
      cases e; cases ra
      exact .inr ⟨_, rfl, by rw [sizeLine_eq]; exact hz, k _ H (w.push (.int _))⟩
    · cases e
  · cases e
theorem cr_lenD {X : Cx} : CallR X (.builtin "len") (rLenD X.K) := CallR.or call_len_seq call_len_str
def dTuple : D → Option D
  | .lst _ ds => if ds.all fz then some (.tup ds) else none
  | .tup ds => some (.tup ds)
  | _ => none
abbrev rTupleD (K : PySem.W.Frag) : List V → Hp → VK → Prop := fun xs H Q => ∃ p ys, xs = [.ref p] ∧ ((SqL K H p ys ∧ ∀ l, H l = none → Q (.ref l) (upd H l (.tup ys))) ∨ (SqT K H p ys ∧ Q (.ref p) H))
theorem und_tuple : UnD K mg dTuple (fun v H Q => rTupleD K [v] H Q) := by
  intro H x a d f φd φv σd σv Q ra e w k
  unfold dTuple at e
  split at e
  · split at e
    · rename_i hz
      cases e
      obtain ⟨p, xs, g, rfl, hp, r, _⟩ := ra.lst_inv
      have := r.fz hz
      subst this
      refine ⟨p, xs, rfl, .inl ⟨.inl hp, fun l hl => ?_⟩⟩
      have st : Stp H (upd H l (.tup xs)) := Stp.fresh hl
      exact k _ _ ((w.fresh hl).push (.tup (.inl (.inl upd_same)) (r.mono st _ fun b hb => nomatch hb)))
    · cases e
  · cases e
    have ra' := ra
    obtain ⟨p, xs, rfl, hp, r, rfl⟩ := ra.tup_inv
    exact ⟨p, xs, rfl, .inr ⟨hp, k _ H (w.push ra')⟩⟩
  · cases e
def dList : D → Option D
  | .lst _ ds => if ds.all fz then some (.lst true ds) else none
  | .tup ds => if ds.all fz then some (.lst true ds) else none
  | .scr ns => some (.lst true (ns.map .int))
  | _ => none
abbrev rListD (K : PySem.W.Frag) : List V → Hp → VK → Prop := fun xs H Q => ∃ p ys, xs = [.ref p] ∧ (SqL K H p ys ∨ SqT K H p ys) ∧ ∀ l, H l = none → Q (.ref l) (upd H l (.lst ys))
theorem und_list : UnD K mg dList (fun v H Q => rListD K [v] H Q) := by
  intro H x a d f φd φv σd σv Q ra e w k
  unfold dList at e
  split at e
  · split at e
    · rename_i hz
      cases e
      obtain ⟨p, xs, g, rfl, hp, r, _⟩ := ra.lst_inv
      have := r.fz hz
      subst this
      exact ⟨p, xs, rfl, .inl (.inl hp), fun l hl => k _ _ ((w.pushL r).newList r.length hl)⟩
    · cases e
  · split at e
    · cases e
      obtain ⟨p, xs, rfl, hp, r, rfl⟩ := ra.tup_inv
      exact ⟨p, xs, rfl, .inr hp, fun l hl => k _ _ ((w.pushL r).newList r.length hl)⟩
    · cases e
  · cases e
    cases ra with
    | scr h => exact ⟨_, _, rfl, .inl h.sq, fun l hl => k _ _ ((w.pushL (RepL.ints _)).newList (by simp) hl)⟩
  · cases e
def toB : List D → Option (List Bool)
  | [] => some []
  | .bl b :: r => match toB r with
    | some bs => some (b :: bs)
    | none => none
  | _ => none
theorem toB_rep {H : Hp} : ∀ {ds : List D} {xs : List V} {f : List Addr} {bs : List Bool}, RepL K mg H ds xs f → toB ds = some bs → xs = bs.map V.bl
  | [], _, _, _, r, e => by cases r; simp [toB] at e; subst e; rfl
  | d :: ds, _, _, _, r, e => by
    cases r with
    | cons h r =>
      unfold toB at e
      split at e
      · rename_i e0; cases e0
      · rename_i b r' e0
        cases e0
        split at e
        · rename_i bs e1
          cases e
          cases h
          rw [toB_rep r e1]; rfl
        · cases e
      · cases e
theorem toB_map (bs : List Bool) : toB (bs.map .bl) = some bs := by
  induction bs with
  | nil => rfl
  | cons b bs ih => simp [toB, ih]
def toI : List D → Option (List Int)
  | [] => some []
  | .int b :: r => match toI r with
    | some bs => some (b :: bs)
    | none => none
  | _ => none
theorem toI_rep {H : Hp} : ∀ {ds : List D} {xs : List V} {f : List Addr} {bs : List Int}, RepL K mg H ds xs f → toI ds = some bs → xs = bs.map V.int
  | [], _, _, _, r, e => by cases r; simp [toI] at e; subst e; rfl
  | d :: ds, _, _, _, r, e => by
    cases r with
    | cons h r =>
      unfold toI at e
      split at e
      · rename_i e0; cases e0
      · rename_i b r' e0
        cases e0
        split at e
        · rename_i bs e1
          cases e
          cases h
          rw [toI_rep r e1]; rfl
        · cases e
      · cases e
theorem toI_map (bs : List Int) : toI (bs.map .int) = some bs := by
  induction bs with
  | nil => rfl
  | cons b bs ih => simp [toI, ih]
def dAll : D → Option D
  | .lst _ ds => match toB ds with
    | some bs => some (.bl (bs.all id))
    | none => none
  | _ => none
def dAny : D → Option D
  | .lst _ ds => match toB ds with
    | some bs => some (.bl (bs.any id))
    | none => none
  | _ => none
def dSum : D → Option D
  | .lst _ ds => match toI ds with
    | some bs => some (.int bs.sum)
    | none => none
  | _ => none
theorem und_all : UnD K mg dAll (fun v H Q => rAll K [v] H Q) := by
  intro H x a d f φd φv σd σv Q ra e w k
  unfold dAll at e
  split at e
  · split at e
    · rename_i bs e1
      cases e
      obtain ⟨p, xs, g, rfl, hp, r, _⟩ := ra.lst_inv
      have := toB_rep r e1
      subst this
      exact ⟨p, bs, rfl, .inl hp, k _ H (w.push (.bl _))⟩
    · cases e
  · cases e
theorem und_any : UnD K mg dAny (fun v H Q => rAny K [v] H Q) := by
  intro H x a d f φd φv σd σv Q ra e w k
  unfold dAny at e
  split at e
  · split at e
    · rename_i bs e1
      cases e
      obtain ⟨p, xs, g, rfl, hp, r, _⟩ := ra.lst_inv
      have := toB_rep r e1
      subst this
      exact ⟨p, bs, rfl, .inl hp, k _ H (w.push (.bl _))⟩
    · cases e
  · cases e
theorem und_sum : UnD K mg dSum (fun v H Q => rSum K [v] H Q) := by
  intro H x a d f φd φv σd σv Q ra e w k
  unfold dSum at e
  split at e
  · split at e
    · rename_i bs e1
      cases e
      obtain ⟨p, xs, g, rfl, hp, r, _⟩ := ra.lst_inv
      have := toI_rep r e1
      subst this
      exact ⟨p, bs, rfl, .inl hp, k _ H (w.push (.int _))⟩
    · cases e
  · cases e
def dInt : D → Option D
  | .int i => some (.int i)
  | .bl b => some (.int (if b then 1 else 0))
  | _ => none
theorem und_int : UnD K mg dInt (fun v H Q => (∃ i, [v] = [.int i] ∧ Q (.int i) H) ∨ ∃ k, [v] = [.bl k] ∧ Q (.int (if k then 1 else 0)) H) := by
  intro H x a d f φd φv σd σv Q ra e w k
  unfold dInt at e
  split at e
  · cases e; cases ra; exact .inl ⟨_, rfl, k _ H (w.push (.int _))⟩
  · cases e; cases ra; exact .inr ⟨_, rfl, k _ H (w.push (.int _))⟩
  · cases e
def dAbs : D → Option D
  | .int i => some (.int (if i < 0 then -i else i))
  | _ => none
theorem und_abs : UnD K mg dAbs (fun v H Q => ∃ i, [v] = [.int i] ∧ Q (.int (if i < 0 then -i else i)) H) := by
  intro H x a d f φd φv σd σv Q ra e w k
  unfold dAbs at e
  split at e
  · cases e; cases ra; exact ⟨_, rfl, k _ H (w.push (.int _))⟩
  · cases e

/-! ### isinstance -/
/-- the type of a tree that is no instance of the text's classes -/
def tyOf : D → Option String
  | .non => some "NoneType"
  | .bl _ => some "bool"
  | .int _ => some "int"
  | .str _ => some "str"
  | .dct _ _ _ => some "dict"
  | .tup _ => some "tuple"
  | .lst _ _ => some "list"
  | .scr _ => some "list"
  | _ => none
theorem RepD.tyX {H : Hp} {d : D} {x : V} {f : List Addr} {t : String} (h : RepD K mg H d x f) (e : tyOf d = some t) : TyX K H x (.type t) := by
  cases h with
  | non => cases e; exact .base .non
  | bl b => cases e; exact .base (.bl b)
  | int b => cases e; exact .base (.int b)
  | str b => cases e; exact .base (.str b)
  | ty b => cases e
  | fn b => cases e
  | dctF h r => cases e; exact .fDict h
  | dctO h r => cases e; exact .base (.dK h)
  | scr h =>
    cases e
    rcases h with ⟨o, h⟩ | ⟨o, its, n, h, hc, _⟩
    · exact .base (.frz h)
    · exact .kList h hc
  | tup h r =>
    cases e
    rcases h with (h | ⟨o, h⟩) | ⟨o, its, n, h, hc, _⟩
    · exact .base (.tup h)
    · exact .fTuple h
    · exact .kTuple h hc
  | lstF h r => cases e; obtain ⟨o, h⟩ := h; exact .base (.frz h)
  | lstO h r => cases e; exact .base (.lst h)
  | gone => cases e
  | exn0 => cases e
  | exn1 => cases e
  | lam => cases e
  | tab => cases e
  | insF => cases e
  | insO => cases e
end
section
variable {X : Cx} {W : WX} {e a b : Expr} {fa fb : EF} {pos : Pos}
/-- what isinstance asks of an instance, frozen or not -/
theorem kit_insR {pins : List (Addr × Obj)} {σ : L2.St} {H : Hp} {s : Shared} {a C dx : Addr} {fs : List (Str × V)} (I : Inv X pins σ H s) (h : Rd H a (.ins C dx fs)) (q : InsC X.K C) :
    ∃ P : Heap → Prop, PySem.W.KitX X.K (.ref a) (.ref C) P ∧ P s.heap ∧ (Value.ref a) ≠ .builtin "__main__.__loader__#opaque" := by
  obtain ⟨mA, O, _⟩ := ins_getR I.hok h
  obtain ⟨od, J, _⟩ := O.look
  exact ⟨_, PySem.W.kitx_own (q.cl.get _) q.cl.hd q.ha q.hn q.ht q.hm, J, fun z => nomatch z⟩
/-- how a type or class stands to the class that is asked for: by the type's name, by the class's address -/
structure Asks (K : PySem.W.Frag) (mg : Str → Option Value) (cv : Value) (yes : String → Option Bool) (yesC : Str → Option Bool) : Prop where
  t : ∀ t b, yes t = some b → PySem.W.kitOne K (.type t) cv = some b
  c : ∀ n C b, yesC n = some b → mg n = some (.ref C) → PySem.W.kitOne K (.ref C) cv = some b
def dIsi (yes : String → Option Bool) (yesC : Str → Option Bool) : D → Option D
  | .ins _ n _ _ => match yesC n with
    | some b => some (.bl b)
    | none => none
  | d => match tyOf d with
    | some t => match yes t with
      | some b => some (.bl b)
      | none => none
    | none => none
abbrev rIsiD (K : PySem.W.Frag) (mg : Str → Option Value) (cv : Value) : List V → Hp → VK → Prop := fun xs H Q => ∃ x c b, xs = [x, c] ∧ ClsV c cv ∧ ((∃ t, TyX K H x t ∧ PySem.W.kitOne K t cv = some b) ∨ ∃ a C dx fs, x = .ref a ∧ Rd H a (.ins C dx fs) ∧ InsC K C ∧ PySem.W.kitOne K (.ref C) cv = some b) ∧ Q (.bl b) H
theorem call_isiD {cv : Value} : CallR X (.builtin "isinstance") (rIsiD X.K X.mg cv) := by
  intro pins s σ H xs us Q I r h
  obtain ⟨x, c, b, rfl, k, h, q⟩ := h
  obtain ⟨u1, u2, rfl, r1, r2⟩ := vals2 r
  have e2 := k.eq r2
  subst e2
  rcases h with ⟨t, ty, e⟩ | ⟨a, C, dx, fs, rfl, hr, hq, e⟩
  · obtain ⟨P, Z, p, hx⟩ := kit_of I r1 ty
    exact PySem.W.kia_one Z I.kIn p e hx fun tk => ⟨.bl b, H, I.tok tk, rfl, q⟩
  · cases r1
    obtain ⟨P, Z, p, hx⟩ := kit_insR I hr hq
    exact PySem.W.kia_one Z I.kIn p e hx fun tk => ⟨.bl b, H, I.tok tk, rfl, q⟩
/-- isinstance(e, C), C the name of a built-in type or a class of the text -/
theorem le_isi {x : Str} {p : Pos} {c : V} {cv : Value} {yes : String → Option Bool} {yesC : Str → Option Bool} (A : Asks X.K X.mg cv yes yesC) (k : ClsV c cv) (hb : PE X b (tC c)) (ha : LE X W a fa) (hg : Gl X "isinstance") (hm : X.mg "isinstance" = none)
    (hs : starEach [a, b] X.env = (false, eval a X.env) :: starEach [b] X.env := by rfl) (hs2 : starEach [b] X.env = (false, eval b X.env) :: starEach [] X.env := by rfl) (hpl : (backTo pos (starEach [b] X.env)).any (·.1) = false := by rfl) :
    LE X W (.Call (.Name "isinstance" p) [a, b] [] pos) (eUn (dIsi yes yesC) fa) := by
  refine PE.imp (pe_callB (call_isiD (cv := cv)) hg hm (by decide +kernel) (pa_cons ha (pa_cons hb pa_nil hs2) hs) (by decide) (by decide) hs hpl) fun σ H Q h => ?_
  refine tUn_good (r := fun x H' Q => rIsiD X.K X.mg cv [x, c] H' Q) (fun H x a d f φd φv σd σv Q ra e w k2 => ?_) h
  unfold dIsi at e
  split at e
  · split at e
    · rename_i b' e1
      cases e
      obtain ⟨a, C, dx, fs, g, rfl, hr, hc, hq, _⟩ := ra.ins_inv
      exact ⟨_, c, b', rfl, k, .inr ⟨a, C, dx, fs, rfl, hr, hq, A.c _ C b' e1 hc⟩, k2 _ H (w.push (.bl _))⟩
    · cases e
  · split at e
    · rename_i t e1
      split at e
      · rename_i b' e2
        cases e
        exact ⟨_, c, b', rfl, k, .inl ⟨_, ra.tyX e1, A.t t b' e2⟩, k2 _ H (w.push (.bl _))⟩
      · cases e
    · cases e
end
end DL
namespace DL
open PySem PySem.Spec PyProof.Rows L2

/-! ### statements -/
inductive OutS where
  | err | nx (σ : En) | bk (σ : En) | ct (σ : En) | rt (d : D) (σ : En) | exc (c : Str) (ks : List Str) (vs : List D) (σ : En)
abbrev SF := En → OutS
/-- the slots of B are not set anew -/
def SB (B : Nat → Bool) (a b : L2.St) : Prop := b.length = a.length ∧ ∀ i, B i = true → b[i]? = a[i]?
theorem SB.refl {B : Nat → Bool} {a : L2.St} : SB B a a := ⟨rfl, fun _ _ => rfl⟩
theorem SB.trans {B : Nat → Bool} {a b c : L2.St} (h : SB B a b) (k : SB B b c) : SB B a c := ⟨k.1.trans h.1, fun i e => (k.2 i e).trans (h.2 i e)⟩
theorem SB.set {B : Nat → Bool} {a : L2.St} {i : Nat} {v : Option V} (h : B i = false) : SB B a (a.set i v) := ⟨List.length_set, fun j e => by
  have : i ≠ j := fun z => by rw [z, e] at h; cases h
  exact List.getElem?_set_ne this⟩
theorem SB.mono {B B' : Nat → Bool} {a b : L2.St} (h : SB B a b) (k : ∀ i, B' i = true → B i = true) : SB B' a b := ⟨h.1, fun i e => h.2 i (k i e)⟩
section
variable (K : PySem.W.Frag) (mg : Str → Option Value) (W : WX) (B : Nat → Bool)
def GdS (Dn : Ends) (φd : List D) (φv : List V) (σv : L2.St) : OutS → Prop
  | .err => False
  | .nx σ => ∀ σv' H', SB B σv σv' → Wd K mg H' φd φv σ σv' → Dn.nx σv' H'
  | .bk σ => ∀ σv' H', SB B σv σv' → Wd K mg H' φd φv σ σv' → Dn.bk σv' H'
  | .ct σ => ∀ σv' H', SB B σv σv' → Wd K mg H' φd φv σ σv' → Dn.ct σv' H'
  | .rt d σ => ∀ v σv' H', SB B σv σv' → Wd K mg H' (φd ++ [d]) (φv ++ [v]) σ σv' → Dn.rt v H'
  | .exc c ks vs σ => ∀ σv', SB B σv σv' → xW K mg φd φv σv' W c ks vs σ
def TSd (f : SF) : TS := fun Dn σv H => ∃ φd φv σd, Wd K mg H φd φv σd σv ∧ GdS K mg W B Dn φd φv σv (f σd)
end
abbrev LS (X : Cx) (W : WX) (B : Nat → Bool) (st : Stmt) (f : SF) : Prop := PS X st (TSd X.K X.mg W B f)
abbrev LSs (X : Cx) (W : WX) (B : Nat → Bool) (st : List Stmt) (f : SF) : Prop := PSs X st (TSd X.K X.mg W B f)
def OutS.ofE {α : Type} (r : Out α) (k : α → En → OutS) : OutS := match r with
  | .err => .err
  | .ok a σ => k a σ
  | .exc c ks vs σ => .exc c ks vs σ
@[simp] theorem OutS.ofE_ok {α : Type} (a : α) (σ : En) (k : α → En → OutS) : OutS.ofE (.ok a σ) k = k a σ := nrfl rfl
@[simp] theorem OutS.ofE_err {α : Type} (k : α → En → OutS) : OutS.ofE (.err) k = .err := nrfl rfl
@[simp] theorem OutS.ofE_exc {α : Type} (c ks vs σ) (k : α → En → OutS) : OutS.ofE (.exc c ks vs σ) k = .exc c ks vs σ := nrfl rfl
section
variable {K : PySem.W.Frag} {mg : Str → Option Value} {W : WX} {B : Nat → Bool} {H H' : Hp} {φd : List D} {φv : List V} {σd : En} {σv : L2.St} {hs : List Hd} {xs : List V} {Dn : Ends}
theorem GdS.sb {σv' : L2.St} {r : OutS} (h : GdS K mg W B Dn φd φv σv r) (s : SB B σv σv') : GdS K mg W B Dn φd φv σv' r := by
  cases r with
  | err => exact h
  | nx σ => exact fun σ2 H2 s2 => h σ2 H2 (s.trans s2)
  | bk σ => exact fun σ2 H2 s2 => h σ2 H2 (s.trans s2)
  | ct σ => exact fun σ2 H2 s2 => h σ2 H2 (s.trans s2)
  | rt d σ => exact fun v σ2 H2 s2 => h v σ2 H2 (s.trans s2)
  | exc c ks vs σ => exact fun σ2 s2 => h σ2 (s.trans s2)
theorem GdS.ofE {α : Type} {r : Out α} {k : α → En → OutS} (h : GdS K mg W B Dn φd φv σv (OutS.ofE r k)) : Gd (fun a σ => GdS K mg W B Dn φd φv σv (k a σ)) (xW K mg φd φv σv W) r := by
  cases r with
  | err => exact h
  | ok a σ => exact h
  | exc c ks vs σ => exact h σv SB.refl
theorem ted_stepS {g : EF} {k : Hd → En → OutS} (w : WdH K mg H φd φv σd σv hs xs) (q : GdS K mg W B Dn φd φv σv (OutS.ofE (g σd) k)) :
    TEd K mg W g σv H fun y H2 => ∃ h σd2, WdH K mg H2 φd φv σd2 σv (hs ++ [h]) (xs ++ [y]) ∧ GdS K mg W B Dn φd φv σv (k h σd2) :=
  ⟨_, _, σd, w.wd, q.ofE.mono (fun h σ2 q2 y H2 w2 => ⟨h, σ2, w.app w2, q2⟩) fun c ks vs σ2 q2 => xW_drop w.len q2⟩
theorem tad_stepS {g : AF} {k : List Hd → En → OutS} (w : WdH K mg H φd φv σd σv hs xs) (q : GdS K mg W B Dn φd φv σv (OutS.ofE (g σd) k)) :
    TAd K mg W g σv H fun ys H2 => ∃ hs2 σd2, WdH K mg H2 φd φv σd2 σv (hs ++ hs2) (xs ++ ys) ∧ GdS K mg W B Dn φd φv σv (k hs2 σd2) :=
  ⟨_, _, σd, w.wd, q.ofE.mono (fun h σ2 q2 y H2 w2 => ⟨h, σ2, w.app w2, q2⟩) fun c ks vs σ2 q2 => xW_drop w.len q2⟩
theorem ttd_stepS {g : TF} {k : Bool → En → OutS} (w : Wd K mg H φd φv σd σv) (q : GdS K mg W B Dn φd φv σv (OutS.ofE (g σd) k)) :
    TTd K mg W g σv H fun b H2 => ∃ σd2, Wd K mg H2 φd φv σd2 σv ∧ GdS K mg W B Dn φd φv σv (k b σd2) :=
  ⟨φd, φv, σd, w, q.ofE.mono (fun b σ2 q2 H2 w2 => ⟨σ2, w2, q2⟩) fun c ks vs σ2 q2 => q2⟩
/-- one handle given away -/
theorem give1_ok {P : Hp → Prop} {h : Hd} {x : V} {d : D} {σd' : En} (w : WdH K mg H φd φv σd σv [h] [x]) (e : give [h] σd = some ([d], σd')) (k : ∀ H', Wd K mg H' (φd ++ [d]) (φv ++ [x]) σd' σv → GT H' P) : GT H P :=
  give_ok [h] w e fun H' w' _ => k H' w'
end
section
variable {X : Cx} {W : WX} {B : Nat → Bool} {e a b c : Expr} {es : List Expr} {fa fb fc : EF} {fs : AF} {ta : TF} {pos pos' : Pos} {st : Stmt} {rest sts sts' : List Stmt} {f g : SF}
def sDone : SF := fun σ => .nx σ
def sSeq (f g : SF) : SF := fun σ => match f σ with
  | .nx σ1 => g σ1
  | r => r
theorem lss_nil : LSs X W B [] sDone := PSs.imp pss_nil fun D σ H ⟨φd, φv, σd, w, q⟩ => q σ H SB.refl w
theorem tsd_seq {σv : L2.St} {H : Hp} {D : Ends} (h : TSd X.K X.mg W B (sSeq f g) D σv H) : tSeq (TSd X.K X.mg W B f) (TSd X.K X.mg W B g) D σv H := by
  obtain ⟨φd, φv, σd, w, q⟩ := h
  refine ⟨φd, φv, σd, w, ?_⟩
  unfold sSeq at q
  cases e : f σd with
  | nx σ1 => rw [e] at q; exact fun σv' H' s w' => ⟨φd, φv, σ1, w', q.sb s⟩
  | err => rw [e] at q; exact q
  | bk σ1 => rw [e] at q; exact q
  | ct σ1 => rw [e] at q; exact q
  | rt d σ1 => rw [e] at q; exact q
  | exc c ks vs σ1 => rw [e] at q; exact q
theorem lss_cons (h : LS X W B st f) (k : LSs X W B rest g) : LSs X W B (st :: rest) (sSeq f g) := PSs.imp (pss_cons h k) fun _ _ _ => tsd_seq
theorem lss_one (h : LS X W B st f) : LSs X W B [st] f := pss_one h
theorem ls_pass : LS X W B (.Pass pos) sDone := PS.imp ps_pass fun D σ H ⟨φd, φv, σd, w, q⟩ => q σ H SB.refl w
def sBrk : SF := fun σ => .bk σ
def sCont : SF := fun σ => .ct σ
theorem ls_brk : LS X W B (.Break pos) sBrk := PS.imp ps_break fun D σ H ⟨φd, φv, σd, w, q⟩ => q σ H SB.refl w
theorem ls_cont : LS X W B (.Continue pos) sCont := PS.imp ps_continue fun D σ H ⟨φd, φv, σd, w, q⟩ => q σ H SB.refl w
def sIf (t : TF) (f g : SF) : SF := fun σ => OutS.ofE (t σ) fun b σ1 => if b = true then f σ1 else g σ1
theorem ls_if (h : LT X W c ta) (hf : LSs X W B sts f) (hg : LSs X W B sts' g) : LS X W B (.If c sts sts' pos) (sIf ta f g) := PS.imp (ps_if h hf hg) fun D σ H ⟨φd, φv, σd, w, q⟩ => by
  obtain ⟨φd1, φv1, σd1, w1, q1⟩ := ttd_stepS w q
  refine ⟨φd1, φv1, σd1, w1, q1.mono (fun b σ1 k H1 w1 => ?_) fun _ _ _ _ q => q⟩
  obtain ⟨σ', w', q'⟩ := k H1 w1
  cases b with
  | true => rw [if_pos rfl] at q' ⊢; exact ⟨φd, φv, σ', w', q'⟩
  | false => rw [if_neg Bool.false_ne_true] at q' ⊢; exact ⟨φd, φv, σ', w', q'⟩
/-- an expression by itself -/
def sExpr (f : EF) : SF := fun σ => OutS.ofE (f σ) fun _ σ1 => .nx σ1
theorem ls_expr (h : LE X W e fa) (hs : swapsWith e none pos.line X.env = pure false := by rfl) : LS X W B (.Expr e pos) (sExpr fa) := PS.imp (ps_expr h hs) fun D σ H ⟨φd, φv, σd, w, q⟩ => by
  obtain ⟨φd1, φv1, σd1, w1, q1⟩ := ted_stepS (WdH.nil w) q
  refine ⟨φd1, φv1, σd1, w1, q1.mono (fun h1 σ1 k y H1 w1 => ?_) fun _ _ _ _ q => q⟩
  obtain ⟨h', σ', w', q'⟩ := k y H1 w1
  exact q' _ _ SB.refl w'.out
/-- return: what is its own goes out -/
def sRet (f : EF) : SF := fun σ => OutS.ofE (f σ) fun h σ1 => match h with
  | .val d => .rt d σ1
  | .sl i => match sget σ1 i with
    | some d => if fz d then .rt d σ1 else .rt d (σ1.set i none)
    | none => .err
theorem ls_ret (h : LE X W e fa) : LS X W B (.Return (some e) pos) (sRet fa) := PS.imp (ps_ret h) fun D σ H ⟨φd, φv, σd, w, q⟩ => by
  obtain ⟨φd1, φv1, σd1, w1, q1⟩ := ted_stepS (WdH.nil w) q
  refine ⟨φd1, φv1, σd1, w1, q1.mono (fun h1 σ1 k y H1 w1 => ?_) fun _ _ _ _ q => q⟩
  obtain ⟨h', σ', w', q'⟩ := k y H1 w1
  cases h' with
  | val d => exact q' _ _ _ SB.refl w'.wd
  | sl i =>
    dsimp only at q'
    split at q'
    · rename_i d e0
      have hy := w'.at_ 0 i y rfl rfl
      obtain ⟨v, ev, w2⟩ := w'.out.take (sget_some e0)
      rw [hy] at ev
      cases ev
      split at q'
      · rename_i hz
        obtain ⟨v, f, ev, r⟩ := w'.out.slot (sget_some e0)
        rw [hy] at ev
        cases ev
        have := r.fz hz
        subst this
        exact q' _ _ _ SB.refl (w'.out.push r)
      · exact q' _ _ _ SB.refl w2
    · exact q'.elim
def sRetN : SF := fun σ => .rt .non σ
theorem ls_retN : LS X W B (.Return none pos) sRetN := PS.imp ps_retN fun D σ H ⟨φd, φv, σd, w, q⟩ => q _ _ _ SB.refl (w.push .non)

/-! ### name = value -/
def sSet (i : Nat) (f : EF) : SF := fun σ => OutS.ofE (f σ) fun h σ1 => match give [h] σ1 with
  | some ([d], σ2) => if i < σ2.length then .nx (σ2.set i (some d)) else .err
  | _ => .err
theorem tsd_set {i : Nat} (hb : B i = false) {D : Ends} {σv : L2.St} {H : Hp} (h : TSd X.K X.mg W B (sSet i fa) D σv H) : TEd X.K X.mg W fa σv H fun x H1 => GT H1 fun H1 => D.nx (σv.set i (some x)) H1 := by
  obtain ⟨φd, φv, σd, w, q⟩ := h
  obtain ⟨φd1, φv1, σd1, w1, q1⟩ := ted_stepS (WdH.nil w) q
  refine ⟨φd1, φv1, σd1, w1, q1.mono (fun h1 σ1 k y H1 w1 => ?_) fun _ _ _ _ q => q⟩
  obtain ⟨h', σ', w', q'⟩ := k y H1 w1
  split at q'
  · rename_i d σ2 e0
    split at q'
    · rename_i hi
      exact give1_ok w' e0 fun H2 w2 => .here (q' _ _ (SB.set hb) (w2.store hi))
    · exact q'.elim
  · exact q'.elim
theorem ls_set {i : Nat} {x : Str} (hb : B i = false) (hN : X.N.Nodup) (hi : X.N[i]? = some x) (hx : Loc X.env.scope x) (he : LE X W e fa) (hs : swapsWith e (some (.Name x pos')) pos.line X.env = pure false := by rfl)
    (hf : X.fn x = true ∨ X.env.scope.names.lookup x = some .local := by first | exact .inl rfl | exact .inr rfl | assumption) : LS X W B (.Assign [.Name x pos'] e pos) (sSet i fa) :=
  PS.imp (ps_set hN hi hx (PE.gh he) hs hf) fun _ _ _ h => tsd_set hb h

/-! ### targets -/
section
variable (K : PySem.W.Frag) (mg : Str → Option Value) (W : WX) (B : Nat → Bool)
def GdG (Q : L2.St → Hp → Prop) (φd : List D) (φv : List V) (σv : L2.St) : Out Unit → Prop
  | .err => False
  | .ok _ σ => ∀ σv' H', SB B σv σv' → Wd K mg H' φd φv σ σv' → Q σv' H'
  | .exc c ks vs σ => ∀ σv', SB B σv σv' → xW K mg φd φv σv' W c ks vs σ
abbrev GF := D → En → Out Unit
abbrev GsF := List D → En → Out Unit
def TGd (g : GF) : TG := fun v σv H Q => ∃ φd φv σd d, Wd K mg H (φd ++ [d]) (φv ++ [v]) σd σv ∧ GdG K mg W B Q φd φv σv (g d σd)
def TGsd (g : GsF) : TGs := fun vs σv H Q => ∃ φd φv σd ds, ds.length = vs.length ∧ Wd K mg H (φd ++ ds) (φv ++ vs) σd σv ∧ GdG K mg W B Q φd φv σv (g ds σd)
end
abbrev LG (X : Cx) (W : WX) (B : Nat → Bool) (t : Expr) (g : GF) : Prop := PG X t (TGd X.K X.mg W B g)
abbrev LGs (X : Cx) (W : WX) (B : Nat → Bool) (t : List Expr) (g : GsF) : Prop := PGs X t (TGsd X.K X.mg W B g)
theorem PG.imp {t : Expr} {u u' : TG} (h : PG X t u) (k : ∀ v σ H Q, u' v σ H Q → u v σ H Q) : PG X t u' := ⟨fun pins s σ H v u Q I r q => h.run pins s σ H v u Q I r (k _ _ _ _ q)⟩
theorem PGs.imp {t : List Expr} {u u' : TGs} (h : PGs X t u) (k : ∀ v σ H Q, u' v σ H Q → u v σ H Q) : PGs X t u' := ⟨fun pins s σ H v u Q I r q => h.run pins s σ H v u Q I r (k _ _ _ _ q)⟩
theorem PG.gh {t : Expr} {u : TG} (h : PG X t u) : PG X t (fun v σ H Q => GT H fun H => u v σ H Q) := ⟨fun pins s σ H v u Q I r q => by
  obtain ⟨H2, I2, q2⟩ := Inv.ghost q I
  exact h.run pins s σ H2 v u Q I2 r q2⟩
def gdName (i : Nat) : GF := fun d σ => if i < σ.length then .ok () (σ.set i (some d)) else .err
theorem lg_name {i : Nat} {x : Str} (hb : B i = false) (hN : X.N.Nodup) (hi : X.N[i]? = some x) (hx : Loc X.env.scope x) (hf : X.fn x = true ∨ X.env.scope.names.lookup x = some .local := by first | exact .inl rfl | exact .inr rfl | assumption) :
    LG X W B (.Name x pos) (gdName i) := PG.imp (pg_name hN hi hx hf) fun v σ H Q ⟨φd, φv, σd, d, w, q⟩ => by
  unfold gdName at q
  split at q
  · rename_i hi
    exact q _ _ (SB.set hb) (w.store hi)
  · exact q.elim
def gsNil : GsF := fun ds σ => match ds with
  | [] => .ok () σ
  | _ => .err
def gsCons (g : GF) (gs : GsF) : GsF := fun ds σ => match ds with
  | d :: r => (g d σ).bind fun _ σ1 => gs r σ1
  | [] => .err
theorem lgs_nil : LGs X W B [] gsNil := PGs.imp pgs_nil fun vs σ H Q ⟨φd, φv, σd, ds, hl, w, q⟩ => by
  cases ds with
  | nil =>
    cases vs with
    | nil => exact ⟨rfl, q _ _ SB.refl (by simpa using w)⟩
    | cons v vs => cases hl
  | cons d ds => exact q.elim
theorem Wd.swap {K mg} {H : Hp} {φd ψd χd : List D} {φv ψv χv : List V} {σd : En} {σv : L2.St} (w : Wd K mg H (φd ++ ψd ++ χd) (φv ++ ψv ++ χv) σd σv) (l1 : ψd.length = ψv.length) (l2 : χd.length = χv.length) : Wd K mg H (φd ++ χd ++ ψd) (φv ++ χv ++ ψv) σd σv := by
  obtain ⟨f, t, g, r1, r2, q, nd⟩ := w.last l2
  obtain ⟨v1, v2, f1, f2, e, rfl, s1, s2⟩ := r1.split
  obtain ⟨e1, e2⟩ := List.append_inj' e (by rw [← s2.length]; exact l1.symm)
  subst e1 e2
  refine Wd.of_last (s1.append r2) s2 q ?_
  refine List.Perm.nodup_iff ?_ |>.mp nd
  simp only [List.append_assoc]
  refine List.Perm.append_left _ ?_
  rw [← List.append_assoc, ← List.append_assoc]
  exact List.Perm.append_right _ List.perm_append_comm
theorem lgs_cons {ts : List Expr} {g : GF} {gs : GsF} (h : LG X W B e g) (k : LGs X W B ts gs) (hs : (assignEach (e :: ts) X.env).map (·.2) = assign e X.env :: (assignEach ts X.env).map (·.2) := by rfl) : LGs X W B (e :: ts) (gsCons g gs) :=
  PGs.imp (pgs_cons h k hs) fun vs σ H Q ⟨φd, φv, σd, ds, hl, w, q⟩ => by
    cases ds with
    | nil => exact q.elim
    | cons d ds =>
      cases vs with
      | nil => cases hl
      | cons v vs =>
        refine ⟨v, vs, rfl, φd ++ ds, φv ++ vs, σd, d, ?_, ?_⟩
        · exact Wd.swap (ψd := [d]) (ψv := [v]) (by simpa using w) rfl (by simpa using hl)
        · have hl' : ds.length = vs.length := by simpa using hl
          have q : GdG X.K X.mg W B Q φd φv σ ((g d σd).bind fun _ σ1 => gs ds σ1) := q
          cases eg : g d σd with
          | err => rw [eg] at q; exact q
          | ok u σ1 =>
            rw [eg] at q
            refine fun σv' H' s w' => ⟨φd, φv, σ1, ds, hl', w', ?_⟩
            have q : GdG X.K X.mg W B Q φd φv σ (gs ds σ1) := q
            revert q
            cases gs ds σ1 with
            | err => exact id
            | ok u σ2 => exact fun q σ3 H3 s3 => q σ3 H3 (s.trans s3)
            | exc c ks vs σ2 => exact fun q σ3 s3 => q σ3 (s.trans s3)
          | exc c ks vs' σ1 =>
            rw [eg] at q
            exact fun σv' s C dd H' w' => q σv' s C dd H' (w'.drop hl')
def gdTup (n : Nat) (gs : GsF) : GF := fun d σ => match d with
  | .tup ds => if ds.length = n then gs ds σ else .err
  | _ => .err
theorem lg_tup {ts : List Expr} {k : Nat} {gs : GsF} {n : Nat} (hc : X.calm = true) (h : LGs X W B ts gs) (hn : (assignEach ts X.env).length = n := by rfl) (hst : (assignEach ts X.env).findIdx? (·.1) = none := by rfl) :
    LG X W B (.Tuple ts k pos) (gdTup n gs) := PG.imp (pg_tup hc h hn hst) fun v σ H Q ⟨φd, φv, σd, d, w, q⟩ => by
  unfold gdTup at q
  split at q
  · split at q
    · rename_i ds hl
      have r := w.lastRep rfl
      obtain ⟨p, xs, rfl, hp, r, _⟩ := r.tup_inv
      exact ⟨p, xs, rfl, hp, by rw [← r.length]; exact hl, φd, φv, σd, ds, r.length, (w.drop rfl).pushL r, q⟩
    · exact q.elim
  · exact q.elim
/-- target = value -/
def sAsg (f : EF) (g : GF) : SF := fun σ => OutS.ofE (f σ) fun h σ1 => match give [h] σ1 with
  | some ([d], σ2) => OutS.ofE (g d σ2) fun _ σ3 => .nx σ3
  | _ => .err
theorem GdS.gdg {K mg} {φd φv σv} {r : Out Unit} {D : Ends} (h : GdS K mg W B D φd φv σv (OutS.ofE r fun _ σ => .nx σ)) : GdG K mg W B D.nx φd φv σv r := by
  cases r with
  | err => exact h
  | ok u σ => exact h
  | exc c ks vs σ => exact h
theorem ls_asg {tg : Expr} {g : GF} (he : LE X W e fa) (hg : LG X W B tg g) (hs : swapsWithSole [tg] e pos.line X.env = pure false := by rfl) (hw : swappedStores [tg] e X.env = pure none := by rfl)
    (h1 : (assignEach [tg] X.env).map (·.2) = [assign tg X.env] := by rfl) : LS X W B (.Assign [tg] e pos) (sAsg fa g) := PS.imp (ps_asg he (PG.gh hg) hs hw h1) fun D σ H ⟨φd, φv, σd, w, q⟩ => by
  obtain ⟨φd1, φv1, σd1, w1, q1⟩ := ted_stepS (WdH.nil w) q
  refine ⟨φd1, φv1, σd1, w1, q1.mono (fun h1 σ1 k y H1 w1 => ?_) fun _ _ _ _ q => q⟩
  obtain ⟨h', σ', w', q'⟩ := k y H1 w1
  split at q'
  · rename_i d σ2 e0
    exact give1_ok w' e0 fun H2 w2 => .here ⟨φd, φv, σ2, d, w2, q'.gdg⟩
  · exact q'.elim
/-- t, .. = e, .. -/
def sPar (fs : AF) (gs : GsF) : SF := fun σ => OutS.ofE (fs σ) fun hs σ1 => match give hs σ1 with
  | some (ds, σ2) => if ds.length ≤ 16777216 then OutS.ofE (gs ds σ2) (fun _ σ3 => .nx σ3) else .err
  | _ => .err
theorem ls_parT {ts : List Expr} {x1 k : Nat} {gs : GsF} {n : Nat} {pt pe : Pos} (hc : X.calm = true) (h : LA X W es fs) (hg : LGs X W B ts gs) (hl : es.length = n) (hls : ∀ σ hs σ', fs σ = .ok hs σ' → hs.length = n) (hn : (assignEach ts X.env).length = n := by rfl) (hst : (assignEach ts X.env).findIdx? (·.1) = none := by rfl)
    (hs : swapsWithSole [.Tuple ts k pt] (.Tuple es x1 pe) pos.line X.env = pure false := by rfl) (hw : swappedStores [.Tuple ts k pt] (.Tuple es x1 pe) X.env = pure none := by rfl) (h1 : (assignEach [.Tuple ts k pt] X.env).map (·.2) = [assign (.Tuple ts k pt) X.env] := by rfl) :
    LS X W B (.Assign [.Tuple ts k pt] (.Tuple es x1 pe) pos) (sPar fs gs) :=
  PS.imp (ps_asg (pe_tup (PA.gh h)) (pg_tup hc hg hn hst) hs hw h1) fun D σ H ⟨φd, φv, σd, w, q⟩ => by
    have hlen := hls σd
    unfold sPar at q
    cases ef : fs σd with
    | err => rw [ef] at q; exact q.elim
    | exc c ks vs σ1 =>
      rw [ef] at q
      exact ⟨φd, φv, σd, w, by rw [ef]; exact q σ SB.refl⟩
    | ok hs σ1 =>
      rw [ef] at q
      refine ⟨φd, φv, σd, w, ?_⟩
      rw [ef]
      refine fun xs H1 w1 => ?_
      have hn' := hlen hs σ1 ef
      have q : GdS X.K X.mg W B D φd φv σ (match give hs σ1 with
        | some (ds, σ2) => if ds.length ≤ 16777216 then OutS.ofE (gs ds σ2) (fun _ σ3 => .nx σ3) else .err
        | _ => .err) := q
      split at q
      · rename_i ds σ2 e0
        split at q
        · rename_i hz
          refine give_ok _ w1 e0 fun H2 w2 hl2 => .here ⟨by rw [sizeLine_eq]; have hl3 : ds.length = xs.length := hl2; rw [← hl3]; exact hz, fun p hp => ⟨p, xs, rfl, .inl (.inl upd_same), by rw [← w1.len]; exact hn', φd, φv, σ2, ds, hl2, w2.fresh hp, q.gdg⟩⟩
        · exact q.elim
      · exact q.elim
theorem give_len : ∀ (hs : List Hd) {σ σ' : En} {ds : List D}, give hs σ = some (ds, σ') → ds.length = hs.length
  | [], σ, σ', ds, e => by simp [give] at e; obtain ⟨rfl, rfl⟩ := e; rfl
  | .val d :: r, σ, σ', ds, e => by
    simp only [give] at e
    split at e
    · rename_i ds2 σ2 e2
      cases e
      simp [give_len r e2]
    · cases e
  | .sl i :: r, σ, σ', ds, e => by
    simp only [give] at e
    split at e
    · split at e
      · rename_i ds2 σ2 e2
        cases e
        simp [give_len r e2]
      · cases e
    · cases e
def setAll (σ : L2.St) : List Nat → List V → L2.St
  | [], _ => σ
  | _ :: _, [] => σ
  | i :: is, v :: vs => setAll (σ.set i (some v)) is vs
def gsNames : List Nat → GsF
  | [] => gsNil
  | i :: is => gsCons (gdName i) (gsNames is)
theorem names_run {K mg} {Q : L2.St → Hp → Prop} {H : Hp} {φd : List D} {φv : List V} : ∀ (is : List Nat) {ds : List D} {vs : List V} {σd : En} {σv : L2.St}, (∀ i ∈ is, B i = false) → GdG K mg W B Q φd φv σv (gsNames is ds σd) → Wd K mg H (φd ++ ds) (φv ++ vs) σd σv → ds.length = vs.length →
    vs.length = is.length ∧ Q (setAll σv is vs) H
  | [], [], [], σd, σv, hb, q, w, hl => ⟨rfl, q σv H SB.refl (by simpa using w)⟩
  | [], [], v :: vs, σd, σv, hb, q, w, hl => by cases hl
  | [], d :: ds, vs, σd, σv, hb, q, w, hl => q.elim
  | i :: is, [], vs, σd, σv, hb, q, w, hl => q.elim
  | i :: is, d :: ds, [], σd, σv, hb, q, w, hl => by cases hl
  | i :: is, d :: ds, v :: vs, σd, σv, hb, q, w, hl => by
    have q : GdG K mg W B Q φd φv σv ((gdName i d σd).bind fun _ σ1 => gsNames is ds σ1) := q
    unfold gdName at q
    split at q
    · rename_i hi
      have hl' : ds.length = vs.length := by simpa using hl
      have sb : SB B σv (σv.set i (some v)) := SB.set (hb i List.mem_cons_self)
      have q2 : GdG K mg W B Q φd φv (σv.set i (some v)) (gsNames is ds (σd.set i (some d))) := by
        have q : GdG K mg W B Q φd φv σv (gsNames is ds (σd.set i (some d))) := q
        revert q
        cases gsNames is ds (σd.set i (some d)) with
        | err => exact id
        | ok u σ2 => exact fun q σ3 H3 s3 => q σ3 H3 (sb.trans s3)
        | exc c ks vs σ2 => exact fun q σ3 s3 => q σ3 (sb.trans s3)
      have w3 : Wd K mg H (φd ++ [d] ++ ds) (φv ++ [v] ++ vs) σd σv := by simpa using w
      have w4 := (Wd.swap (ψd := [d]) (ψv := [v]) w3 rfl hl').store hi
      obtain ⟨h1, h2⟩ := names_run is (fun j hj => hb j (List.mem_cons_of_mem _ hj)) q2 w4 hl'
      exact ⟨by simp [h1], h2⟩
    · exact q.elim
theorem tad_par {is : List Nat} (hb : ∀ i ∈ is, B i = false) {D : Ends} {σ : L2.St} {H : Hp} (h : TSd X.K X.mg W B (sPar fs (gsNames is)) D σ H) : TAd X.K X.mg W fs σ H fun vs H1 => GT H1 fun H1 => vs.length = is.length ∧ D.nx (setAll σ is vs) H1 := by
  obtain ⟨φd, φv, σd, w, q⟩ := h
  obtain ⟨φd1, φv1, σd1, w1, q1⟩ := tad_stepS (WdH.nil w) q
  refine ⟨φd1, φv1, σd1, w1, q1.mono (fun h1 σ1 k y H1 w1 => ?_) fun _ _ _ _ q => q⟩
  obtain ⟨hs', σ', w', q'⟩ := k y H1 w1
  have w' : WdH X.K X.mg H1 φd φv σ' σ hs' y := w'
  split at q'
  · rename_i ds σ2 e0
    split at q'
    · exact give_ok _ w' e0 fun H2 w2 hl2 => .here (names_run is hb q'.gdg w2 hl2)
    · exact q'.elim
  · exact q'.elim
/-- two plain local names: the stores are exchanged -/
theorem ls_par2 {i j : Nat} {x y : Str} {px py pt : Pos} {kt k2 pt2} (bi : B i = false) (bj : B j = false) (hc : X.calm = true) (hN : X.N.Nodup) (hi : X.N[i]? = some x) (hj : X.N[j]? = some y) (hij : i ≠ j)
    (hx : X.env.scope.names.lookup x = some .local) (hy : X.env.scope.names.lookup y = some .local) (ha : LA X W [a, b] fs)
    (hw : swappedStores [.Tuple [.Name x px, .Name y py] kt pt] (.Tuple [a, b] k2 pt2) X.env = pure (some [x, y]))
    (hs : swapsWithSole [.Tuple [.Name x px, .Name y py] kt pt] (.Tuple [a, b] k2 pt2) pos.line X.env = pure false := by rfl) :
    LS X W B (.Assign [.Tuple [.Name x px, .Name y py] kt pt] (.Tuple [a, b] k2 pt2) pos) (sPar fs (gsNames [i, j])) :=
  PS.imp (ps_par hc hN hi hj hij hx hy (PA.gh ha) hw hs) fun D σ H h => by
    obtain ⟨φd, φv, σd, w, q⟩ := tad_par (is := [i, j]) (by simp [bi, bj]) h
    refine ⟨φd, φv, σd, w, q.mono (fun hs σ1 k ys H1 w1 => (k ys H1 w1).mono fun H2 ⟨hl, q2⟩ => ?_) fun _ _ _ _ q => q⟩
    match ys, hl, q2 with
    | [y1, y2], _, q2 => exact ⟨y1, y2, rfl, q2⟩
theorem ls_par3 {i j l : Nat} {x y z : Str} {px py pz pt : Pos} {kt k2 pt2} (bi : B i = false) (bj : B j = false) (bl : B l = false) (hc : X.calm = true) (hN : X.N.Nodup) (hi : X.N[i]? = some x) (hj : X.N[j]? = some y) (hl : X.N[l]? = some z) (hij : i ≠ j) (hil : i ≠ l) (hjl : j ≠ l)
    (hx : X.env.scope.names.lookup x = some .local) (hy : X.env.scope.names.lookup y = some .local) (hz : X.env.scope.names.lookup z = some .local) (ha : LA X W [a, b, c] fs)
    (hw : swappedStores [.Tuple [.Name x px, .Name y py, .Name z pz] kt pt] (.Tuple [a, b, c] k2 pt2) X.env = pure (some [x, y, z]))
    (hs : swapsWithSole [.Tuple [.Name x px, .Name y py, .Name z pz] kt pt] (.Tuple [a, b, c] k2 pt2) pos.line X.env = pure false := by rfl) :
    LS X W B (.Assign [.Tuple [.Name x px, .Name y py, .Name z pz] kt pt] (.Tuple [a, b, c] k2 pt2) pos) (sPar fs (gsNames [i, j, l])) :=
  PS.imp (ps_par3 hc hN hi hj hl hij hil hjl hx hy hz (PA.gh ha) hw hs) fun D σ H h => by
    obtain ⟨φd, φv, σd, w, q⟩ := tad_par (is := [i, j, l]) (by simp [bi, bj, bl]) h
    refine ⟨φd, φv, σd, w, q.mono (fun hs σ1 k ys H1 w1 => (k ys H1 w1).mono fun H2 ⟨hl, q2⟩ => ?_) fun _ _ _ _ q => q⟩
    match ys, hl, q2 with
    | [y1, y2, y3], _, q2 => exact ⟨y1, y2, y3, rfl, q2⟩
end
end DL
namespace DL
open PySem PySem.Spec PyProof.Rows L2

section
variable {K : PySem.W.Frag} {mg : Str → Option Value} {H H' : Hp} {φd ψd : List D} {φv ψv : List V} {σd : En} {σv : L2.St}
/-- an own list in a slot is changed; temporaries go in or come out -/
theorem Wd.lstMod (w : Wd K mg H (φd ++ ψd) (φv ++ ψv) σd σv) (l : ψd.length = ψv.length) {i : Nat} {ds : List D} (e : σd[i]? = some (some (.lst true ds))) :
    ∃ p xs, σv[i]? = some (some (.ref p)) ∧ H p = some (.lst xs) ∧ ds.length = xs.length ∧ ∀ (ds' : List D) (xs' : List V) (χd : List D) (χv : List V),
      (∀ (fl ft : List Addr), RepL K mg H ds xs fl → RepL K mg H ψd ψv ft → (fl ++ ft).Nodup → ∃ f' g', RepL K mg H ds' xs' f' ∧ RepL K mg H χd χv g' ∧ (f' ++ g').Nodup ∧ ∀ b ∈ f' ++ g', b ∈ fl ++ ft) →
      Wd K mg (upd H p (.lst xs')) (φd ++ χd) (φv ++ χv) (σd.set i (some (.lst true ds'))) σv := by
  obtain ⟨f, t, g, r1, r2, q, nd⟩ := w.last l
  obtain ⟨v, P, m, S, e1, eg, rd, k1, _⟩ := q.at e
  cases rd with
  | lstO h r =>
    rename_i a xs fl
    subst eg
    refine ⟨a, xs, e1, h, r.length, fun ds' xs' χd χv k => ?_⟩
    have st : Stp H (upd H a (.lst xs')) := Stp.lst h
    -- the footprint, in order: a, then the rest
    have nd2 : (a :: (f ++ (P ++ S) ++ (fl ++ t))).Nodup := by
      refine List.Perm.nodup_iff ?_ |>.mp nd
      rw [List.perm_iff_count]
      intro z
      simp only [List.count_append, List.count_cons]
      omega
    obtain ⟨na, nd3⟩ := List.nodup_cons.mp nd2
    obtain ⟨n1, n2, n3⟩ := List.nodup_append.mp nd3
    obtain ⟨f', g', s1, s2, n4, sub⟩ := k fl t r r2 n2
    have keep : ∀ b, b ∈ f ++ (P ++ S) ++ (fl ++ t) → upd H a (.lst xs') b = H b := fun b hb => upd_ne fun z => na (z ▸ hb)
    have kF : ∀ b ∈ f, upd H a (.lst xs') b = H b := fun b hb => keep b (by simp [hb])
    have kP : ∀ b ∈ P ++ S, upd H a (.lst xs') b = H b := fun b hb => keep b (by simp at hb ⊢; rcases hb with hb | hb <;> simp [hb])
    have kN : ∀ b ∈ f' ++ g', upd H a (.lst xs') b = H b := fun b hb => keep b (List.mem_append_right _ (sub b hb))
    have rl : RepD K mg (upd H a (.lst xs')) (.lst true ds') (.ref a) (a :: f') := .lstO upd_same (s1.mono st _ fun b hb => kN b (List.mem_append_left _ hb))
    have q2 := k1 _ _ _ _ st kP rl
    have ev : σv.set i (some (V.ref a)) = σv := by
      obtain ⟨hi, e2⟩ := List.getElem?_eq_some_iff.mp e1
      rw [← e2]; exact List.set_getElem_self hi
    rw [ev] at q2
    refine Wd.of_last (r1.mono st _ kF) (s2.mono st _ fun b hb => kN b (List.mem_append_right _ hb)) q2 ?_
    have nd5 : (a :: (f ++ (P ++ S) ++ (f' ++ g'))).Nodup := by
      refine List.nodup_cons.mpr ⟨fun z => na ?_, List.nodup_append.mpr ⟨n1, n4, fun x hx y hy => n3 x hx y (sub y hy)⟩⟩
      rcases List.mem_append.mp z with z | z
      · exact List.mem_append_left _ z
      · exact List.mem_append_right _ (sub a z)
    refine List.Perm.nodup_iff ?_ |>.mp nd5
    rw [List.perm_iff_count]
    intro z
    simp only [List.count_append, List.count_cons]
    omega
def putKs (f : Str) : List Str → List Str
  | [] => [f]
  | k :: ks => if k = f then k :: ks else k :: putKs f ks
def putDs (f : Str) (d : D) : List Str → List D → List D
  | [], _ => [d]
  | _ :: _, [] => [d]
  | k :: ks, v :: vs => if k = f then d :: vs else v :: putDs f d ks vs
theorem putF_keys (f : Str) (v : V) : ∀ fs : List (Str × V), (putF f v fs).map (·.1) = putKs f (fs.map (·.1))
  | [] => rfl
  | (g, x) :: r => by
    show List.map (·.1) (if g = f then (g, v) :: r else (g, x) :: putF f v r) = if g = f then g :: r.map (·.1) else g :: putKs f (r.map (·.1))
    by_cases h : g = f
    · rw [if_pos h, if_pos h]; rfl
    · rw [if_neg h, if_neg h, ← putF_keys f v r]; rfl
theorem putF_rep {f : Str} {v : V} {d : D} {ft : List Addr} (rd : RepD K mg H d v ft) : ∀ (fs : List (Str × V)) {ds : List D} {fl : List Addr}, RepL K mg H ds (fs.map (·.2)) fl → (fl ++ ft).Nodup →
    ∃ f', RepL K mg H (putDs f d (fs.map (·.1)) ds) ((putF f v fs).map (·.2)) f' ∧ f'.Nodup ∧ ∀ b ∈ f', b ∈ fl ++ ft
  | [], ds, fl, r, nd => by
    cases r
    exact ⟨ft, .one rd, by simpa using nd, fun b hb => by simpa using hb⟩
  | (g, x) :: r, [], fl, rl, nd => by cases rl
  | (g, x) :: r, d0 :: ds, fl, rl, nd => by
    have rl : RepL K mg H (d0 :: ds) (x :: r.map (·.2)) fl := rl
    cases rl with
    | cons h0 h1 =>
      rename_i g0 g1
      show ∃ f', RepL K mg H (if g = f then d :: ds else d0 :: putDs f d (r.map (·.1)) ds) (List.map (·.2) (if g = f then (g, v) :: r else (g, x) :: putF f v r)) f' ∧ _
      obtain ⟨n1, n2, n3⟩ := List.nodup_append.mp nd
      obtain ⟨m1, m2, m3⟩ := List.nodup_append.mp n1
      by_cases h : g = f
      · rw [if_pos h, if_pos h]
        refine ⟨ft ++ g1, .cons rd h1, List.nodup_append.mpr ⟨n2, m2, fun a ha b hb e => n3 b (List.mem_append_right _ hb) a ha e.symm⟩, fun b hb => ?_⟩
        simp at hb ⊢
        rcases hb with hb | hb <;> simp [hb]
      · rw [if_neg h, if_neg h]
        obtain ⟨f', s1, s2, s3⟩ := putF_rep rd r h1 (List.nodup_append.mpr ⟨m2, n2, fun a ha b hb => n3 a (List.mem_append_right _ ha) b hb⟩)
        refine ⟨g0 ++ f', .cons h0 s1, List.nodup_append.mpr ⟨m1, s2, fun a ha b hb e => ?_⟩, fun b hb => ?_⟩
        · rcases List.mem_append.mp (s3 b hb) with z | z
          · exact m3 a ha b z e
          · exact n3 a (List.mem_append_left _ ha) b z e
        · rcases List.mem_append.mp hb with z | z
          · simp [z]
          · have := s3 b z
            simp at this ⊢
            rcases this with z | z <;> simp [z]
/-- an own instance in a slot gets a field -/
theorem Wd.insMod {d : D} {v : V} (w : Wd K mg H (φd ++ [d]) (φv ++ [v]) σd σv) {i : Nat} {n : Str} {ks : List Str} {ds : List D} (e : σd[i]? = some (some (.ins true n ks ds))) :
    ∃ p C dx fs, σv[i]? = some (some (.ref p)) ∧ H p = some (.ins C dx fs) ∧ ks = fs.map (·.1) ∧ mg n = some (.ref C) ∧ InsC K C ∧ ∀ (f : Str), NoAttr K C f →
      Wd K mg (upd H p (.ins C dx (putF f v fs))) φd φv (σd.set i (some (.ins true n (putKs f ks) (putDs f d ks ds)))) σv := by
  obtain ⟨F, t, g, r1, r2, q, nd⟩ := w.last rfl
  obtain ⟨v0, P, m, S, e1, eg, rd, k1, _⟩ := q.at e
  cases rd with
  | insO h c ic na r =>
    rename_i a C dx fs fl
    subst eg
    refine ⟨a, C, dx, fs, e1, h, rfl, c, ic, fun f hf => ?_⟩
    obtain ⟨v', ev', rt⟩ := r2.one_inv
    cases ev'
    have st : Stp H (upd H a (.ins C dx (putF f v fs))) := Stp.ins h
    have nd2 : (a :: (F ++ (P ++ S) ++ (fl ++ t))).Nodup := by
      refine List.Perm.nodup_iff ?_ |>.mp nd
      rw [List.perm_iff_count]
      intro z
      simp only [List.count_append, List.count_cons]
      omega
    obtain ⟨ha, nd3⟩ := List.nodup_cons.mp nd2
    obtain ⟨n1, n2, n3⟩ := List.nodup_append.mp nd3
    obtain ⟨f', s1, n4, sub⟩ := putF_rep (f := f) rt fs r n2
    have keep : ∀ b, b ∈ F ++ (P ++ S) ++ (fl ++ t) → upd H a (.ins C dx (putF f v fs)) b = H b := fun b hb => upd_ne fun z => ha (z ▸ hb)
    have kF : ∀ b ∈ F, upd H a (.ins C dx (putF f v fs)) b = H b := fun b hb => keep b (by simp [hb])
    have kP : ∀ b ∈ P ++ S, upd H a (.ins C dx (putF f v fs)) b = H b := fun b hb => keep b (by simp at hb ⊢; rcases hb with hb | hb <;> simp [hb])
    have kN : ∀ b ∈ f', upd H a (.ins C dx (putF f v fs)) b = H b := fun b hb => keep b (List.mem_append_right _ (sub b hb))
    have rl : RepD K mg (upd H a (.ins C dx (putF f v fs))) (.ins true n ((putF f v fs).map (·.1)) (putDs f d (fs.map (·.1)) ds)) (.ref a) (a :: f') :=
      .insO upd_same c ic (fun y hy => by
        obtain ⟨y', hy1, rfl⟩ := List.mem_map.mp hy
        rw [putF_keys] at hy
        have key : ∀ l : List Str, y'.1 ∈ putKs f l → y'.1 = f ∨ y'.1 ∈ l := by
          intro l
          induction l with
          | nil => intro h; exact .inl (by simpa [putKs] using h)
          | cons k l ih =>
            intro h
            unfold putKs at h
            split at h
            · exact .inr h
            · rcases List.mem_cons.mp h with z | z
              · exact .inr (by rw [z]; exact List.mem_cons_self)
              · rcases ih z with z | z
                · exact .inl z
                · exact .inr (List.mem_cons_of_mem _ z)
        rcases key _ hy with z | z
        · rw [z]; exact hf
        · exact na _ z) (s1.mono st _ kN)
    rw [putF_keys] at rl
    have q2 := k1 _ _ _ _ st kP rl
    have ev : σv.set i (some (V.ref a)) = σv := by
      obtain ⟨hi, e2⟩ := List.getElem?_eq_some_iff.mp e1
      rw [← e2]; exact List.set_getElem_self hi
    rw [ev] at q2
    refine ⟨F, _, r1.mono st _ kF, q2, ?_⟩
    have nd5 : (a :: (F ++ (P ++ S) ++ f')).Nodup := by
      refine List.nodup_cons.mpr ⟨fun z => ha ?_, List.nodup_append.mpr ⟨n1, n4, fun x hx y hy => n3 x hx y (sub y hy)⟩⟩
      rcases List.mem_append.mp z with z | z
      · exact List.mem_append_left _ z
      · exact List.mem_append_right _ (sub a z)
    refine List.Perm.nodup_iff ?_ |>.mp nd5
    rw [List.perm_iff_count]
    intro z
    simp only [List.count_append, List.count_cons]
    omega
end
section
variable {K : PySem.W.Frag} {mg : Str → Option Value} {W : WX} {B : Nat → Bool} {H H' : Hp} {φd : List D} {φv : List V} {σd : En} {σv : L2.St} {hs : List Hd} {xs : List V} {Q : L2.St → Hp → Prop}
theorem GdG.bind {α : Type} {r : Out α} {k : α → En → Out Unit} (h : GdG K mg W B Q φd φv σv (r.bind k)) : Gd (fun a σ => GdG K mg W B Q φd φv σv (k a σ)) (xW K mg φd φv σv W) r := by
  cases r with
  | err => exact h
  | ok a σ => exact h
  | exc c ks vs σ => exact h σv SB.refl
theorem ted_stepG {g : EF} {k : Hd → En → Out Unit} (w : WdH K mg H φd φv σd σv hs xs) (q : GdG K mg W B Q φd φv σv ((g σd).bind k)) :
    TEd K mg W g σv H fun y H2 => ∃ h σd2, WdH K mg H2 φd φv σd2 σv (hs ++ [h]) (xs ++ [y]) ∧ GdG K mg W B Q φd φv σv (k h σd2) :=
  ⟨_, _, σd, w.wd, q.bind.mono (fun h σ2 q2 y H2 w2 => ⟨h, σ2, w.app w2, q2⟩) fun c ks vs σ2 q2 => xW_drop w.len q2⟩
/-- the first temporaries kept, the later handles let go -/
theorem WdH.keep1 {d : D} {v : V} (w : WdH K mg H φd φv σd σv (.val d :: hs) (v :: xs)) : Wd K mg H (φd ++ [d]) (φv ++ [v]) σd σv := by
  have hl : hs.length = xs.length := by have := w.len; simpa using this
  have w2 : Wd K mg H (φd ++ (d :: tmpD hs)) (φv ++ (v :: tmpV hs xs)) σd σv := w.wd
  have w3 : Wd K mg H (φd ++ [d] ++ tmpD hs) (φv ++ [v] ++ tmpV hs xs) σd σv := by simpa using w2
  exact w3.drop (tmp_length _ _ hl)
end
section
variable {X : Cx} {W : WX} {B : Nat → Bool} {e a b c o i : Expr} {es : List Expr} {fa fb fo fi : EF} {fs : AF} {pos pos' : Pos}
/-- o[i] = .. -/
def gdSub (fo fi : EF) : GF := fun d σ => (fo σ).bind fun ho σ1 => (fi σ1).bind fun hi σ2 => match ho, deref hi σ2 with
  | .sl j, some (.int k) => match sget σ2 j with
    | some (.lst true ds) => match ixN ds.length k with
      | some n => .ok () (σ2.set j (some (.lst true (ds.set n d))))
      | none => .err
    | _ => .err
  | _, _ => .err
theorem RepL.setN {K mg} {H : Hp} : ∀ {ds : List D} {xs : List V} {fl : List Addr} (n : Nat) {d : D} {v : V} {ft : List Addr}, RepL K mg H ds xs fl → RepD K mg H d v ft → (fl ++ ft).Nodup →
    ∃ f', RepL K mg H (ds.set n d) (xs.set n v) f' ∧ f'.Nodup ∧ ∀ b ∈ f', b ∈ fl ++ ft
  | [], xs, fl, n, d, v, ft, r, rd, nd => by cases r; exact ⟨[], .nil, .nil, fun b hb => nomatch hb⟩
  | d0 :: ds, xs, fl, 0, d, v, ft, r, rd, nd => by
    cases r with
    | cons h0 h1 =>
      rename_i v0 g0 vs g1
      obtain ⟨n1, n2, n3⟩ := List.nodup_append.mp nd
      obtain ⟨m1, m2, m3⟩ := List.nodup_append.mp n1
      refine ⟨ft ++ g1, .cons rd h1, List.nodup_append.mpr ⟨n2, m2, fun a ha b hb e => n3 b (List.mem_append_right _ hb) a ha e.symm⟩, fun b hb => ?_⟩
      simp at hb ⊢
      rcases hb with hb | hb <;> simp [hb]
  | d0 :: ds, xs, fl, n + 1, d, v, ft, r, rd, nd => by
    cases r with
    | cons h0 h1 =>
      rename_i v0 g0 vs g1
      obtain ⟨n1, n2, n3⟩ := List.nodup_append.mp nd
      obtain ⟨m1, m2, m3⟩ := List.nodup_append.mp n1
      obtain ⟨f', s1, s2, s3⟩ := RepL.setN n h1 rd (List.nodup_append.mpr ⟨m2, n2, fun a ha b hb => n3 a (List.mem_append_right _ ha) b hb⟩)
      refine ⟨g0 ++ f', .cons h0 s1, List.nodup_append.mpr ⟨m1, s2, fun a ha b hb e => ?_⟩, fun b hb => ?_⟩
      · rcases List.mem_append.mp (s3 b hb) with z | z
        · exact m3 a ha b z e
        · exact n3 a (List.mem_append_left _ ha) b z e
      · rcases List.mem_append.mp hb with z | z
        · simp [z]
        · have := s3 b z
          simp at this ⊢
          rcases this with z | z <;> simp [z]
theorem lg_sub (ho : LE X W o fo) (hi : LE X W i fi)
    (ha : ∀ v, assign (.Subscript o i pos) X.env v = (do
      let ov ← holding [v] (eval o X.env)
      let iv ← holding [v, ov] (eval i X.env)
      standAt pos
      holding [v, ov, iv] (setItem ov iv v)
      release [v, ov, iv] []) := by intro _; rfl) : LG X W B (.Subscript o i pos) (gdSub fo fi) := PG.imp (pg_sub ho hi set_list ha) fun v σ H Q ⟨φd, φv, σd, d, w, q⟩ => by
  obtain ⟨φd1, φv1, σd1, w1, q1⟩ := ted_stepG (WdH.val w) q
  refine ⟨φd1, φv1, σd1, w1, q1.mono (fun h1 σ1 k y H1 w1 => ?_) fun _ _ _ _ q => q⟩
  obtain ⟨h', σ', w', q'⟩ := k y H1 w1
  obtain ⟨φd2, φv2, σd2, w2, q2⟩ := ted_stepG w' q'
  refine ⟨φd2, φv2, σd2, w2, q2.mono (fun h2 σ2 k2 z H2 w2 => ?_) fun _ _ _ _ q => q⟩
  obtain ⟨h3, σ3, w3, q3⟩ := k2 z H2 w2
  split at q3
  · rename_i j kk e1
    obtain ⟨f, r1⟩ := w3.rep (k := 2) rfl rfl e1
    cases r1
    split at q3
    · rename_i ds e2
      split at q3
      · rename_i n e3
        have hj := w3.at_ 1 j y rfl rfl
        have w4 : Wd X.K X.mg H2 (φd ++ [d]) (φv ++ [v]) σ3 σ := w3.keep1
        obtain ⟨p, xs, e4, hp, hl, mod⟩ := w4.lstMod rfl (sget_some e2)
        rw [hj] at e4
        cases e4
        refine ⟨p, xs, kk, n, rfl, rfl, hp, by rw [← hl]; exact e3, q3 _ _ SB.refl ?_⟩
        have w5 := mod (ds.set n d) (xs.set n v) [] [] fun fl ft rl rt nd => by
          obtain ⟨v', ev, rd⟩ := rt.one_inv
          cases ev
          obtain ⟨f', s1, s2, s3⟩ := RepL.setN n rl rd nd
          exact ⟨f', [], s1, .nil, by simpa using s2, by simpa using s3⟩
        simpa using w5
      · exact q3.elim
    · exact q3.elim
  · exact q3.elim

/-! ### o.f = value -/
def sFldD (n f : Str) (fo fv : EF) : SF := fun σ => OutS.ofE (fv σ) fun hv σ1 => match give [hv] σ1 with
  | some ([d], σ2) => OutS.ofE (fo σ2) fun ho σ3 => match ho with
    | .sl j => match sget σ3 j with
      | some (.ins true c ks ds) => if c = n ∧ ks.length < 1000 then .nx (σ3.set j (some (.ins true c (putKs f ks) (putDs f d ks ds)))) else .err
      | _ => .err
    | _ => .err
  | _ => .err
theorem ls_fld {n f : Str} {value : Expr} {fv : EF} (hA : ∀ C, X.mg n = some (.ref C) → NoAttr X.K C f) (ho : LE X W o fo) (hv : LE X W value fv) (hs : swapsWith value (some (.Attribute o f pos')) pos.line X.env = pure false := by rfl) :
    LS X W B (.Assign [.Attribute o f pos'] value pos) (sFldD n f fo fv) := PS.imp (ps_fld ho (PE.gh hv) hs) fun D σ H ⟨φd, φv, σd, w, q⟩ => by
  obtain ⟨φd1, φv1, σd1, w1, q1⟩ := ted_stepS (WdH.nil w) q
  refine ⟨φd1, φv1, σd1, w1, q1.mono (fun h1 σ1 k y H1 w1 => ?_) fun _ _ _ _ q => q⟩
  obtain ⟨h', σ', w', q'⟩ := k y H1 w1
  split at q'
  · rename_i d σ2 e0
    refine give1_ok w' e0 fun H2 w2 => .here ?_
    obtain ⟨φd2, φv2, σd2, w3, q2⟩ := ted_stepS (WdH.val w2) q'
    refine ⟨φd2, φv2, σd2, w3, q2.mono (fun h2 σ3 k2 z H3 w3 => ?_) fun _ _ _ _ q => q⟩
    obtain ⟨h4, σ4, w4, q4⟩ := k2 z H3 w3
    split at q4
    · rename_i j
      split at q4
      · rename_i c ks ds e2
        split at q4
        · rename_i hc
          obtain ⟨rfl, hz⟩ := hc
          have hj := w4.at_ 1 j z rfl rfl
          obtain ⟨p, C, dx, fs, e4, hp, rfl, hm, ic, mod⟩ := w4.keep1.insMod (sget_some e2)
          rw [hj] at e4
          cases e4
          refine ⟨p, C, dx, fs, rfl, hp, ic.cl, hA C hm, by simpa using hz, q4 _ _ SB.refl (mod f (hA C hm))⟩
        · exact q4.elim
      · exact q4.elim
    · exact q4.elim
  · exact q'.elim

/-! ### a value that from now on nobody changes -/
def eShr (f : EF) : EF := fun σ => (f σ).bind fun h σ1 => match give [h] σ1 with
  | some ([d], σ2) => .ok (.val (share d)) σ2
  | _ => .err
theorem le_shr (h : LE X W e fa) : LE X W e (eShr fa) := PE.imp (PE.gh h) fun σ H Q ⟨φd, φv, σd, w, q⟩ => by
  obtain ⟨φd1, φv1, σd1, w1, q1⟩ := ted_step (WdH.nil w) q
  refine ⟨φd1, φv1, σd1, w1, q1.mono (fun h1 σ1 k y H1 w1 => ?_) fun _ _ _ _ q => q⟩
  obtain ⟨h', σ', w', q'⟩ := k y H1 w1
  split at q'
  · rename_i d σ2 e0
    refine give_ok _ w' e0 fun H2 w2 hl => w2.shareTemps (ψd := [d]) (ψv := [y]) rfl fun H3 w3 => .here (q' _ _ (WdH.val ?_))
    simpa [shareL] using w3
  · exact q'.elim

/-! ### the footprint is told by the tree and the heap -/
mutual
theorem RepD.fp_uniq {K mg} {H : Hp} : ∀ {d : D} {v : V} {f g : List Addr}, RepD K mg H d v f → RepD K mg H d v g → f = g
  | .non, _, _, _, h, k => by cases h; cases k; rfl
  | .bl _, _, _, _, h, k => by cases h; cases k; rfl
  | .int _, _, _, _, h, k => by cases h; cases k; rfl
  | .str _, _, _, _, h, k => by cases h; cases k; rfl
  | .ty _, _, _, _, h, k => by cases h; cases k; rfl
  | .fn _, _, _, _, h, k => by cases h; cases k; rfl
  | .dct false _ _, _, _, _, h, k => by rw [h.fz rfl, k.fz rfl]
  | .dct true ks ds, _, _, _, h, k => by
    generalize ek : ks = ks' at k
    cases h with
    | dctO h r =>
      cases k with
      | dctO h' r' =>
        rw [h] at h'; cases h'
        rw [RepL.fp_uniq r r']
  | .scr _, _, _, _, h, k => by rw [h.fz rfl, k.fz rfl]
  | .gone, _, _, _, h, k => by rw [h.fz rfl, k.fz rfl]
  | .exn _ _ _ _ _, _, _, _, h, k => by rw [h.fz rfl, k.fz rfl]
  | .lam _ _ _ _ ds, _, _, _, h, k => by
    cases h with
    | lam h r =>
      cases k with
      | lam h' r' => exact RepL.fp_uniq r r'
  | .tab _ _, _, _, _, h, k => by cases h; cases k; rfl
  | .tup _, _, _, _, h, k => by rw [h.fz rfl, k.fz rfl]
  | .lst false _, _, _, _, h, k => by rw [h.fz rfl, k.fz rfl]
  | .ins false _ _ _, _, _, _, h, k => by rw [h.fz rfl, k.fz rfl]
  | .lst true ds, _, _, _, h, k => by
    cases h with
    | lstO h r =>
      cases k with
      | lstO h' r' =>
        rw [h] at h'; cases h'
        rw [RepL.fp_uniq r r']
  | .ins true n ks ds, _, _, _, h, k => by
    generalize ek : ks = ks' at k
    cases h with
    | insO h c q na r =>
      cases k with
      | insO h' c' q' na' r' =>
        rw [h] at h'; cases h'
        rw [RepL.fp_uniq r r']
theorem RepL.fp_uniq {K mg} {H : Hp} : ∀ {ds : List D} {vs : List V} {f g : List Addr}, RepL K mg H ds vs f → RepL K mg H ds vs g → f = g
  | [], _, _, _, h, k => by cases h; cases k; rfl
  | d :: ds, _, _, _, h, k => by
    cases h with
    | cons h r =>
      cases k with
      | cons h' r' => rw [RepD.fp_uniq h h', RepL.fp_uniq r r']
end
end
end DL
namespace DL
open PySem PySem.Spec PyProof.Rows L2

section
variable {X : Cx} {W : WX} {e a b c o i : Expr} {es : List Expr} {fa fb fo fi : EF} {fs : AF} {pos pos' apos cpos : Pos}
def isLst : Option D → Bool
  | some (.lst _ _) => true
  | _ => false
/-- the receiver is a list that a name holds; then the arguments are given away; then m -/
def eMt (fo : EF) (fs : AF) (m : List D → List D → Option (D × List D)) : EF := fun σ => (fo σ).bind fun ho σ1 => if isLst (deref ho σ1) = true then (fs σ1).bind fun hs σ2 => match give hs σ2 with
  | some (ws, σ3) => match ho with
    | .sl j => match sget σ3 j with
      | some (.lst true ds) => match m ds ws with
        | some (d, ds') => .ok (.val d) (σ3.set j (some (.lst true ds')))
        | none => .err
      | _ => .err
    | _ => .err
  | _ => .err else .err
/-- what m tells, the rule r does: the list at p holds ds, the arguments are ws -/
def MtD (K : PySem.W.Frag) (mg : Str → Option Value) (m : List D → List D → Option (D × List D)) (r : V → List V → Hp → VK → Prop) : Prop :=
  ∀ (H : Hp) (p : Addr) (xs vs : List V) (ds ws ds' : List D) (d : D) (fl ft : List Addr) (Q : VK), H p = some (.lst xs) → RepL K mg H ds xs fl → RepL K mg H ws vs ft → m ds ws = some (d, ds') →
    (∀ (v : V) (xs' : List V), ((fl ++ ft).Nodup → ∃ f' g', RepL K mg H ds' xs' f' ∧ RepL K mg H [d] [v] g' ∧ (f' ++ g').Nodup ∧ ∀ b ∈ f' ++ g', b ∈ fl ++ ft) → Q v (upd H p (.lst xs'))) → r (.ref p) vs H Q
theorem isLst_ty {K mg} {H : Hp} {d : Option D} {x : V} {f : List Addr} (h : isLst d = true) (r : ∀ d', d = some d' → RepD K mg H d' x f) : tyV K "list" x H := by
  unfold isLst at h
  split at h
  · rename_i o ds
    obtain ⟨p, xs, g, rfl, hp, _⟩ := (r _ rfl).lst_inv
    exact .inl ⟨rfl, xs, .inl hp⟩
  · cases h
theorem eMt_good {m : List D → List D → Option (D × List D)} {r : V → List V → Hp → VK → Prop} {TA_ : TA} (hm : MtD X.K X.mg m r) (hTA : ∀ σ H Q, TAd X.K X.mg W fs σ H (fun xs H' => GT H' (Q xs)) → TA_ σ H Q) {σ : L2.St} {H : Hp} {Q : VK} (h : TEd X.K X.mg W (eMt fo fs m) σ H Q) :
    tBM X.K "list" r (TEd X.K X.mg W fo) TA_ σ H Q := by
  obtain ⟨φd, φv, σd, w, q⟩ := h
  obtain ⟨φd1, φv1, σd1, w1, q1⟩ := ted_step (WdH.nil w) q
  refine ⟨φd1, φv1, σd1, w1, q1.mono (fun h1 σ1 k y H1 w1 => ?_) fun _ _ _ _ q => q⟩
  obtain ⟨h', σ', w', q'⟩ := k y H1 w1
  split at q'
  · rename_i hl
    have ex : ∃ d, deref h' σ' = some d := by
      cases e : deref h' σ' with
      | none => rw [e] at hl; cases hl
      | some d => exact ⟨d, rfl⟩
    obtain ⟨d0, ed0⟩ := ex
    obtain ⟨f0, r0⟩ := w'.rep (k := 0) rfl rfl ed0
    refine ⟨isLst_ty (mg := X.mg) (f := f0) hl (fun d' e => by rw [ed0] at e; cases e; exact r0), hTA _ _ _ ?_⟩
    · obtain ⟨φd2, φv2, σd2, w2, q2⟩ := tad_step w' q'
      refine ⟨φd2, φv2, σd2, w2, q2.mono (fun hs σ3 k2 zs H2 w3 => ?_) fun _ _ _ _ q => q⟩
      obtain ⟨hs', σ4, w4, q4⟩ := k2 zs H2 w3
      -- the receiver's handle ahead
      cases h' with
      | val d =>
        exfalso
        split at q4
        · exact q4
        · exact q4
      | sl j =>
        split at q4
        · rename_i ws σ5 e5
          have hj : σ[j]? = some (some y) := w4.at_ 0 j y rfl rfl
          have w6 : WdH X.K X.mg H2 φd φv σ4 σ hs' zs := by
            have l4 := w4.len
            refine ⟨by simpa using l4, ?_, fun kk ii x e1 e2 => w4.at_ (kk + 1) ii x (by simpa using e1) (by simpa using e2)⟩
            have := w4.wd
            simpa [tmpD, tmpV] using this
          refine give_ok _ w6 e5 fun H3 w7 hl7 => .here ?_
          dsimp only at q4
          split at q4
          · rename_i ds e8
            split at q4
            · rename_i d ds' e9
              obtain ⟨p, xs, e10, hp, hlen, mod⟩ := w7.lstMod hl7 (sget_some e8)
              rw [hj] at e10
              cases e10
              obtain ⟨F, t, g, r1, r2, sq, nd⟩ := w7.last hl7
              obtain ⟨v0, P, mm, S, e11, eg, rd, _, _⟩ := sq.at (sget_some e8)
              rw [hj] at e11
              cases e11
              cases rd with
              | lstO hp' rl =>
                rw [hp] at hp'
                cases hp'
                refine hm H3 p xs zs ds ws ds' d _ _ Q hp rl r2 e9 fun v xs' kk => q4 _ _ (WdH.val ?_)
                refine mod ds' xs' [d] [v] fun fl ft rl' rt' nd' => ?_
                have u1 : _ = fl := RepL.fp_uniq rl rl'
                have u2 : _ = ft := RepL.fp_uniq r2 rt'
                subst u1 u2
                exact kk nd'
            · exact q4.elim
          · exact q4.elim
        · exact q4.elim
  · exact q'.elim

/-! append, pop, pop(i), extend, insert -/
def mApp : List D → List D → Option (D × List D) := fun ds ws => match ws with
  | [d] => if ds.length < 16777216 then some (.non, ds ++ [d]) else none
  | _ => none
theorem mtd_app {K mg} : MtD K mg mApp rAppend := by
  intro H p xs vs ds ws ds' d fl ft Q hp rl rw_ e k
  unfold mApp at e
  split at e
  · split at e
    · rename_i hz
      cases e
      obtain ⟨v, ev, rd⟩ := rw_.one_inv
      subst ev
      refine ⟨p, xs, v, rfl, rfl, hp, by rw [sizeLine_eq, ← rl.length]; exact hz, k _ _ fun nd => ⟨fl ++ ft, [], rl.append (.one rd), .one .non, by simpa using nd, fun b hb => by simpa using hb⟩⟩
    · cases e
  · cases e
theorem le_app {x : Str} (ho : LE X W o fo) (ha : LA X W (e :: es) fs) (hbase : attributeBase o "append" X.env (eval o X.env) = eval o X.env := by rfl)
    (hfew : ((backTo cpos (starEach (e :: es) X.env)).all (fun x => !x.1) && (backToKw cpos (keywordEach [] X.env)).all (fun x => x.1.isSome)
      && decide ((e :: es).length + ([] : List Keyword).length + (if ([] : List Keyword).isEmpty then 0 else 1) < 30)) = true := by rfl)
    (hline : (apos.endLine == cpos.line) = true := by rfl) (hs : starEach (e :: es) X.env = (false, eval e X.env) :: starEach es X.env := by rfl) (hplain : (backTo cpos (starEach es X.env)).any (·.1) = false := by rfl) :
    LE X W (.Call (.Attribute o "append" apos) (e :: es) [] cpos) (eMt fo fs mApp) :=
  PE.imp (pe_bm PySem.F.plainAttrs_list F.slot_list_append F.type_list_append mt_append ho (PA.gh ha) hbase hfew hline hs hplain) fun _ _ _ => eMt_good mtd_app fun _ _ _ h => h
theorem RepL.dropLast_rep {K mg} {H : Hp} : ∀ {ds : List D} {xs : List V} {fl : List Addr} {d : D}, RepL K mg H ds xs fl → ds.getLast? = some d → ∃ v f g, xs[xs.length - 1]? = some v ∧ RepL K mg H ds.dropLast xs.dropLast f ∧ RepD K mg H d v g ∧ fl = f ++ g
  | [], _, _, _, r, e => by cases e
  | [d0], _, _, d, r, e => by
    cases e
    obtain ⟨v, ev, rd⟩ := r.one_inv
    subst ev
    exact ⟨v, [], _, rfl, .nil, rd, rfl⟩
  | d0 :: d1 :: ds, xs, fl, d, r, e => by
    cases r with
    | cons h0 h1 =>
      obtain ⟨v, f, g, e1, r1, r2, e2⟩ := RepL.dropLast_rep h1 (by simpa using e)
      have hl := h1.length
      rename_i v0 g0 vs g1
      cases vs with
      | nil => simp at hl
      | cons v1 vs =>
        refine ⟨v, _ ++ f, g, ?_, .cons h0 r1, r2, by rw [e2, List.append_assoc]⟩
        simpa using e1
def mPop : List D → Option (D × List D) := fun ds => match ds.getLast? with
  | some d => some (d, ds.dropLast)
  | none => none
def eMt0 (fo : EF) (m : List D → Option (D × List D)) : EF := fun σ => (fo σ).bind fun ho σ1 => match ho with
  | .sl j => match sget σ1 j with
    | some (.lst true ds) => match m ds with
      | some (d, ds') => .ok (.val d) (σ1.set j (some (.lst true ds')))
      | none => .err
    | _ => .err
  | _ => .err
theorem le_pop (ho : LE X W o fo) (hbase : attributeBase o "pop" X.env (eval o X.env) = eval o X.env := by rfl) (hline : (apos.endLine == cpos.line) = true := by rfl) :
    LE X W (.Call (.Attribute o "pop" apos) [] [] cpos) (eMt0 fo mPop) :=
  PE.imp (pe_bm0 PySem.F.plainAttrs_list F.slot_list_pop F.type_list_pop mt_pop ho hbase hline) fun σ H Q h => by
    obtain ⟨φd, φv, σd, w, q⟩ := h
    obtain ⟨φd1, φv1, σd1, w1, q1⟩ := ted_step (WdH.nil w) q
    refine ⟨φd1, φv1, σd1, w1, q1.mono (fun h1 σ1 k y H1 w1 => ?_) fun _ _ _ _ q => q⟩
    obtain ⟨h', σ', w', q'⟩ := k y H1 w1
    split at q'
    · rename_i j
      split at q'
      · rename_i ds e2
        split at q'
        · rename_i d ds' e3
          unfold mPop at e3
          split at e3
          · rename_i d0 e0
            cases e3
            have hj : σ[j]? = some (some y) := w'.at_ 0 j y rfl rfl
            have w2 : Wd X.K X.mg H1 (φd ++ []) (φv ++ []) σ' σ := by simpa using w'.out
            obtain ⟨p, xs, e4, hp, hl, mod⟩ := w2.lstMod rfl (sget_some e2)
            rw [hj] at e4
            cases e4
            obtain ⟨v0, fr, e5, rr⟩ := w'.out.slot (sget_some e2)
            rw [hj] at e5
            cases e5
            cases rr with
            | lstO hp' rl =>
              rw [hp] at hp'
              cases hp'
              obtain ⟨v, f, g, e6, r1, r2, _⟩ := RepL.dropLast_rep rl e0
              refine ⟨.inl ⟨rfl, xs, .inl (.inl hp)⟩, p, xs, v, rfl, rfl, hp, e6, q' _ _ (WdH.val ?_)⟩
              refine mod ds.dropLast xs.dropLast [d] [v] fun fl ft rl' rt' nd' => ?_
              obtain ⟨v2, f2, g2, e7, s1, s2, rfl⟩ := RepL.dropLast_rep rl' e0
              rw [e6] at e7
              cases e7
              cases rt'
              exact ⟨f2, g2, s1, .one s2, by simpa using nd', fun b hb => by simpa using hb⟩
          · cases e3
        · exact q'.elim
      · exact q'.elim
    · exact q'.elim
/-- pop(i) -/
theorem RepL.erase {K mg} {H : Hp} : ∀ {ds : List D} {xs : List V} {fl : List Addr} {n : Nat} {d : D}, RepL K mg H ds xs fl → ds[n]? = some d → ∃ v f g, xs[n]? = some v ∧ RepL K mg H (ds.eraseIdx n) (xs.eraseIdx n) f ∧ RepD K mg H d v g ∧ fl.Perm (f ++ g)
  | [], _, _, _, _, r, e => by simp at e
  | d0 :: ds, xs, fl, 0, d, r, e => by
    cases r with
    | cons h0 h1 =>
      simp at e; subst e
      exact ⟨_, _, _, rfl, h1, h0, List.perm_append_comm⟩
  | d0 :: ds, xs, fl, n + 1, d, r, e => by
    cases r with
    | cons h0 h1 =>
      obtain ⟨v, f, g, e1, r1, r2, pm⟩ := RepL.erase h1 (by simpa using e)
      exact ⟨v, _ ++ f, g, by simpa using e1, .cons h0 r1, r2, by rw [List.append_assoc]; exact List.Perm.append_left _ pm⟩
def mPopAt : List D → List D → Option (D × List D) := fun ds ws => match ws with
  | [.int i] => if -(2 ^ 63) ≤ i ∧ i < 2 ^ 63 then (match seqIndex? i ds.length with
    | some n => match ds[n]? with
      | some d => some (d, ds.eraseIdx n)
      | none => none
    | none => none) else none
  | _ => none
theorem mtd_popAt {K mg} : MtD K mg mPopAt rPopAt := by
  intro H p xs vs ds ws ds' d fl ft Q hp rl rw_ e k
  unfold mPopAt at e
  split at e
  · rename_i i
    split at e
    · rename_i hz
      split at e
      · rename_i n e0
        split at e
        · rename_i d0 e1
          cases e
          obtain ⟨v, ev, rd⟩ := rw_.one_inv
          subst ev
          cases rd
          obtain ⟨y, f, g, e2, r1, r2, pm⟩ := RepL.erase rl e1
          exact ⟨p, xs, i, n, y, rfl, rfl, hp, hz.1, hz.2, by rw [← rl.length]; exact e0, e2, k _ _ fun nd => ⟨f, g, r1, .one r2, pm.nodup_iff.mp (by simpa using nd), fun b hb => by simpa using pm.mem_iff.mpr hb⟩⟩
        · cases e
      · cases e
    · cases e
  · cases e
theorem le_popAt (ho : LE X W o fo) (ha : LA X W (e :: es) fs) (hbase : attributeBase o "pop" X.env (eval o X.env) = eval o X.env := by rfl)
    (hfew : ((backTo cpos (starEach (e :: es) X.env)).all (fun x => !x.1) && (backToKw cpos (keywordEach [] X.env)).all (fun x => x.1.isSome)
      && decide ((e :: es).length + ([] : List Keyword).length + (if ([] : List Keyword).isEmpty then 0 else 1) < 30)) = true := by rfl)
    (hline : (apos.endLine == cpos.line) = true := by rfl) (hs : starEach (e :: es) X.env = (false, eval e X.env) :: starEach es X.env := by rfl) (hplain : (backTo cpos (starEach es X.env)).any (·.1) = false := by rfl) :
    LE X W (.Call (.Attribute o "pop" apos) (e :: es) [] cpos) (eMt fo fs mPopAt) :=
  PE.imp (pe_bm PySem.F.plainAttrs_list F.slot_list_pop F.type_list_pop mt_popAt ho (PA.gh ha) hbase hfew hline hs hplain) fun _ _ _ => eMt_good mtd_popAt fun _ _ _ h => h
end
end DL
namespace PySem
open Sem (wp)
theorem meets_enumerate_new1B {v : Value} {o : Obj} {H : Heap → Prop} (B : Begins v o H) :
    Meets (Builtin.«enumerate.__new__» ⟨[.type "enumerate", v], []⟩) (fun _ R s => H s.heap ∧
      R (.ok (.ret (.ref (s.heap.push o).objs.size))) { s with heap := (s.heap.push o).push { cls := .type "enumerate", data := .fields #[.none, .bool false, .ref s.heap.objs.size, rawInt 0, .none, .none] } }) :=
  .of_wp fun prog w A R s h => by
    obtain ⟨hp, g, d, tk, os⟩ := s; obtain ⟨h1, h⟩ := h
    have hsub := sub_enumerate
    have q1 : ∀ {A' : Around} {E : Value → Shared → Prop} {Q : Value → Shared → Prop}, Q (.ref hp.objs.size) ⟨hp.push o, g, d, tk, os⟩ → wpAny (model prog w) A' (pyIter v) Q E ⟨hp, g, d, tk, os⟩ :=
      fun q => B.iter prog w _ _ ⟨hp, g, d, tk, os⟩ _ h1 q
    wp_walk using q1
    refine wpAny_stack_any fun st => wpAny_pure ?_
    split
    · rename_i c _ _ _ _ _
      cases (c == Value.type "enumerate")
      · wp_walk using q1
        exact ⟨_, rfl, h⟩
      · wp_walk using q1
        exact ⟨_, rfl, h⟩
    · wp_walk using q1
      exact ⟨_, rfl, h⟩
section
variable {prog : Program} {w : World} {A : Around} {E : Value → Shared → Prop} {s : Shared}
theorem enum_begins1 {v : Value} {o : Obj} {H : Heap → Prop} {Q : Value → Shared → Prop} (B : Begins v o H) (h1 : H s.heap)
    (h : ∀ h', IsEnum h' (s.heap.objs.size + 1) s.heap.objs.size 0 .none → h'.get? s.heap.objs.size = some o → h'.objs.size = s.heap.objs.size + 2 →
      (∀ b o, s.heap.get? b = some o → h'.get? b = some o) → Q (.ref (s.heap.objs.size + 1)) { s with heap := h' }) :
    wpAny (model prog w) A (call (.type "enumerate") [v]) Q E s := by
  refine callType_new F.called_enumerate (by decide) (F.typeCall_enumerate_1 _) (F.newCall_enumerate_1 _) (fun obj => F.args_object_init_2 obj _) F.entry_enumerate_new
    (meets_enumerate_new1B B) ⟨h1, ?_⟩
  have hz : (s.heap.push o).objs.size = s.heap.objs.size + 1 := Heap.size_push ..
  show _ ∧ _
  rw [hz]
  have he : IsEnum ((s.heap.push o).push { cls := .type "enumerate", data := .fields #[.none, .bool false, .ref s.heap.objs.size, rawInt 0, .none, .none] }) (s.heap.objs.size + 1) s.heap.objs.size 0 .none := by
    have := Heap.get?_push_size (s.heap.push o) (o := { cls := .type "enumerate", data := .fields #[.none, .bool false, .ref s.heap.objs.size, rawInt 0, .none, .none] }) rfl
    rw [hz] at this; exact this
  refine ⟨⟨_, he, rfl⟩, h _ he (Heap.get?_push_of_some _ (Heap.get?_push_size _ B.free)) (by rw [Heap.size_push, hz]) fun b o x => Heap.get?_push_of_some _ (Heap.get?_push_of_some _ x)⟩
end
end PySem
namespace DL
open PySem PySem.Spec PyProof.Rows L2

/-! ### a row that is walked: a list or a tuple -/
structure Src where
  k : Bool
  a : Addr
def Src.At (K : PySem.W.Frag) (H : Hp) (c : Src) (xs : List V) : Prop := if c.k then SqT K H c.a xs else SqL K H c.a xs
def Src.Iter (h : Heap) (c : Src) (it : Addr) (i : Nat) : Prop := if c.k then h.IsTupleIter it c.a i else h.IsListIter it c.a i
def Src.Is (h : Heap) (c : Src) (items : Array Value) : Prop := if c.k then h.IsTuple c.a items else h.IsList c.a items
def Src.obj (c : Src) : Obj := if c.k then { cls := .type "tuple_iterator", data := .fields #[.ref c.a, .int 0 0] } else { cls := .type "list_iterator", data := .fields #[.ref c.a, .int 0 0] }
theorem Src.begins (c : Src) (items : Array Value) : Begins (.ref c.a) c.obj (fun h => c.Is h items) := by
  obtain ⟨k, a⟩ := c
  cases k with
  | true => exact begins_tuple a items
  | false => exact begins_list a items
theorem Src.draws {prog : Program} {w : World} {A : Around} (hh : A.handled = none) (c : Src) (it : Addr) (hne : c.a ≠ it) (items : Array Value) :
    Draws prog w A it [it, c.a] items.size (fun i v => items[i]? = some v) (fun i h => c.Iter h it i ∧ c.Is h items) := by
  obtain ⟨k, a⟩ := c
  cases k with
  | true => exact Draws.tuple hh it a hne items
  | false => exact Draws.list hh it a hne items
theorem Src.is {X : Cx} {pins : List (Addr × Obj)} {σ : L2.St} {H : Hp} {s : Shared} (I : Inv X pins σ H s) {c : Src} {xs : List V} (h : c.At X.K H xs) : ∃ its : List Value, Vals xs its ∧ c.Is s.heap its.toArray ∧ xs.length ≤ sizeLine := by
  obtain ⟨k, a⟩ := c
  cases k with
  | true =>
    obtain ⟨its, rv, p, z⟩ := I.tuple h
    exact ⟨its, rv, p, z⟩
  | false =>
    obtain ⟨its, rv, p, z⟩ := I.list h
    exact ⟨its, rv, p.isList, z⟩
theorem Src.uniq {X : Cx} {pins : List (Addr × Obj)} {σ : L2.St} {H : Hp} {s : Shared} (I : Inv X pins σ H s) {c : Src} {xs ys : List V} (h : c.At X.K H xs) (k : c.At X.K H ys) : xs = ys := by
  obtain ⟨k', a⟩ := c
  cases k' with
  | true => exact I.tuple_inj h k
  | false => exact I.list_inj h k
theorem Src.Is.lt {h : Heap} {c : Src} {items : Array Value} (x : c.Is h items) : c.a < h.objs.size := by
  obtain ⟨k, a⟩ := c
  cases k with
  | true => obtain ⟨o, e, _⟩ := x; exact Heap.lt_size e
  | false => obtain ⟨o, e, _⟩ := x; exact Heap.lt_size e
theorem Src.Iter.obj {h : Heap} {c : Src} {it : Addr} {i : Nat} (x : c.Iter h it i) : ∃ o, h.get? it = some o ∧ ∀ v, o.data ≠ .cell v := by
  obtain ⟨k, a⟩ := c
  cases k with
  | true => obtain ⟨o, e, _, d⟩ := x; exact ⟨o, e, fun v z => by rw [d] at z; cases z⟩
  | false => obtain ⟨o, e, _, d⟩ := x; exact ⟨o, e, fun v z => by rw [d] at z; cases z⟩
theorem Src.Iter.at_ {h h' : Heap} {c : Src} {it : Addr} {i : Nat} (x : c.Iter h it i) (k : ∀ o, h.get? it = some o → h'.get? it = some o) : c.Iter h' it i := by
  obtain ⟨k', a⟩ := c
  cases k' with
  | true => exact Heap.IsTupleIter.at x k
  | false => exact Heap.IsListIter.at x k
theorem Src.iter0 {h : Heap} {c : Src} {it : Addr} (e : h.get? it = some c.obj) : c.Iter h it 0 := by
  obtain ⟨k, a⟩ := c
  cases k with
  | true => exact ⟨_, e, rfl, rfl⟩
  | false => exact ⟨_, e, rfl, rfl⟩
/-- an iterator of new tuples: from GoesN, at a state -/
theorem turn_item {X : Cx} {pins : List (Addr × Obj)} {σ : L2.St} {H : Hp} {s : Shared} {E : Value → Shared → Prop} {tg : Expr} {it : Addr} {fp wr fpT : List Addr} {n i : Nat} {Y : Nat → Heap → Value → Heap → Prop} {St : Nat → Heap → Prop} {xs : List V} {R : Value → Shared → Prop}
    (I : Inv X pins σ H s) (hf : ∀ b ∈ fpT, FpOk X pins H b) (hw : ∀ b ∈ wr, b ∈ fpT) (hex : ∀ b ∈ fpT, ∃ o, s.heap.get? b = some o) (G : GoesN X.prog X.w X.A tg it fp wr n Y St) (hi : i < n) (st : St i s.heap) (hz : xs.length ≤ sizeLine)
    (hY : ∀ v h, Y i s.heap v h → ∃ T vals, v = .ref T ∧ s.heap.objs.size ≤ T ∧ h.IsTuple T vals.toArray ∧ Vals xs vals)
    (hR : ∀ T s2, H T = none → Inv X pins σ (upd H T (.tup xs)) s2 → St (i + 1) s2.heap → (∀ b ∈ fpT, upd H T (.tup xs) b = none) → R (.ref T) s2) :
    wpAny (model X.prog X.w) X.A (pyNext (.ref it)) (fun r s1 => ∃ u, r = some u ∧ wpAny (model X.prog X.w) X.A (letOwnedTupleGo tg (.ref it) u) (fun _ s2 => R u s2) E s1) E s := by
  refine G.goes i s (fun v s2 => R v s2) E hi st fun v h' tk y st' hk htk => ?_
  obtain ⟨T, vals, rfl, hT, hg, rv⟩ := hY v h' y
  have hn : H T = none := I.hok.fresh hT
  have new : ObjOk X.prog X.w (upd H T (.tup xs)) h' T (.tup xs) := ⟨hz, vals, rv, hg⟩
  have I1 : Inv X pins σ (upd H T (.tup xs)) { s with heap := h', toks := tk } := I.turnedNew (t' := tk) (ch := fpT) (fun c o hc q => hk c o (fun z => hc (hw c z)) q) hf hT new
  refine hR T _ hn I1 st' fun b hb => ?_
  obtain ⟨o, e⟩ := hex b hb
  rw [upd_ne (Nat.ne_of_lt (Nat.lt_of_lt_of_le (Heap.lt_size e) hT))]
  exact (hf b hb).1
theorem turn_done {X : Cx} {pins : List (Addr × Obj)} {σ : L2.St} {H : Hp} {s : Shared} {E : Value → Shared → Prop} {tg : Expr} {it : Addr} {fp wr fpT : List Addr} {n : Nat} {Y : Nat → Heap → Value → Heap → Prop} {St : Nat → Heap → Prop}
    (I : Inv X pins σ H s) (hf : ∀ b ∈ fpT, FpOk X pins H b) (hw : ∀ b ∈ wr, b ∈ fpT) (G : GoesN X.prog X.w X.A tg it fp wr n Y St) (st : St n s.heap) :
    wpAny (model X.prog X.w) X.A (pyNext (.ref it)) (fun r s1 => r = none ∧ Inv X pins σ H s1) E s :=
  G.stops s (fun s' => Inv X pins σ H s') E st fun h' tk hk htk => I.turnedL (t' := tk) (ch := fpT) (fun c o hc q => hk c o (fun z => hc (hw c z)) q) hf

/-! ### enumerate -/
def ItE (K : PySem.W.Frag) (c : Src) : It :=
  ⟨fun i H => ∃ (xs : List V), c.At K H xs ∧ i < xs.length,
    fun i H v H' => ∃ T x, v = .ref T ∧ H T = none ∧ H' = upd H T (.tup [.int (i : Nat), x]) ∧ ∀ xs, c.At K H xs → xs[i]? = some x,
    fun i H => ∃ xs : List V, c.At K H xs ∧ xs.length = i⟩
theorem turn_enumS {P : Program} {w : World} {K : PySem.W.Frag} {elts : List Expr} {kk : Nat} {tpos : Pos} (c : Src) (e it : Addr) (hei : e ≠ it) (hci : c.a ≠ it) (hce : c.a ≠ e) :
    Turn P w K (.Tuple elts kk tpos) (ItE K c) [e, it] e (fun i h => (∃ old, IsEnum h e it ((0 : Int) + (i : Nat)) old) ∧ c.Iter h it i) where
  mem := by simp
  obj := fun i h st b hb => by
    obtain ⟨⟨old, he⟩, hi⟩ := st
    have e' : b = e ∨ b = it := by simpa using hb
    rcases e' with z | z
    · rw [z]; exact ⟨_, he, fun v q => nomatch q⟩
    · rw [z]; exact hi.obj
  keep := fun i h h' st k => let ⟨⟨old, he⟩, hi⟩ := st; ⟨⟨old, k e (by simp) _ he⟩, hi.at_ fun o q => k it (by simp) o q⟩
  item := by
    intro X hP hw hK hc i pins s σ H E I hf st hg
    subst hP hw hK
    obtain ⟨⟨old, he⟩, hit⟩ := st
    obtain ⟨xs, hq, hx⟩ := hg
    obtain ⟨its, rv, p, hz⟩ := Src.is I hq
    have hl := rv.length
    have hx' : xs[i]? = some xs[i] := by simp [hx]
    obtain ⟨u, hu, ru⟩ := rv.get hx'
    have Dr := Src.draws (prog := X.prog) (w := X.w) (A := X.A.in1) (by simpa using I.ok.hd hc) c it hci its.toArray
    have G := GoesN.enumFrom (elts := elts) (x1 := kk) (pos := tpos) 0 Dr e hei (by simp [hei, Ne.symm hce]) (by simp)
    refine wpAny_mono (turn_item (R := fun u s2 => ∃ x H', Inv X pins σ H' s2 ∧ RelV x u ∧ (ItE X.K c).yld i H x H' ∧ ((∃ old, IsEnum s2.heap e it ((0 : Int) + ((i + 1 : Nat) : Int)) old) ∧ c.Iter s2.heap it (i + 1)) ∧ ∀ b ∈ [e, it], H' b = none) (xs := [.int (i : Nat), xs[i]]) I hf (by simp) (fun b hb => ?_) G (by simp; omega) ⟨⟨old, he⟩, hit, p⟩ (by show 2 ≤ sizeLine; decide) (fun v h y => ?_) fun T s2 hT I2 st2 hn => ?_) (fun r s1 ⟨u, e1, h⟩ => ⟨u, e1, h⟩) fun _ _ h => h
    · have e' : b = e ∨ b = it := by simpa using hb
      rcases e' with z | z
      · rw [z]; exact ⟨_, he⟩
      · rw [z]; obtain ⟨o, q, _⟩ := hit.obj; exact ⟨o, q⟩
    · obtain ⟨T, t, x, rfl, hT, hx2, hg⟩ := y
      have ex : x = u := by
        have : its.toArray[i]? = some u := by simpa using hu
        rw [this] at hx2; cases hx2; rfl
      subst ex
      exact ⟨T, [.int (0 + (i : Int)) t, x], rfl, hT, hg, .cons ⟨t, by rw [Int.zero_add]⟩ (.cons ru .nil)⟩
    · refine ⟨.ref T, _, I2, rfl, ⟨T, xs[i], rfl, hT, rfl, fun ys hy => by rw [Src.uniq I hy hq]; exact hx'⟩, ⟨st2.1, st2.2.1⟩, hn⟩
  done := by
    intro X hP hw hK hc i pins s σ H E I hf st hg
    subst hP hw hK
    obtain ⟨⟨old, he⟩, hit⟩ := st
    obtain ⟨xs, hq, hx⟩ := hg
    obtain ⟨its, rv, p, hz⟩ := Src.is I hq
    have hl := rv.length
    have Dr := Src.draws (prog := X.prog) (w := X.w) (A := X.A.in1) (by simpa using I.ok.hd hc) c it hci its.toArray
    have G := GoesN.enumFrom (elts := elts) (x1 := kk) (pos := tpos) 0 Dr e hei (by simp [hei, Ne.symm hce]) (by simp)
    have hn : its.toArray.size = i := by simp; omega
    exact turn_done I hf (by simp) G (by rw [hn]; exact ⟨⟨old, he⟩, hit, p⟩)
  self := fun A i s Q E st h => let ⟨⟨_, he⟩, _⟩ := st; wpAny_pyIter_enum he h
def iEnumS (K : PySem.W.Frag) (ta : TA) : TI := fun σ H R => ta σ H fun vs H1 => ∃ (c : Src) (xs : List V), vs = [.ref c.a] ∧ c.At K H1 xs ∧ R (ItE K c) H1
theorem pi_enumS {X : Cx} {e : Expr} {ta : TA} {p pos tpos : Pos} {elts : List Expr} {kk : Nat} (hg : Gl X "enumerate") (hm : X.mg "enumerate" = none) (ha : PA X [e] ta) (hs : starEach [e] X.env = [(false, eval e X.env)] := by rfl) :
    PI X (.Tuple elts kk tpos) (.Call (.Name "enumerate" p) [e] [] pos) (iEnumS X.K ta) := by
  refine ⟨fun pins s σ H R I h => ?_⟩
  refine Call_ (ld_blt I hg hm boot_enumerate (PyProof.Rows.callWith_type1 (thn (ha.run pos pins s σ H _ I h) fun us s1 ⟨vs, H1, I1, r1, q1⟩ => ?_) hs rfl))
  obtain ⟨c, xs, ex, hq, q⟩ := q1
  subst ex
  cases r1 with
  | cons r rr =>
    cases rr
    cases r
    obtain ⟨its, rv, p', hz⟩ := Src.is I1 hq
    refine enum_begins1 (c.begins its.toArray) p' fun h' he hit hsz hk => wpAny_pyIter_enum he ?_
    have I2 : Inv X pins σ H1 { s1 with heap := h' } := I1.kept (t' := s1.toks) hk
    have hlt := p'.lt
    refine ⟨s1.heap.objs.size + 1, [s1.heap.objs.size + 1, s1.heap.objs.size], _, _, H1, rfl, I2, turn_enumS c (s1.heap.objs.size + 1) s1.heap.objs.size (Nat.succ_ne_self _) (Nat.ne_of_lt hlt) (Nat.ne_of_lt (Nat.lt_succ_of_lt hlt)), ⟨⟨.none, by simpa using he⟩, Src.iter0 hit⟩, fun b hb => ?_, q⟩
    have e' : b = s1.heap.objs.size + 1 ∨ b = s1.heap.objs.size := by simpa using hb
    have hle : s1.heap.objs.size ≤ b := by
      rcases e' with z | z
      · rw [z]; exact Nat.le_add_right _ _
      · rw [z]; exact Nat.le_refl _
    exact I1.fpOk hle (I1.hok.fresh hle)

/-! ### zip of two -/
def ItZ2 (K : PySem.W.Frag) (c d : Src) : It :=
  ⟨fun i H => ∃ xs ys : List V, c.At K H xs ∧ d.At K H ys ∧ i < xs.length ∧ i < ys.length,
    fun i H v H' => ∃ T x y, v = .ref T ∧ H T = none ∧ H' = upd H T (.tup [x, y]) ∧ (∀ xs, c.At K H xs → xs[i]? = some x) ∧ ∀ ys, d.At K H ys → ys[i]? = some y,
    fun i H => ∃ xs ys : List V, c.At K H xs ∧ d.At K H ys ∧ min xs.length ys.length = i⟩
theorem turn_zipS {P : Program} {w : World} {K : PySem.W.Frag} {elts : List Expr} {kk : Nat} {tpos : Pos} (c d : Src) (z TI TO i1 i2 : Addr) (S : ZipSep2 z TI TO i1 i2 [i1, c.a] [i2, d.a]) (hc1 : c.a ≠ i1) (hd2 : d.a ≠ i2) :
    Turn P w K (.Tuple elts kk tpos) (ItZ2 K c d) [z, TI, TO, i1, i2] z (fun i h => IsZip h z TI TO .none ∧ IsTupOf2 h TI (.ref i1) (.ref i2) ∧ (∃ a1 a2, IsTupOf2 h TO a1 a2) ∧ c.Iter h i1 i ∧ d.Iter h i2 i) where
  mem := by simp
  obj := fun i h st b hb => by
    obtain ⟨hz, hTI, ⟨x, y, hTO⟩, h1, h2⟩ := st
    have e' : b = z ∨ b = TI ∨ b = TO ∨ b = i1 ∨ b = i2 := by simpa using hb
    rcases e' with q | q | q | q | q
    · rw [q]; exact ⟨_, hz, fun v q => nomatch q⟩
    · rw [q]; exact ⟨_, hTI, fun v q => nomatch q⟩
    · rw [q]; exact ⟨_, hTO, fun v q => nomatch q⟩
    · rw [q]; exact h1.obj
    · rw [q]; exact h2.obj
  keep := fun i h h' st k => by
    obtain ⟨hz, hTI, ⟨x, y, hTO⟩, h1, h2⟩ := st
    exact ⟨k z (by simp) _ hz, k TI (by simp) _ hTI, ⟨x, y, k TO (by simp) _ hTO⟩, h1.at_ fun o q => k i1 (by simp) o q, h2.at_ fun o q => k i2 (by simp) o q⟩
  item := by
    intro X hP hw hK hc i pins s σ H E I hf st hg
    subst hP hw hK
    obtain ⟨hz, hTI, ⟨x0, y0, hTO⟩, h1, h2⟩ := st
    obtain ⟨xs, ys, hqx, hqy, hx, hy⟩ := hg
    obtain ⟨its, rv, p, _⟩ := Src.is I hqx
    obtain ⟨its2, rv2, p2, _⟩ := Src.is I hqy
    have l1 := rv.length
    have l2 := rv2.length
    have hx' : xs[i]? = some xs[i] := by simp [hx]
    have hy' : ys[i]? = some ys[i] := by simp [hy]
    obtain ⟨u, hu, ru⟩ := rv.get hx'
    obtain ⟨u2, hu2, ru2⟩ := rv2.get hy'
    have D1 := Src.draws (prog := X.prog) (w := X.w) (A := X.A.in1) (by simpa using I.ok.hd hc) c i1 hc1 its.toArray
    have D2 := Src.draws (prog := X.prog) (w := X.w) (A := X.A.in1) (by simpa using I.ok.hd hc) d i2 hd2 its2.toArray
    have G := GoesN.zip2 (elts := elts) (x1 := kk) (pos := tpos) S D1 D2
    refine wpAny_mono (turn_item (R := fun u s2 => ∃ x H', Inv X pins σ H' s2 ∧ RelV x u ∧ (ItZ2 X.K c d).yld i H x H' ∧ (IsZip s2.heap z TI TO .none ∧ IsTupOf2 s2.heap TI (.ref i1) (.ref i2) ∧ (∃ a1 a2, IsTupOf2 s2.heap TO a1 a2) ∧ c.Iter s2.heap i1 (i + 1) ∧ d.Iter s2.heap i2 (i + 1)) ∧ ∀ b ∈ [z, TI, TO, i1, i2], H' b = none) (xs := [xs[i], ys[i]]) I hf (by simp) (fun b hb => ?_) G (by simp; omega) ⟨hz, hTI, ⟨x0, y0, hTO⟩, ⟨h1, p⟩, ⟨h2, p2⟩⟩ (by show 2 ≤ sizeLine; decide) (fun v h y => ?_) fun T s2 hT I2 st2 hn => ?_) (fun r s1 ⟨u, e1, h⟩ => ⟨u, e1, h⟩) fun _ _ h => h
    · have e' : b = z ∨ b = TI ∨ b = TO ∨ b = i1 ∨ b = i2 := by simpa using hb
      rcases e' with q | q | q | q | q
      · rw [q]; exact ⟨_, hz⟩
      · rw [q]; exact ⟨_, hTI⟩
      · rw [q]; exact ⟨_, hTO⟩
      · rw [q]; obtain ⟨o, q, _⟩ := h1.obj; exact ⟨o, q⟩
      · rw [q]; obtain ⟨o, q, _⟩ := h2.obj; exact ⟨o, q⟩
    · obtain ⟨T, x, y, rfl, hT, hx2, hy2, hg⟩ := y
      have ex : x = u := by
        have : its.toArray[i]? = some u := by simpa using hu
        rw [this] at hx2; cases hx2; rfl
      have ey : y = u2 := by
        have : its2.toArray[i]? = some u2 := by simpa using hu2
        rw [this] at hy2; cases hy2; rfl
      subst ex ey
      exact ⟨T, [x, y], rfl, hT, hg, .cons ru (.cons ru2 .nil)⟩
    · refine ⟨.ref T, _, I2, rfl, ⟨T, xs[i], ys[i], rfl, hT, rfl, fun zs hz => by rw [Src.uniq I hz hqx]; exact hx', fun zs hz => by rw [Src.uniq I hz hqy]; exact hy'⟩, ⟨st2.1, st2.2.1, st2.2.2.1, st2.2.2.2.1.1, st2.2.2.2.2.1⟩, hn⟩
  done := by
    intro X hP hw hK hc i pins s σ H E I hf st hg
    subst hP hw hK
    obtain ⟨hz, hTI, ⟨x0, y0, hTO⟩, h1, h2⟩ := st
    obtain ⟨xs, ys, hqx, hqy, hi⟩ := hg
    obtain ⟨its, rv, p, _⟩ := Src.is I hqx
    obtain ⟨its2, rv2, p2, _⟩ := Src.is I hqy
    have l1 := rv.length
    have l2 := rv2.length
    have D1 := Src.draws (prog := X.prog) (w := X.w) (A := X.A.in1) (by simpa using I.ok.hd hc) c i1 hc1 its.toArray
    have D2 := Src.draws (prog := X.prog) (w := X.w) (A := X.A.in1) (by simpa using I.ok.hd hc) d i2 hd2 its2.toArray
    have G := GoesN.zip2 (elts := elts) (x1 := kk) (pos := tpos) S D1 D2
    have hn : min its.toArray.size its2.toArray.size = i := by simp; omega
    exact turn_done I hf (by simp) G (by rw [hn]; exact ⟨hz, hTI, ⟨x0, y0, hTO⟩, ⟨h1, p⟩, ⟨h2, p2⟩⟩)
  self := fun A i s Q E st h => wpAny_pyIter_zip st.1 h
def iZipS (K : PySem.W.Frag) (ta : TA) : TI := fun σ H R => ta σ H fun vs H1 => ∃ (c d : Src) (xs ys : List V), vs = [.ref c.a, .ref d.a] ∧ c.At K H1 xs ∧ d.At K H1 ys ∧ R (ItZ2 K c d) H1
theorem pi_zipS {X : Cx} {e e2 : Expr} {ta : TA} {p pos tpos : Pos} {elts : List Expr} {kk : Nat} (hg : Gl X "zip") (hm : X.mg "zip" = none) (ha : PA X [e, e2] ta)
    (hs : starEach [e, e2] X.env = (false, eval e X.env) :: starEach [e2] X.env := by rfl) (hpl : (backTo pos (starEach [e2] X.env)).any (·.1) = false := by rfl) :
    PI X (.Tuple elts kk tpos) (.Call (.Name "zip" p) [e, e2] [] pos) (iZipS X.K ta) := by
  refine ⟨fun pins s σ H R I h => ?_⟩
  refine Call_ (ld_blt I hg hm PyProof.Rows.boot_zip (PyProof.Rows.callWith_type1 (thn (ha.run pos pins s σ H _ I h) fun us s1 ⟨vs, H1, I1, r1, q1⟩ => ?_) hs hpl))
  obtain ⟨c, d, xs, ys, ex, hqx, hqy, q⟩ := q1
  subst ex
  obtain ⟨u1, u2, rfl, r1, r2⟩ := vals2 r1
  cases r1
  cases r2
  obtain ⟨its, rv, p1, _⟩ := Src.is I1 hqx
  obtain ⟨its2, rv2, p2, _⟩ := Src.is I1 hqy
  refine zip_begins2 (c.begins its.toArray) (d.begins its2.toArray) p1 p2 fun h' hz hTI hTO h1 h2 hsz hk => wpAny_pyIter_zip hz ?_
  have I2 : Inv X pins σ H1 { s1 with heap := h' } := I1.kept (t' := s1.toks) hk
  have lt1 := p1.lt
  have lt2 := p2.lt
  refine ⟨s1.heap.objs.size + 4, [s1.heap.objs.size + 4, s1.heap.objs.size + 2, s1.heap.objs.size + 3, s1.heap.objs.size, s1.heap.objs.size + 1], _, _, H1, rfl, I2,
    turn_zipS c d _ _ _ _ _ (zip_sep2 (N := s1.heap.objs.size) (fp1 := [c.a]) (fp2 := [d.a]) (by simpa using lt1) (by simpa using lt2)) (Nat.ne_of_lt lt1) (Nat.ne_of_lt (Nat.lt_succ_of_lt lt2)), ⟨hz, hTI, ⟨_, _, hTO⟩, Src.iter0 h1, Src.iter0 h2⟩, fun b hcm => ?_, q⟩
  have e' : b = s1.heap.objs.size + 4 ∨ b = s1.heap.objs.size + 2 ∨ b = s1.heap.objs.size + 3 ∨ b = s1.heap.objs.size ∨ b = s1.heap.objs.size + 1 := by simpa using hcm
  have hle : s1.heap.objs.size ≤ b := by
    rcases e' with z | z | z | z | z <;> rw [z] <;> first | exact Nat.le_add_right _ _ | exact Nat.le_refl _
  exact I1.fpOk hle (I1.hok.fresh hle)

/-! ### zip of three -/
def ItZ3 (K : PySem.W.Frag) (c d e : Src) : It :=
  ⟨fun i H => ∃ xs ys zs : List V, c.At K H xs ∧ d.At K H ys ∧ e.At K H zs ∧ i < xs.length ∧ i < ys.length ∧ i < zs.length,
    fun i H v H' => ∃ T x y z, v = .ref T ∧ H T = none ∧ H' = upd H T (.tup [x, y, z]) ∧ (∀ xs, c.At K H xs → xs[i]? = some x) ∧ (∀ ys, d.At K H ys → ys[i]? = some y) ∧ ∀ zs, e.At K H zs → zs[i]? = some z,
    fun i H => ∃ xs ys zs : List V, c.At K H xs ∧ d.At K H ys ∧ e.At K H zs ∧ min (min xs.length ys.length) zs.length = i⟩
theorem turn_zipS3 {P : Program} {w : World} {K : PySem.W.Frag} {elts : List Expr} {kk : Nat} {tpos : Pos} (c d f : Src) (z TI TO i1 i2 i3 : Addr) (S : ZipSep3 z TI TO i1 i2 i3 [i1, c.a] [i2, d.a] [i3, f.a]) (hc1 : c.a ≠ i1) (hd2 : d.a ≠ i2) (hf3 : f.a ≠ i3) :
    Turn P w K (.Tuple elts kk tpos) (ItZ3 K c d f) [z, TI, TO, i1, i2, i3] z (fun i h => IsZip h z TI TO .none ∧ IsTupOf3 h TI (.ref i1) (.ref i2) (.ref i3) ∧ (∃ a1 a2 a3, IsTupOf3 h TO a1 a2 a3) ∧ c.Iter h i1 i ∧ d.Iter h i2 i ∧ f.Iter h i3 i) where
  mem := by simp
  obj := fun i h st b hb => by
    obtain ⟨hz, hTI, ⟨x, y, u, hTO⟩, h1, h2, h3⟩ := st
    have e' : b = z ∨ b = TI ∨ b = TO ∨ b = i1 ∨ b = i2 ∨ b = i3 := by simpa using hb
    rcases e' with q | q | q | q | q | q
    · rw [q]; exact ⟨_, hz, fun v q => nomatch q⟩
    · rw [q]; exact ⟨_, hTI, fun v q => nomatch q⟩
    · rw [q]; exact ⟨_, hTO, fun v q => nomatch q⟩
    · rw [q]; exact h1.obj
    · rw [q]; exact h2.obj
    · rw [q]; exact h3.obj
  keep := fun i h h' st k => by
    obtain ⟨hz, hTI, ⟨x, y, u, hTO⟩, h1, h2, h3⟩ := st
    exact ⟨k z (by simp) _ hz, k TI (by simp) _ hTI, ⟨x, y, u, k TO (by simp) _ hTO⟩, h1.at_ fun o q => k i1 (by simp) o q, h2.at_ fun o q => k i2 (by simp) o q, h3.at_ fun o q => k i3 (by simp) o q⟩
  item := by
    intro X hP hw hK hc i pins s σ H E I hf st hg
    subst hP hw hK
    obtain ⟨hz, hTI, ⟨x0, y0, u0, hTO⟩, h1, h2, h3⟩ := st
    obtain ⟨xs, ys, zs, hqx, hqy, hqz, hx, hy, hzz⟩ := hg
    obtain ⟨its, rv, p, _⟩ := Src.is I hqx
    obtain ⟨its2, rv2, p2, _⟩ := Src.is I hqy
    obtain ⟨its3, rv3, p3, _⟩ := Src.is I hqz
    have l1 := rv.length
    have l2 := rv2.length
    have l3 := rv3.length
    have hx' : xs[i]? = some xs[i] := by simp [hx]
    have hy' : ys[i]? = some ys[i] := by simp [hy]
    have hz' : zs[i]? = some zs[i] := by simp [hzz]
    obtain ⟨u, hu, ru⟩ := rv.get hx'
    obtain ⟨u2, hu2, ru2⟩ := rv2.get hy'
    obtain ⟨u3, hu3, ru3⟩ := rv3.get hz'
    have D1 := Src.draws (prog := X.prog) (w := X.w) (A := X.A.in1) (by simpa using I.ok.hd hc) c i1 hc1 its.toArray
    have D2 := Src.draws (prog := X.prog) (w := X.w) (A := X.A.in1) (by simpa using I.ok.hd hc) d i2 hd2 its2.toArray
    have D3 := Src.draws (prog := X.prog) (w := X.w) (A := X.A.in1) (by simpa using I.ok.hd hc) f i3 hf3 its3.toArray
    have G := GoesN.zip3 (elts := elts) (x1 := kk) (pos := tpos) S D1 D2 D3
    refine wpAny_mono (turn_item (R := fun u s2 => ∃ x H', Inv X pins σ H' s2 ∧ RelV x u ∧ (ItZ3 X.K c d f).yld i H x H' ∧ (IsZip s2.heap z TI TO .none ∧ IsTupOf3 s2.heap TI (.ref i1) (.ref i2) (.ref i3) ∧ (∃ a1 a2 a3, IsTupOf3 s2.heap TO a1 a2 a3) ∧ c.Iter s2.heap i1 (i + 1) ∧ d.Iter s2.heap i2 (i + 1) ∧ f.Iter s2.heap i3 (i + 1)) ∧ ∀ b ∈ [z, TI, TO, i1, i2, i3], H' b = none) (xs := [xs[i], ys[i], zs[i]]) I hf (by simp) (fun b hb => ?_) G (by simp; omega) ⟨hz, hTI, ⟨x0, y0, u0, hTO⟩, ⟨h1, p⟩, ⟨h2, p2⟩, ⟨h3, p3⟩⟩ (by show 3 ≤ sizeLine; decide) (fun v h y => ?_) fun T s2 hT I2 st2 hn => ?_) (fun r s1 ⟨u, e1, h⟩ => ⟨u, e1, h⟩) fun _ _ h => h
    · have e' : b = z ∨ b = TI ∨ b = TO ∨ b = i1 ∨ b = i2 ∨ b = i3 := by simpa using hb
      rcases e' with q | q | q | q | q | q
      · rw [q]; exact ⟨_, hz⟩
      · rw [q]; exact ⟨_, hTI⟩
      · rw [q]; exact ⟨_, hTO⟩
      · rw [q]; obtain ⟨o, q, _⟩ := h1.obj; exact ⟨o, q⟩
      · rw [q]; obtain ⟨o, q, _⟩ := h2.obj; exact ⟨o, q⟩
      · rw [q]; obtain ⟨o, q, _⟩ := h3.obj; exact ⟨o, q⟩
    · obtain ⟨T, x, y, v3, rfl, hT, hx2, hy2, hz2, hg⟩ := y
      have ex : x = u := by
        have : its.toArray[i]? = some u := by simpa using hu
        rw [this] at hx2; cases hx2; rfl
      have ey : y = u2 := by
        have : its2.toArray[i]? = some u2 := by simpa using hu2
        rw [this] at hy2; cases hy2; rfl
      have ez : v3 = u3 := by
        have : its3.toArray[i]? = some u3 := by simpa using hu3
        rw [this] at hz2; cases hz2; rfl
      subst ex ey ez
      exact ⟨T, [x, y, v3], rfl, hT, hg, .cons ru (.cons ru2 (.cons ru3 .nil))⟩
    · refine ⟨.ref T, _, I2, rfl, ⟨T, xs[i], ys[i], zs[i], rfl, hT, rfl, fun ws hw => by rw [Src.uniq I hw hqx]; exact hx', fun ws hw => by rw [Src.uniq I hw hqy]; exact hy', fun ws hw => by rw [Src.uniq I hw hqz]; exact hz'⟩, ⟨st2.1, st2.2.1, st2.2.2.1, st2.2.2.2.1.1, st2.2.2.2.2.1.1, st2.2.2.2.2.2.1⟩, hn⟩
  done := by
    intro X hP hw hK hc i pins s σ H E I hf st hg
    subst hP hw hK
    obtain ⟨hz, hTI, ⟨x0, y0, u0, hTO⟩, h1, h2, h3⟩ := st
    obtain ⟨xs, ys, zs, hqx, hqy, hqz, hi⟩ := hg
    obtain ⟨its, rv, p, _⟩ := Src.is I hqx
    obtain ⟨its2, rv2, p2, _⟩ := Src.is I hqy
    obtain ⟨its3, rv3, p3, _⟩ := Src.is I hqz
    have l1 := rv.length
    have l2 := rv2.length
    have l3 := rv3.length
    have D1 := Src.draws (prog := X.prog) (w := X.w) (A := X.A.in1) (by simpa using I.ok.hd hc) c i1 hc1 its.toArray
    have D2 := Src.draws (prog := X.prog) (w := X.w) (A := X.A.in1) (by simpa using I.ok.hd hc) d i2 hd2 its2.toArray
    have D3 := Src.draws (prog := X.prog) (w := X.w) (A := X.A.in1) (by simpa using I.ok.hd hc) f i3 hf3 its3.toArray
    have G := GoesN.zip3 (elts := elts) (x1 := kk) (pos := tpos) S D1 D2 D3
    have hn : min (min its.toArray.size its2.toArray.size) its3.toArray.size = i := by simp; omega
    exact turn_done I hf (by simp) G (by rw [hn]; exact ⟨hz, hTI, ⟨x0, y0, u0, hTO⟩, ⟨h1, p⟩, ⟨h2, p2⟩, ⟨h3, p3⟩⟩)
  self := fun A i s Q E st h => wpAny_pyIter_zip st.1 h
def iZipS3 (K : PySem.W.Frag) (ta : TA) : TI := fun σ H R => ta σ H fun vs H1 => ∃ (c d f : Src) (xs ys zs : List V), vs = [.ref c.a, .ref d.a, .ref f.a] ∧ c.At K H1 xs ∧ d.At K H1 ys ∧ f.At K H1 zs ∧ R (ItZ3 K c d f) H1
theorem pi_zipS3 {X : Cx} {e e2 e3 : Expr} {ta : TA} {p pos tpos : Pos} {elts : List Expr} {kk : Nat} (hg : Gl X "zip") (hm : X.mg "zip" = none) (ha : PA X [e, e2, e3] ta)
    (hs : starEach [e, e2, e3] X.env = (false, eval e X.env) :: starEach [e2, e3] X.env := by rfl) (hpl : (backTo pos (starEach [e2, e3] X.env)).any (·.1) = false := by rfl) :
    PI X (.Tuple elts kk tpos) (.Call (.Name "zip" p) [e, e2, e3] [] pos) (iZipS3 X.K ta) := by
  refine ⟨fun pins s σ H R I h => ?_⟩
  refine Call_ (ld_blt I hg hm PyProof.Rows.boot_zip (PyProof.Rows.callWith_type1 (thn (ha.run pos pins s σ H _ I h) fun us s1 ⟨vs, H1, I1, r1, q1⟩ => ?_) hs hpl))
  obtain ⟨c, d, f, xs, ys, zs, ex, hqx, hqy, hqz, q⟩ := q1
  subst ex
  cases r1 with
  | cons ra rr =>
    obtain ⟨u1, u2, rfl, rb, rc⟩ := vals2 rr
    cases ra
    cases rb
    cases rc
    obtain ⟨its, rv, p1, _⟩ := Src.is I1 hqx
    obtain ⟨its2, rv2, p2, _⟩ := Src.is I1 hqy
    obtain ⟨its3, rv3, p3, _⟩ := Src.is I1 hqz
    refine zip_begins3 (c.begins its.toArray) (d.begins its2.toArray) (f.begins its3.toArray) p1 p2 p3 fun h' hz hTI hTO h1 h2 h3 hsz hk => wpAny_pyIter_zip hz ?_
    have I2 : Inv X pins σ H1 { s1 with heap := h' } := I1.kept (t' := s1.toks) hk
    have lt1 := p1.lt
    have lt2 := p2.lt
    have lt3 := p3.lt
    refine ⟨s1.heap.objs.size + 5, [s1.heap.objs.size + 5, s1.heap.objs.size + 3, s1.heap.objs.size + 4, s1.heap.objs.size, s1.heap.objs.size + 1, s1.heap.objs.size + 2], _, _, H1, rfl, I2,
      turn_zipS3 c d f _ _ _ _ _ _ (zip_sep3 (N := s1.heap.objs.size) (fp1 := [c.a]) (fp2 := [d.a]) (fp3 := [f.a]) (by simpa using lt1) (by simpa using lt2) (by simpa using lt3)) (Nat.ne_of_lt lt1) (Nat.ne_of_lt (Nat.lt_succ_of_lt lt2)) (Nat.ne_of_lt (Nat.lt_succ_of_lt (Nat.lt_succ_of_lt lt3))), ⟨hz, hTI, ⟨_, _, _, hTO⟩, Src.iter0 h1, Src.iter0 h2, Src.iter0 h3⟩, fun b hcm => ?_, q⟩
    have e' : b = s1.heap.objs.size + 5 ∨ b = s1.heap.objs.size + 3 ∨ b = s1.heap.objs.size + 4 ∨ b = s1.heap.objs.size ∨ b = s1.heap.objs.size + 1 ∨ b = s1.heap.objs.size + 2 := by simpa using hcm
    have hle : s1.heap.objs.size ≤ b := by
      rcases e' with z | z | z | z | z | z <;> rw [z] <;> first | exact Nat.le_add_right _ _ | exact Nat.le_refl _
    exact I1.fpOk hle (I1.hok.fresh hle)
end DL
namespace DL
open PySem PySem.Spec PyProof.Rows L2

/-! ### what is walked -/
structure IterOk (K : PySem.W.Frag) (mg : Str → Option Value) (J : It) (items srcD : List D) (srcV : List V) : Prop where
  walk : Walk J items.length (fun H => RepL K mg H srcD srcV []) (fun i H x H' => Stp H H' ∧ (∀ b o, H b = some o → H' b = some o) ∧ ∃ d, items[i]? = some d ∧ RepD K mg H' d x [])
abbrev IF := En → Out (List D)
def TId (K : PySem.W.Frag) (mg : Str → Option Value) (W : WX) (f : IF) : TI := fun σv H R => ∃ φd φv σd, Wd K mg H φd φv σd σv ∧
  Gd (fun items σd' => ∀ J srcD srcV H', srcD.all fz = true → RepL K mg H' srcD srcV [] → IterOk K mg J items srcD srcV → Wd K mg H' φd φv σd' σv → R J H') (xW K mg φd φv σv W) (f σd)
abbrev LI (X : Cx) (W : WX) (tg e : Expr) (f : IF) : Prop := PI X tg e (TId X.K X.mg W f)
theorem PI.imp {X : Cx} {tg e : Expr} {t t' : TI} (h : PI X tg e t) (k : ∀ σ H R, t' σ H R → t σ H R) : PI X tg e t' := ⟨fun pins s σ H R I q => h.run pins s σ H R I (k _ _ _ q)⟩
section
variable {X : Cx} {W : WX} {tg e a b c : Expr} {es : List Expr} {fa fb fc : EF} {fs : AF} {pos p tpos : Pos} {elts : List Expr} {kk : Nat}
def seqItems : D → Option (List D)
  | .tup ds => some ds
  | .lst false ds => some ds
  | .scr ns => some (ns.map .int)
  | _ => none
theorem seq_fz {d : D} {ds : List D} (e : seqItems d = some ds) : fz d = true := by
  unfold seqItems at e
  split at e <;> first | rfl | cases e
theorem seq_src {K mg} {H : Hp} {d : D} {v : V} {f : List Addr} {ds : List D} (r : RepD K mg H d v f) (e : seqItems d = some ds) : ∃ (c : Src) (xs : List V), v = .ref c.a ∧ f = [] ∧ c.At K H xs ∧ RepL K mg H ds xs [] := by
  unfold seqItems at e
  split at e
  · cases e
    obtain ⟨p, xs, rfl, hp, rl, rfl⟩ := r.tup_inv
    exact ⟨⟨true, p⟩, xs, rfl, rfl, hp, rl⟩
  · cases e
    cases r with
    | lstF h r => exact ⟨⟨false, _⟩, _, rfl, rfl, h.sq, r⟩
  · cases e
    cases r with
    | scr h => exact ⟨⟨false, _⟩, _, rfl, rfl, h.sq, RepL.ints _⟩
  · cases e
def kindOf : D → Bool
  | .tup _ => true
  | _ => false
theorem seq_srcK {K mg} {H : Hp} {d : D} {a : Addr} {ds : List D} (r : RepD K mg H d (.ref a) []) (e : seqItems d = some ds) : ∃ (xs : List V), (Src.mk (kindOf d) a).At K H xs ∧ RepL K mg H ds xs [] := by
  unfold seqItems at e
  split at e
  · cases e
    obtain ⟨p, xs, e1, hp, r, _⟩ := r.tup_inv
    cases e1
    exact ⟨xs, hp, r⟩
  · cases e
    cases r with
    | lstF h r => exact ⟨_, h.sq, r⟩
  · cases e
    cases r with
    | scr h => exact ⟨_, h.sq, RepL.ints _⟩
  · cases e
theorem seq_ref {K mg} {H : Hp} {d : D} {v : V} {f : List Addr} {ds : List D} (r : RepD K mg H d v f) (e : seqItems d = some ds) : ∃ a, v = .ref a ∧ f = [] := by
  obtain ⟨c, xs, e1, e2, _⟩ := seq_src r e
  exact ⟨c.a, e1, e2⟩
/-- a list or a tuple -/
def ItS (K : PySem.W.Frag) (c : Src) : It := if c.k then Itt K c.a else Itl K c.a
def iSeq (K : PySem.W.Frag) (tl : TE) : TI := fun σ H R => tl σ H fun x H1 => ∃ c : Src, x = .ref c.a ∧ (∃ xs, c.At K H1 xs) ∧ R (ItS K c) H1
theorem pi_seq {l : Expr} {tl : TE} (hl : PE X l tl) : PI X tg l (iSeq X.K tl) := by
  refine ⟨fun pins s σ H R I h => ?_⟩
  refine thn (hl.run pins s σ H _ I h) fun v s1 ⟨x, H1, I1, r1, q1⟩ => ?_
  obtain ⟨⟨k, a⟩, e, ⟨xs, hq⟩, q⟩ := q1
  subst e
  cases r1
  have fp : ∀ b ∈ [s1.heap.objs.size], FpOk X pins H1 b := fun b hb => by
    have e : b = s1.heap.objs.size := by simpa using hb
    subst e
    exact I1.fpOk (Nat.le_refl _) (I1.hok.fresh (Nat.le_refl _))
  cases k with
  | true =>
    obtain ⟨its, rv, p, hz⟩ := I1.tuple hq
    refine wpAny_pyIter_tuple (show s1.heap.IsTuple a its.toArray from p) ?_
    exact ⟨s1.heap.objs.size, [s1.heap.objs.size], _, _, H1, rfl, I1.kept (t' := s1.toks) fun b o e => Heap.get?_push_of_some _ e, turn_tuple a _, ⟨_, Heap.get?_push_size _ rfl, rfl, rfl⟩, fp, q⟩
  | false =>
    obtain ⟨its, rv, p, hz⟩ := I1.list hq
    refine wpAny_pyIter_list p.isList ?_
    exact ⟨s1.heap.objs.size, [s1.heap.objs.size], _, _, H1, rfl, I1.kept (t' := s1.toks) fun b o e => Heap.get?_push_of_some _ e, turn_list a _, ⟨_, Heap.get?_push_size _ rfl, rfl, rfl⟩, fp, q⟩
theorem RepL.at1 {K mg} {H : Hp} {ds : List D} {xs : List V} {i : Nat} (r : RepL K mg H ds xs []) (hi : i < ds.length) : ∃ v, xs[i]? = some v ∧ RepD K mg H ds[i] v [] := by
  obtain ⟨v, g, e1, rd, s⟩ := r.get (i := i) (d := ds[i]) (by simp [hi])
  cases g with
  | nil => exact ⟨v, e1, rd⟩
  | cons b _ => exact nomatch s b List.mem_cons_self
theorem walk_src {K : PySem.W.Frag} {mg : Str → Option Value} {d : D} {c : Src} {ds : List D} (rd : ∀ H, RepD K mg H d (.ref c.a) [] → ∃ xs, c.At K H xs ∧ RepL K mg H ds xs []) : IterOk K mg (ItS K c) ds [d] [.ref c.a] := by
  obtain ⟨k, a⟩ := c
  cases k with
  | true =>
    refine ⟨⟨fun i H hi r => ?_, fun H r => ?_, fun i H x H' hi r y => ?_⟩⟩
    · obtain ⟨v, ev, r1⟩ := r.one_inv
      cases ev
      obtain ⟨xs, hx, rl⟩ := rd H r1
      obtain ⟨v, e1, _⟩ := rl.at1 hi
      exact ⟨xs, v, hx, e1⟩
    · obtain ⟨v, ev, r1⟩ := r.one_inv
      cases ev
      obtain ⟨xs, hx, rl⟩ := rd H r1
      exact ⟨xs, hx, Nat.le_of_eq rl.length.symm⟩
    · obtain ⟨v, ev, r1⟩ := r.one_inv
      cases ev
      obtain ⟨xs, hx, rl⟩ := rd H r1
      obtain ⟨v, e1, rv⟩ := rl.at1 hi
      have key : H' = H ∧ xs[i]? = some x := ⟨y.1, y.2 xs hx⟩
      obtain ⟨rfl, e2⟩ := key
      rw [e1] at e2
      cases e2
      exact ⟨Stp.refl _, fun _ _ h => h, ds[i], by simp [hi], rv⟩
  | false =>
    refine ⟨⟨fun i H hi r => ?_, fun H r => ?_, fun i H x H' hi r y => ?_⟩⟩
    · obtain ⟨v, ev, r1⟩ := r.one_inv
      cases ev
      obtain ⟨xs, hx, rl⟩ := rd H r1
      obtain ⟨v, e1, _⟩ := rl.at1 hi
      exact ⟨xs, v, hx, e1⟩
    · obtain ⟨v, ev, r1⟩ := r.one_inv
      cases ev
      obtain ⟨xs, hx, rl⟩ := rd H r1
      exact ⟨xs, hx, Nat.le_of_eq rl.length.symm⟩
    · obtain ⟨v, ev, r1⟩ := r.one_inv
      cases ev
      obtain ⟨xs, hx, rl⟩ := rd H r1
      obtain ⟨v, e1, rv⟩ := rl.at1 hi
      have key : H' = H ∧ xs[i]? = some x := ⟨y.1, y.2 xs hx⟩
      obtain ⟨rfl, e2⟩ := key
      rw [e1] at e2
      cases e2
      exact ⟨Stp.refl _, fun _ _ h => h, ds[i], by simp [hi], rv⟩
theorem walk_seq {K : PySem.W.Frag} {mg : Str → Option Value} {d : D} {a : Addr} {ds : List D} (e : seqItems d = some ds) : IterOk K mg (ItS K ⟨kindOf d, a⟩) ds [d] [.ref a] :=
  walk_src (c := ⟨kindOf d, a⟩) fun H r => seq_srcK r e
def iSeqD (f : EF) : IF := fun σ => (eShr f σ).bind fun h σ1 => match h with
  | .val d => match seqItems d with
    | some ds => .ok ds σ1
    | none => .err
  | _ => .err
theorem li_seq (h : LE X W e fa) : LI X W tg e (iSeqD fa) := PI.imp (pi_seq (le_shr h)) fun σ H R ⟨φd, φv, σd, w, q⟩ => by
  obtain ⟨φd1, φv1, σd1, w1, q1⟩ := ted_step (WdH.nil w) q
  refine ⟨φd1, φv1, σd1, w1, q1.mono (fun h1 σ1 k y H1 w1 => ?_) fun _ _ _ _ q => q⟩
  obtain ⟨h', σ', w', q'⟩ := k y H1 w1
  split at q'
  · rename_i d
    split at q'
    · rename_i ds e0
      obtain ⟨f, r⟩ := w'.rep (k := 0) rfl rfl rfl
      obtain ⟨a, rfl, rfl⟩ := seq_ref r e0
      obtain ⟨xs, hx, rl⟩ := seq_srcK r e0
      exact ⟨⟨kindOf d, a⟩, rfl, ⟨xs, hx⟩, q' _ [d] [.ref a] H1 (by simp [seq_fz e0]) (.one r) (walk_seq e0) w'.out⟩
    · exact q'.elim
  · exact q'.elim

/-! ### range -/
def iRng1D (fs : AF) : IF := fun σ => (fs σ).bind fun hs σ1 => match hs with
  | [h] => match deref h σ1 with
    | some (.int j) => if -(2 ^ 62) ≤ j ∧ j < 2 ^ 62 then .ok ((List.range j.toNat).map fun k : Nat => D.int (k : Int)) σ1 else .err
    | _ => .err
  | _ => .err
theorem walk_rng {K mg} (lo : Int) (n : Nat) : IterOk K mg (Itr lo n) ((List.range n).map fun k : Nat => D.int (lo + (k : Int))) [] [] := by
  have w := walk_range (lo := lo) (n := n)
  refine ⟨⟨fun i H hi _ => w.goes i H (by simpa using hi) trivial, fun H _ => by simpa using w.stops H trivial, fun i H x H' hi _ y => ?_⟩⟩
  obtain ⟨rfl, rfl⟩ := w.yields i H x H' (by simpa using hi) trivial y
  exact ⟨Stp.refl _, fun _ _ h => h, .int (lo + i), by rw [List.getElem?_map, List.getElem?_range (by simpa using hi)]; rfl, .int _⟩
theorem li_rng1 (hg : Gl X "range") (hm : X.mg "range" = none) (ha : LA X W [a] fs) (hs : starEach [a] X.env = [(false, eval a X.env)] := by rfl) : LI X W tg (.Call (.Name "range" p) [a] [] pos) (iRng1D fs) :=
  PI.imp (pi_range1 hg hm ha hs) fun σ H R ⟨φd, φv, σd, w, q⟩ => by
    obtain ⟨φd1, φv1, σd1, w1, q1⟩ := tad_step (WdH.nil w) q
    refine ⟨φd1, φv1, σd1, w1, q1.mono (fun h1 σ1 k y H1 w1 => ?_) fun _ _ _ _ q => q⟩
    obtain ⟨h', σ', w', q'⟩ := k y H1 w1
    replace w' : WdH X.K X.mg H1 φd φv σ' σ h' y := w'
    split at q'
    · rename_i h
      match y, w' with
      | [], w' => exact absurd w'.len (by simp)
      | [y1], w' =>
        split at q'
        · rename_i j e1
          obtain ⟨f, r⟩ := w'.rep (k := 0) rfl rfl e1
          cases r
          split at q'
          · rename_i hj
            refine ⟨j, rfl, hj.1, hj.2, q' _ [] [] H1 rfl .nil ?_ w'.out⟩
            have := walk_rng (K := X.K) (mg := X.mg) 0 j.toNat
            simpa using this
          · exact q'.elim
        · exact q'.elim
      | _ :: _ :: _, w' => exact absurd w'.len (by simp)
    · exact q'.elim
def iRng2D (fs : AF) : IF := fun σ => (fs σ).bind fun hs σ1 => match hs with
  | [h, h'] => match deref h σ1, deref h' σ1 with
    | some (.int i), some (.int j) => if -(2 ^ 62) ≤ i ∧ i < 2 ^ 62 ∧ -(2 ^ 62) ≤ j ∧ j < 2 ^ 62 then .ok ((List.range (j - i).toNat).map fun k : Nat => D.int (i + (k : Int))) σ1 else .err
    | _, _ => .err
  | _ => .err
theorem li_rng2 (hg : Gl X "range") (hm : X.mg "range" = none) (ha : LA X W [a, b] fs) (hs : starEach [a, b] X.env = [(false, eval a X.env), (false, eval b X.env)] := by rfl) (hs2 : starEach [b] X.env = [(false, eval b X.env)] := by rfl) : LI X W tg (.Call (.Name "range" p) [a, b] [] pos) (iRng2D fs) :=
  PI.imp (pi_range2 hg hm ha hs hs2) fun σ H R ⟨φd, φv, σd, w, q⟩ => by
    obtain ⟨φd1, φv1, σd1, w1, q1⟩ := tad_step (WdH.nil w) q
    refine ⟨φd1, φv1, σd1, w1, q1.mono (fun h1 σ1 k y H1 w1 => ?_) fun _ _ _ _ q => q⟩
    obtain ⟨h', σ', w', q'⟩ := k y H1 w1
    replace w' : WdH X.K X.mg H1 φd φv σ' σ h' y := w'
    split at q'
    · rename_i h h2
      match y, w' with
      | [], w' => exact absurd w'.len (by simp)
      | [_], w' => exact absurd w'.len (by simp)
      | [y1, y2], w' =>
        split at q'
        · rename_i i j e1 e2
          obtain ⟨f, r⟩ := w'.rep (k := 0) rfl rfl e1
          cases r
          obtain ⟨f, r⟩ := w'.rep (k := 1) rfl rfl e2
          cases r
          split at q'
          · rename_i hj
            exact ⟨i, j, rfl, hj, q' _ [] [] H1 rfl .nil (walk_rng _ _) w'.out⟩
          · exact q'.elim
        · exact q'.elim
      | _ :: _ :: _ :: _, w' => exact absurd w'.len (by simp)
    · exact q'.elim

/-! ### enumerate, zip -/
theorem RepD.pair {K mg} {H : Hp} {T : Addr} {xs : List V} {ds : List D} (hT : H T = none) (r : RepL K mg H ds xs []) : RepD K mg (upd H T (.tup xs)) (.tup ds) (.ref T) [] :=
  .tup (.inl (.inl upd_same)) (r.mono (Stp.fresh hT) _ fun b hb => nomatch hb)
theorem keep_fresh {H : Hp} {T : Addr} {o : HO} (hT : H T = none) : ∀ b u, H b = some u → upd H T o b = some u := fun b u e => by rw [upd_ne (ne_of_none e hT)]; exact e
def enumItems (ds : List D) : List D := (List.range ds.length).map fun i => match ds[i]? with
  | some d => .tup [.int (i : Nat), d]
  | none => .non
theorem walk_enumD {K : PySem.W.Frag} {mg : Str → Option Value} {d : D} {c : Src} {ds : List D} (rd : ∀ H, RepD K mg H d (.ref c.a) [] → ∃ xs, c.At K H xs ∧ RepL K mg H ds xs []) : IterOk K mg (ItE K c) (enumItems ds) [d] [.ref c.a] := by
  have len : (enumItems ds).length = ds.length := by simp [enumItems]
  refine ⟨⟨fun i H hi r => ?_, fun H r => ?_, fun i H x H' hi r y => ?_⟩⟩
  · obtain ⟨v, ev, r1⟩ := r.one_inv
    cases ev
    obtain ⟨xs, hx, rl⟩ := rd H r1
    exact ⟨xs, hx, by rw [← rl.length, ← len]; exact hi⟩
  · obtain ⟨v, ev, r1⟩ := r.one_inv
    cases ev
    obtain ⟨xs, hx, rl⟩ := rd H r1
    exact ⟨xs, hx, by rw [len, rl.length]⟩
  · obtain ⟨v, ev, r1⟩ := r.one_inv
    cases ev
    obtain ⟨xs, hx, rl⟩ := rd H r1
    rw [len] at hi
    obtain ⟨v, e1, rv⟩ := rl.at1 hi
    obtain ⟨T, x', rfl, hT, rfl, e2⟩ := y
    have e3 := e2 xs hx
    rw [e1] at e3
    cases e3
    refine ⟨Stp.fresh hT, keep_fresh hT, .tup [.int (i : Nat), ds[i]], ?_, RepD.pair hT ?_⟩
    · unfold enumItems
      rw [List.getElem?_map, List.getElem?_range hi]
      simp [hi]
    · have := RepL.cons (.int (i : Nat)) (RepL.one rv)
      simpa using this
def iEnumD (fs : AF) : IF := fun σ => (fs σ).bind fun hs σ1 => match hs with
  | [.val d] => match seqItems d with
    | some ds => .ok (enumItems ds) σ1
    | none => .err
  | _ => .err
/-- one argument, shared -/
def aShr1 (f : EF) : AF := aCons (eShr f) aNil
theorem li_enum {elts : List Expr} {kk : Nat} {tpos : Pos} (hg : Gl X "enumerate") (hm : X.mg "enumerate" = none) (ha : LA X W [e] fs) (hs : starEach [e] X.env = [(false, eval e X.env)] := by rfl) :
    LI X W (.Tuple elts kk tpos) (.Call (.Name "enumerate" p) [e] [] pos) (iEnumD fs) := PI.imp (pi_enumS hg hm ha hs) fun σ H R ⟨φd, φv, σd, w, q⟩ => by
  obtain ⟨φd1, φv1, σd1, w1, q1⟩ := tad_step (WdH.nil w) q
  refine ⟨φd1, φv1, σd1, w1, q1.mono (fun h1 σ1 k y H1 w1 => ?_) fun _ _ _ _ q => q⟩
  obtain ⟨h', σ', w', q'⟩ := k y H1 w1
  replace w' : WdH X.K X.mg H1 φd φv σ' σ h' y := w'
  split at q'
  · rename_i d
    split at q'
    · rename_i ds e0
      match y, w' with
      | [], w' => exact absurd w'.len (by simp)
      | [y1], w' =>
        obtain ⟨f, r⟩ := w'.rep (k := 0) rfl rfl rfl
        obtain ⟨a, rfl, rfl⟩ := seq_ref r e0
        obtain ⟨xs, hx, rl⟩ := seq_srcK r e0
        exact ⟨⟨kindOf d, a⟩, xs, rfl, hx, q' _ [d] [.ref a] H1 (by simp [seq_fz e0]) (.one r) (walk_enumD (c := ⟨kindOf d, a⟩) fun H r => seq_srcK r e0) w'.out⟩
      | _ :: _ :: _, w' => exact absurd w'.len (by simp)
    · exact q'.elim
  · exact q'.elim
def zip2Items (xs ys : List D) : List D := List.zipWith (fun a b => .tup [a, b]) xs ys
def zip3Items (xs ys zs : List D) : List D := List.zipWith (fun a b => match b with | (b, c) => .tup [a, b, c]) xs (List.zip ys zs)
theorem RepL.two_inv {K mg} {H : Hp} {d e : D} {vs : List V} (h : RepL K mg H [d, e] vs []) : ∃ v u, vs = [v, u] ∧ RepD K mg H d v [] ∧ RepD K mg H e u [] := by
  obtain ⟨f, ef⟩ : ∃ f, f = ([] : List Addr) := ⟨_, rfl⟩
  rw [← ef] at h
  cases h with
  | cons h r =>
    obtain ⟨e1, e2⟩ := List.append_eq_nil_iff.mp ef
    subst e1 e2
    obtain ⟨u, rfl, r2⟩ := r.one_inv
    exact ⟨_, u, rfl, h, r2⟩
theorem RepL.three_inv {K mg} {H : Hp} {d e f : D} {vs : List V} (h : RepL K mg H [d, e, f] vs []) : ∃ v u w, vs = [v, u, w] ∧ RepD K mg H d v [] ∧ RepD K mg H e u [] ∧ RepD K mg H f w [] := by
  obtain ⟨g, ef⟩ : ∃ f, f = ([] : List Addr) := ⟨_, rfl⟩
  rw [← ef] at h
  cases h with
  | cons h r =>
    obtain ⟨e1, e2⟩ := List.append_eq_nil_iff.mp ef
    subst e1 e2
    obtain ⟨u, w, rfl, r1, r2⟩ := r.two_inv
    exact ⟨_, u, w, rfl, h, r1, r2⟩
theorem walk_zip2D {K : PySem.W.Frag} {mg : Str → Option Value} {d1 d2 : D} {c1 c2 : Src} {ds1 ds2 : List D} (rd1 : ∀ H, RepD K mg H d1 (.ref c1.a) [] → ∃ xs, c1.At K H xs ∧ RepL K mg H ds1 xs []) (rd2 : ∀ H, RepD K mg H d2 (.ref c2.a) [] → ∃ xs, c2.At K H xs ∧ RepL K mg H ds2 xs []) :
    IterOk K mg (ItZ2 K c1 c2) (zip2Items ds1 ds2) [d1, d2] [.ref c1.a, .ref c2.a] := by
  have len : (zip2Items ds1 ds2).length = min ds1.length ds2.length := by simp [zip2Items]
  refine ⟨⟨fun i H hi r => ?_, fun H r => ?_, fun i H x H' hi r y => ?_⟩⟩
  · obtain ⟨v, u, ev, r1, r2⟩ := r.two_inv
    cases ev
    obtain ⟨xs, hx, rl⟩ := rd1 H r1
    obtain ⟨ys, hy, rl2⟩ := rd2 H r2
    have h1 := rl.length
    have h2 := rl2.length
    exact ⟨xs, ys, hx, hy, by omega, by omega⟩
  · obtain ⟨v, u, ev, r1, r2⟩ := r.two_inv
    cases ev
    obtain ⟨xs, hx, rl⟩ := rd1 H r1
    obtain ⟨ys, hy, rl2⟩ := rd2 H r2
    have h1 := rl.length
    have h2 := rl2.length
    exact ⟨xs, ys, hx, hy, by omega⟩
  · obtain ⟨v, u, ev, r1, r2⟩ := r.two_inv
    cases ev
    obtain ⟨xs, hx, rl⟩ := rd1 H r1
    obtain ⟨ys, hy, rl2⟩ := rd2 H r2
    have i1 : i < ds1.length := by omega
    have i2 : i < ds2.length := by omega
    obtain ⟨v, e1, rv⟩ := rl.at1 i1
    obtain ⟨u, e2, ru⟩ := rl2.at1 i2
    obtain ⟨T, x', y', rfl, hT, rfl, e3, e4⟩ := y
    have e3 := e3 xs hx
    rw [e1] at e3
    cases e3
    have e4 := e4 ys hy
    rw [e2] at e4
    cases e4
    refine ⟨Stp.fresh hT, keep_fresh hT, .tup [ds1[i], ds2[i]], ?_, RepD.pair hT ?_⟩
    · unfold zip2Items
      simp [List.getElem?_zipWith, i1, i2]
    · have := RepL.cons rv (RepL.one ru)
      simpa using this
theorem walk_zip3D {K : PySem.W.Frag} {mg : Str → Option Value} {d1 d2 d3 : D} {c1 c2 c3 : Src} {ds1 ds2 ds3 : List D} (rd1 : ∀ H, RepD K mg H d1 (.ref c1.a) [] → ∃ xs, c1.At K H xs ∧ RepL K mg H ds1 xs []) (rd2 : ∀ H, RepD K mg H d2 (.ref c2.a) [] → ∃ xs, c2.At K H xs ∧ RepL K mg H ds2 xs [])
    (rd3 : ∀ H, RepD K mg H d3 (.ref c3.a) [] → ∃ xs, c3.At K H xs ∧ RepL K mg H ds3 xs []) :
    IterOk K mg (ItZ3 K c1 c2 c3) (zip3Items ds1 ds2 ds3) [d1, d2, d3] [.ref c1.a, .ref c2.a, .ref c3.a] := by
  have len : (zip3Items ds1 ds2 ds3).length = min ds1.length (min ds2.length ds3.length) := by simp [zip3Items]
  refine ⟨⟨fun i H hi r => ?_, fun H r => ?_, fun i H x H' hi r y => ?_⟩⟩
  · obtain ⟨v, u, t, ev, r1, r2, r3⟩ := r.three_inv
    cases ev
    obtain ⟨xs, hx, rl⟩ := rd1 H r1
    obtain ⟨ys, hy, rl2⟩ := rd2 H r2
    obtain ⟨zs, hz, rl3⟩ := rd3 H r3
    have h1 := rl.length
    have h2 := rl2.length
    have h3 := rl3.length
    exact ⟨xs, ys, zs, hx, hy, hz, by omega, by omega, by omega⟩
  · obtain ⟨v, u, t, ev, r1, r2, r3⟩ := r.three_inv
    cases ev
    obtain ⟨xs, hx, rl⟩ := rd1 H r1
    obtain ⟨ys, hy, rl2⟩ := rd2 H r2
    obtain ⟨zs, hz, rl3⟩ := rd3 H r3
    have h1 := rl.length
    have h2 := rl2.length
    have h3 := rl3.length
    exact ⟨xs, ys, zs, hx, hy, hz, by omega⟩
  · obtain ⟨v, u, t, ev, r1, r2, r3⟩ := r.three_inv
    cases ev
    obtain ⟨xs, hx, rl⟩ := rd1 H r1
    obtain ⟨ys, hy, rl2⟩ := rd2 H r2
    obtain ⟨zs, hz, rl3⟩ := rd3 H r3
    have i1 : i < ds1.length := by omega
    have i2 : i < ds2.length := by omega
    have i3 : i < ds3.length := by omega
    obtain ⟨v, e1, rv⟩ := rl.at1 i1
    obtain ⟨u, e2, ru⟩ := rl2.at1 i2
    obtain ⟨t, e5, rt⟩ := rl3.at1 i3
    obtain ⟨T, x', y', z', rfl, hT, rfl, e3, e4, e6⟩ := y
    have e3 := e3 xs hx
    rw [e1] at e3
    cases e3
    have e4 := e4 ys hy
    rw [e2] at e4
    cases e4
    have e6 := e6 zs hz
    rw [e5] at e6
    cases e6
    refine ⟨Stp.fresh hT, keep_fresh hT, .tup [ds1[i], ds2[i], ds3[i]], ?_, RepD.pair hT ?_⟩
    · unfold zip3Items
      simp [List.getElem?_zipWith, List.zip_eq_zipWith, i1, i2, i3]
    · have := RepL.cons rv (RepL.cons ru (RepL.one rt))
      simpa using this
def iZip2D (fs : AF) : IF := fun σ => (fs σ).bind fun hs σ1 => match hs with
  | [.val d, .val d'] => match seqItems d, seqItems d' with
    | some ds, some ds' => .ok (zip2Items ds ds') σ1
    | _, _ => .err
  | _ => .err
theorem li_zip2 {elts : List Expr} {kk : Nat} {tpos : Pos} (hg : Gl X "zip") (hm : X.mg "zip" = none) (ha : LA X W [a, b] fs)
    (hs : starEach [a, b] X.env = (false, eval a X.env) :: starEach [b] X.env := by rfl) (hpl : (backTo pos (starEach [b] X.env)).any (·.1) = false := by rfl) :
    LI X W (.Tuple elts kk tpos) (.Call (.Name "zip" p) [a, b] [] pos) (iZip2D fs) := PI.imp (pi_zipS hg hm ha hs hpl) fun σ H R ⟨φd, φv, σd, w, q⟩ => by
  obtain ⟨φd1, φv1, σd1, w1, q1⟩ := tad_step (WdH.nil w) q
  refine ⟨φd1, φv1, σd1, w1, q1.mono (fun h1 σ1 k y H1 w1 => ?_) fun _ _ _ _ q => q⟩
  obtain ⟨h', σ', w', q'⟩ := k y H1 w1
  replace w' : WdH X.K X.mg H1 φd φv σ' σ h' y := w'
  split at q'
  · rename_i d d'
    split at q'
    · rename_i ds ds' e0 e0'
      match y, w' with
      | [], w' => exact absurd w'.len (by simp)
      | [_], w' => exact absurd w'.len (by simp)
      | [y1, y2], w' =>
        obtain ⟨f, r⟩ := w'.rep (k := 0) rfl rfl rfl
        obtain ⟨f', r'⟩ := w'.rep (k := 1) rfl rfl rfl
        obtain ⟨a, rfl, rfl⟩ := seq_ref r e0
        obtain ⟨a', rfl, rfl⟩ := seq_ref r' e0'
        obtain ⟨xs, hx, rl⟩ := seq_srcK r e0
        obtain ⟨ys, hy, rl'⟩ := seq_srcK r' e0'
        refine ⟨⟨kindOf d, a⟩, ⟨kindOf d', a'⟩, xs, ys, rfl, hx, hy, q' _ [d, d'] [.ref a, .ref a'] H1 (by simp [seq_fz e0, seq_fz e0']) ?_ (walk_zip2D (c1 := ⟨kindOf d, a⟩) (c2 := ⟨kindOf d', a'⟩) (fun H r => seq_srcK r e0) fun H r => seq_srcK r e0') w'.out⟩
        have := RepL.cons r (RepL.one r')
        simpa using this
      | _ :: _ :: _ :: _, w' => exact absurd w'.len (by simp)
    · exact q'.elim
  · exact q'.elim
def iZip3D (fs : AF) : IF := fun σ => (fs σ).bind fun hs σ1 => match hs with
  | [.val d, .val d', .val d''] => match seqItems d, seqItems d', seqItems d'' with
    | some ds, some ds', some ds'' => .ok (zip3Items ds ds' ds'') σ1
    | _, _, _ => .err
  | _ => .err
theorem li_zip3 {elts : List Expr} {kk : Nat} {tpos : Pos} (hg : Gl X "zip") (hm : X.mg "zip" = none) (ha : LA X W [a, b, c] fs)
    (hs : starEach [a, b, c] X.env = (false, eval a X.env) :: starEach [b, c] X.env := by rfl) (hpl : (backTo pos (starEach [b, c] X.env)).any (·.1) = false := by rfl) :
    LI X W (.Tuple elts kk tpos) (.Call (.Name "zip" p) [a, b, c] [] pos) (iZip3D fs) := PI.imp (pi_zipS3 hg hm ha hs hpl) fun σ H R ⟨φd, φv, σd, w, q⟩ => by
  obtain ⟨φd1, φv1, σd1, w1, q1⟩ := tad_step (WdH.nil w) q
  refine ⟨φd1, φv1, σd1, w1, q1.mono (fun h1 σ1 k y H1 w1 => ?_) fun _ _ _ _ q => q⟩
  obtain ⟨h', σ', w', q'⟩ := k y H1 w1
  replace w' : WdH X.K X.mg H1 φd φv σ' σ h' y := w'
  split at q'
  · rename_i d d' d''
    split at q'
    · rename_i ds ds' ds'' e0 e0' e0''
      match y, w' with
      | [], w' => exact absurd w'.len (by simp)
      | [_], w' => exact absurd w'.len (by simp)
      | [_, _], w' => exact absurd w'.len (by simp)
      | [y1, y2, y3], w' =>
        obtain ⟨f, r⟩ := w'.rep (k := 0) rfl rfl rfl
        obtain ⟨f', r'⟩ := w'.rep (k := 1) rfl rfl rfl
        obtain ⟨f'', r''⟩ := w'.rep (k := 2) rfl rfl rfl
        obtain ⟨a, rfl, rfl⟩ := seq_ref r e0
        obtain ⟨a', rfl, rfl⟩ := seq_ref r' e0'
        obtain ⟨a'', rfl, rfl⟩ := seq_ref r'' e0''
        obtain ⟨xs, hx, rl⟩ := seq_srcK r e0
        obtain ⟨ys, hy, rl'⟩ := seq_srcK r' e0'
        obtain ⟨zs, hz, rl''⟩ := seq_srcK r'' e0''
        refine ⟨⟨kindOf d, a⟩, ⟨kindOf d', a'⟩, ⟨kindOf d'', a''⟩, xs, ys, zs, rfl, hx, hy, hz, q' _ [d, d', d''] [.ref a, .ref a', .ref a''] H1 (by simp [seq_fz e0, seq_fz e0', seq_fz e0'']) ?_ (walk_zip3D (c1 := ⟨kindOf d, a⟩) (c2 := ⟨kindOf d', a'⟩) (c3 := ⟨kindOf d'', a''⟩) (fun H r => seq_srcK r e0) (fun H r => seq_srcK r e0') fun H r => seq_srcK r e0'') w'.out⟩
        have := RepL.cons r (RepL.cons r' (RepL.one r''))
        simpa using this
      | _ :: _ :: _ :: _ :: _, w' => exact absurd w'.len (by simp)
    · exact q'.elim
  · exact q'.elim
end
end DL
namespace DL
open PySem PySem.Spec PyProof.Rows L2

/-! ### for -/
def forL (g : GF) (b : SF) : List D → SF
  | [], σ => .nx σ
  | d :: ds, σ => match g d σ with
    | .ok _ σ1 => match b σ1 with
      | .nx σ2 => forL g b ds σ2
      | .ct σ2 => forL g b ds σ2
      | .bk σ2 => .nx σ2
      | r => r
    | .exc c ks vs σ1 => .exc c ks vs σ1
    | .err => .err
def sFor (it : IF) (g : GF) (b : SF) : SF := fun σ => OutS.ofE (it σ) fun items σ1 => forL g b items σ1
section
variable {K : PySem.W.Frag} {mg : Str → Option Value} {W : WX} {B : Nat → Bool} {H H' : Hp} {φd ψd : List D} {φv ψv : List V} {σd : En} {σv : L2.St} {Dn : Ends}
theorem GdS.frame (l : ψd.length = ψv.length) {r : OutS} (h : GdS K mg W B Dn φd φv σv r) : GdS K mg W B Dn (φd ++ ψd) (φv ++ ψv) σv r := by
  cases r with
  | err => exact h
  | nx σ => exact fun σ2 H2 s2 w => h σ2 H2 s2 (w.drop l)
  | bk σ => exact fun σ2 H2 s2 w => h σ2 H2 s2 (w.drop l)
  | ct σ => exact fun σ2 H2 s2 w => h σ2 H2 s2 (w.drop l)
  | rt d σ => exact fun v σ2 H2 s2 w => h v σ2 H2 s2 (w.dropMid l rfl)
  | exc c ks vs σ => exact fun σ2 s2 C dd H2 w => h σ2 s2 C dd H2 (w.drop l)
theorem Wd.src {srcD : List D} {srcV : List V} (w : Wd K mg H (φd ++ srcD) (φv ++ srcV) σd σv) (l : srcD.length = srcV.length) (z : srcD.all fz = true) : RepL K mg H srcD srcV [] := by
  obtain ⟨f, t, g, r1, r2, q, nd⟩ := w.last l
  have := r2.fz z
  subst this
  exact r2
/-- ends of a turn -/
theorem GdS.turn {Dn' : Ends} {r : OutS} {k : En → OutS} {Pn : L2.St → Hp → Prop} {σv' : L2.St} (sb : SB B σv σv') (hn : Dn'.nx = Pn) (hc : Dn'.ct = Pn) (hb : Dn'.bk = Dn.nx) (hr : Dn'.rt = Dn.rt)
    (hP : ∀ σ2 σv2 H2, SB B σv σv2 → Wd K mg H2 φd φv σ2 σv2 → GdS K mg W B Dn φd φv σv2 (k σ2) → Pn σv2 H2)
    (h : GdS K mg W B Dn φd φv σv (match r with
      | .nx σ2 => k σ2
      | .ct σ2 => k σ2
      | .bk σ2 => .nx σ2
      | r => r)) : GdS K mg W B Dn' φd φv σv' r := by
  cases r with
  | err => exact h
  | nx σ2 => exact fun σv2 H2 s2 w => by rw [hn]; exact hP σ2 σv2 H2 (sb.trans s2) w (h.sb (sb.trans s2))
  | ct σ2 => exact fun σv2 H2 s2 w => by rw [hc]; exact hP σ2 σv2 H2 (sb.trans s2) w (h.sb (sb.trans s2))
  | bk σ2 => exact fun σv2 H2 s2 w => by rw [hb]; exact h σv2 H2 (sb.trans s2) w
  | rt d σ2 => exact fun v σv2 H2 s2 w => by rw [hr]; exact h v σv2 H2 (sb.trans s2) w
  | exc c ks vs σ2 => exact fun σv2 s2 => h σv2 (sb.trans s2)
end
section
variable {X : Cx} {W : WX} {B : Nat → Bool} {tg iter : Expr} {body : List Stmt} {it : IF} {g : GF} {b : SF} {pos : Pos}
theorem ls_for (hp : PassesOwn (model X.prog X.w) X.A X.env X.xe) (hc : X.calm = true) (hi : LI X W tg iter it) (hg : LG X W B tg g) (hb : LSs X W B body b) (hs : ∀ x, foldedSetIterable iter X.env x = pure x := by intro _; rfl) :
    LS X W B (.For tg iter body [] pos) (sFor it g b) := PS.imp (ps_for hp hc hi hg hb hs) fun D σ H ⟨φd, φv, σd, w, q⟩ => by
  refine ⟨φd, φv, σd, w, q.ofE.mono (fun items σ1 q1 J srcD srcV H1 z rs ok w1 => ?_) fun _ _ _ _ q => q⟩
  have l := rs.length
  let φd' := φd ++ srcD
  let φv' := φv ++ srcV
  let Pv : Nat → L2.St → Hp → Prop := fun i σv' H' => ∃ σd', Wd X.K X.mg H' φd' φv' σd' σv' ∧ GdS X.K X.mg W B D φd' φv' σv' (forL g b (items.drop i) σd')
  refine for_it ok.walk Pv ⟨σ1, w1.pushL rs, q1.frame l⟩ (fun i σv' H' _ p => ?_) (fun i x σv' H' H2 hi p y => ?_) (fun σv' H' p => ?_)
  · obtain ⟨σd', w2, _⟩ := p
    exact w2.src l z
  · obtain ⟨σd', w2, q2⟩ := p
    obtain ⟨st, kp, d, e, rd⟩ := y
    have ed : items.drop i = d :: items.drop (i + 1) := by
      rw [List.drop_eq_getElem_cons hi]
      have : items[i]? = some items[i] := by simp [hi]
      rw [this] at e
      cases e
      rfl
    rw [ed] at q2
    have q3 : GdS X.K X.mg W B D φd' φv' σv' (match g d σd' with
      | .ok _ σ1 => match b σ1 with
        | .nx σ2 => forL g b (items.drop (i + 1)) σ2
        | .ct σ2 => forL g b (items.drop (i + 1)) σ2
        | .bk σ2 => .nx σ2
        | r => r
      | .exc c ks vs σ1 => .exc c ks vs σ1
      | .err => .err) := q2
    refine ⟨φd', φv', σd', d, (w2.mono st kp).push rd, ?_⟩
    cases eg : g d σd' with
    | err => rw [eg] at q3; exact q3
    | exc c ks vs σ2 => rw [eg] at q3; exact q3
    | ok u σ2 =>
      rw [eg] at q3
      refine fun σv2 H3 s2 w3 => ⟨φd', φv', σ2, w3, ?_⟩
      refine GdS.turn (Dn := D) (Pn := Pv (i + 1)) (k := fun σ2 => forL g b (items.drop (i + 1)) σ2) s2 rfl rfl rfl rfl (fun σ3 σv3 H4 _ w4 q4 => ⟨σ3, w4, q4⟩) q3
  · obtain ⟨σd', w2, q2⟩ := p
    rw [List.drop_length] at q2
    exact q2 σv' H' SB.refl w2

/-! ### comprehensions -/
def wipeD (σ : En) : List Nat → En
  | [] => σ
  | v :: vs => (wipeD σ vs).set v none
def lcLoop (vs : List Nat) (g : GF) (t : TF) (f : EF) : List D → List D → En → Out (List D)
  | [], acc, σ => .ok acc σ
  | d :: ds, acc, σ => match g d σ with
    | .ok _ σ1 => match t σ1 with
      | .ok b σ2 => if b = true then match f σ2 with
          | .ok h σ3 => match give [h] σ3 with
            | some ([y], σ4) => if acc.length < 16777216 then lcLoop vs g t f ds (acc ++ [y]) (wipeD σ4 vs) else .err
            | _ => .err
          | _ => .err
        else lcLoop vs g t f ds acc (wipeD σ2 vs)
      | _ => .err
    | _ => .err
def eLc (vs : List Nat) (it : IF) (g : GF) (t : TF) (f : EF) : EF := fun σ => (it σ).bind fun items σ1 => (lcLoop vs g t f items [] (wipeD σ1 vs)).bind fun acc σ2 => .ok (.val (.lst true acc)) σ2
end
section
variable {K : PySem.W.Frag} {mg : Str → Option Value} {H H' : Hp} {φd ψd : List D} {φv ψv : List V} {σd : En} {σv : L2.St}
theorem wipeD_length (σ : En) : ∀ vs : List Nat, (wipeD σ vs).length = σ.length
  | [] => rfl
  | v :: vs => by unfold wipeD; rw [List.length_set, wipeD_length σ vs]
theorem Wd.wipe (w : Wd K mg H φd φv σd σv) : ∀ vs : List Nat, Wd K mg H φd φv (wipeD σd vs) (L2.wipe σv vs)
  | [] => w
  | v :: vs => by unfold wipeD L2.wipe; exact (w.wipe vs).unset v none
theorem Wd.forget (w : Wd K mg H φd φv σd σv) (i : Nat) : Wd K mg H φd φv (σd.set i none) σv := by
  by_cases hi : i < σv.length
  · have := w.unset i σv[i]
    rwa [List.set_getElem_self] at this
  · have h2 : ¬ i < σd.length := by rw [w.length.2]; exact hi
    rw [List.set_eq_of_length_le (by omega)]
    exact w
theorem Wd.wipeL (w : Wd K mg H φd φv σd σv) : ∀ vs : List Nat, Wd K mg H φd φv (wipeD σd vs) σv
  | [] => w
  | v :: vs => by unfold wipeD; exact (w.wipeL vs).forget v
/-- a slot of which nothing is told may hold anything -/
theorem Wd.other (w : Wd K mg H φd φv σd σv) (i : Nat) (o : Option V) (h : ∀ x, σd[i]? = some x → x = none) : Wd K mg H φd φv σd (σv.set i o) := by
  have := w.unset i o
  by_cases hi : i < σd.length
  · have e : σd[i] = none := h _ (by simp [hi])
    have : σd.set i none = σd := by rw [← e]; exact List.set_getElem_self hi
    rw [← this]
    exact w.unset i o
  · have h2 : ¬ i < σv.length := by rw [← w.length.2]; exact hi
    rw [List.set_eq_of_length_le (by omega)]
    exact w
theorem wipeD_none (σ : En) : ∀ (vs : List Nat) (i : Nat), i ∈ vs → ∀ x, (wipeD σ vs)[i]? = some x → x = none
  | [], i, hi, _, _ => nomatch hi
  | v :: vs, i, hi, x, e => by
    unfold wipeD at e
    by_cases hv : v = i
    · subst hv
      by_cases hl : v < (wipeD σ vs).length
      · rw [List.getElem?_set_self hl] at e; cases e; rfl
      · rw [List.getElem?_eq_none (by simpa using hl)] at e; cases e
    · rw [List.getElem?_set_ne hv] at e
      rcases List.mem_cons.mp hi with z | z
      · exact absurd z.symm hv
      · exact wipeD_none σ vs i z x e
/-- the wiped slots' values stand again -/
theorem Wd.unwipe {vs : List Nat} {us : List Nat} (hu : ∀ i ∈ us, i ∈ vs) (w : Wd K mg H φd φv (wipeD σd vs) (L2.wipe σv us)) : Wd K mg H φd φv (wipeD σd vs) σv := by
  obtain ⟨f, g, r, s, nd⟩ := w
  refine ⟨f, g, r, ?_, nd⟩
  -- slot by slot
  have key : ∀ (a : En) (b c : L2.St) (g : List Addr), RepS K mg H a b g → b.length = c.length → (∀ (i : Nat) d, a[i]? = some (some d) → c[i]? = b[i]?) → RepS K mg H a c g := by
    intro a
    induction a with
    | nil =>
      intro b c g h hl _
      cases h
      cases c with
      | nil => exact .nil
      | cons _ _ => cases hl
    | cons o a ih =>
      intro b c g h hl k
      cases c with
      | nil => cases h <;> cases hl
      | cons oc c =>
        cases h with
        | non o r => exact .non _ (ih _ _ _ r (by simpa using hl) fun i d e => by simpa using k (i + 1) d (by simpa using e))
        | som h r =>
          have := k 0 _ rfl
          simp at this
          subst this
          exact .som h (ih _ _ _ r (by simpa using hl) fun i d e => by simpa using k (i + 1) d (by simpa using e))
  refine key _ _ _ _ s (wipe_length _ _) fun i d e => ?_
  have ni : i ∉ us := fun z => by
    have := wipeD_none σd vs i (hu i z) (some d) e
    cases this
  exact (wipe_out ni).symm
/-- a new item behind the list that is made -/
theorem Wd.acc {acc : List D} {D : Addr} {d : DL.D} {v : V} (w : Wd K mg H (φd ++ [.lst true acc] ++ [d]) (φv ++ [.ref D] ++ [v]) σd σv) :
    ∃ xs, H D = some (.lst xs) ∧ acc.length = xs.length ∧ Wd K mg (upd H D (.lst (xs ++ [v]))) (φd ++ [.lst true (acc ++ [d])]) (φv ++ [.ref D]) σd σv := by
  rw [List.append_assoc, List.append_assoc] at w
  obtain ⟨f, t, g, r1, r2, q, nd⟩ := w.last rfl
  cases r2 with
  | cons h r =>
    obtain ⟨v', ev, rd⟩ := r.one_inv
    cases ev
    cases h with
    | lstO h rl =>
      rename_i fl xs
      rename_i ft
      refine ⟨_, h, rl.length, ?_⟩
      have st : Stp H (upd H D (.lst (fl ++ [v]))) := Stp.lst h
      have nd2 : (D :: (f ++ (ft ++ xs) ++ g)).Nodup := by
        refine List.Perm.nodup_iff ?_ |>.mp nd
        rw [List.perm_iff_count]
        intro z
        simp only [List.count_append, List.count_cons]
        omega
      obtain ⟨na, nd3⟩ := List.nodup_cons.mp nd2
      have keep : ∀ b, b ∈ f ++ (ft ++ xs) ++ g → upd H D (.lst (fl ++ [v])) b = H b := fun b hb => upd_ne fun z => na (z ▸ hb)
      have rl2 := (rl.append (.one rd)).mono st _ fun b hb => keep b (by
        simp at hb ⊢
        rcases hb with hb | hb <;> simp [hb])
      refine Wd.of_last (r1.mono st _ fun b hb => keep b (by simp [hb])) (.one (.lstO upd_same rl2)) (q.mono st fun b hb => keep b (by simp [hb])) ?_
      refine List.Perm.nodup_iff ?_ |>.mp nd2
      rw [List.perm_iff_count]
      intro z
      simp only [List.count_append, List.count_cons]
      omega
end
end DL
namespace DL
open PySem PySem.Spec PyProof.Rows L2

/-- within a block nothing is let out -/
abbrev W0 : WX := fun _ _ _ _ => False
/-- a block's own slots alone are set -/
abbrev Bv (vs : List Nat) : Nat → Bool := fun i => !vs.contains i
abbrev LTs (X : Cx) (W : WX) (ifs : List Expr) (t : TF) : Prop := PTs X ifs (TTd X.K X.mg W t)
theorem PTs.imp {X : Cx} {ifs : List Expr} {t t' : TT} (h : PTs X ifs t) (k : ∀ σ H Q, t' σ H Q → t σ H Q) : PTs X ifs t' := ⟨fun pins s σ H Q I q => h.run pins s σ H Q I (k _ _ _ q)⟩
def tYesD : TF := fun σ => .ok true σ
theorem lts_nil {X : Cx} {W : WX} : LTs X W [] tYesD := PTs.imp pts_nil fun σ H Q ⟨φd, φv, σd, w, q⟩ => q H w
theorem lts_one {X : Cx} {W : WX} {c : Expr} {t : TF} (h : LT X W c t) : LTs X W [c] t := pts_one h
theorem SB.wipe_eq {vs : List Nat} {a b : L2.St} (h : SB (Bv vs) a b) : L2.wipe b vs = L2.wipe a vs := by
  have key : ∀ (us : List Nat) (x : L2.St) (i : Nat), (L2.wipe x us)[i]? = if i ∈ us then (if i < x.length then some none else none) else x[i]? := by
    intro us x
    induction us with
    | nil => intro i; simp [L2.wipe]
    | cons u us ih =>
      intro i
      unfold L2.wipe
      by_cases hu : u = i
      · subst hu
        rw [if_pos List.mem_cons_self]
        by_cases hl : u < (L2.wipe x us).length
        · rw [List.getElem?_set_self hl]
          rw [wipe_length] at hl
          rw [if_pos hl]
        · rw [List.getElem?_eq_none (by simpa using hl)]
          rw [wipe_length] at hl
          rw [if_neg hl]
      · rw [List.getElem?_set_ne hu, ih i]
        have : i ∈ u :: us ↔ i ∈ us := by simp [Ne.symm hu]
        simp only [this]
  apply List.ext_getElem?
  intro i
  rw [key, key, h.1]
  by_cases hi : i ∈ vs
  · rw [if_pos hi, if_pos hi]
  · rw [if_neg hi, if_neg hi]
    exact h.2 i (by simp [Bv, hi])
section
variable {X : Cx} {W : WX} {it : IF} {g : GF} {t : TF} {f : EF} {vs : List Nat}
/-- what an answer is wanted for, whatever handle -/
theorem eLc_good {σ : L2.St} {H : Hp} {Q : VK} {φd : List D} {φv : List V} {σd : En} (w : Wd X.K X.mg H φd φv σd σ)
    (q : Gd (fun acc σd' => ∀ x H', Wd X.K X.mg H' (φd ++ [.lst true acc]) (φv ++ [x]) σd' σ → Q x H') (xW X.K X.mg φd φv σ W) ((it σd).bind fun items σ1 => lcLoop vs g t f items [] (wipeD σ1 vs))) :
    tLc (TId X.K X.mg W it) (TGd X.K X.mg W0 (Bv vs) g) (TTd X.K X.mg W0 t) (fun σ H Q => TEd X.K X.mg W0 f σ H fun x H' => GT H' (Q x)) vs σ H Q := by
  refine ⟨φd, φv, σd, w, q.bind.mono (fun items σ1 q1 J srcD srcV H1 z rs ok w1 => ?_) fun _ _ _ _ q => q⟩
  intro D hD
  have l := rs.length
  let φd' := φd ++ srcD
  let φv' := φv ++ srcV
  let Pv : Nat → Hp → Prop := fun i H' => ∃ σd' acc, Wd X.K X.mg H' (φd' ++ [.lst true acc]) (φv' ++ [.ref D]) (wipeD σd' vs) (L2.wipe σ vs) ∧
    Gd (fun acc σd' => ∀ x H', Wd X.K X.mg H' (φd ++ [.lst true acc]) (φv ++ [x]) σd' σ → Q x H') (xW X.K X.mg φd φv σ W) (lcLoop vs g t f (items.drop i) acc (wipeD σd' vs))
  refine lc_it (g := TGd X.K X.mg W0 (Bv vs) g) (tt := TTd X.K X.mg W0 t) (te := fun σ H Q => TEd X.K X.mg W0 f σ H fun x H' => GT H' (Q x)) (vs := vs) (σ := σ) (H1 := H1) (D := D) (Qd := fun H => Q (.ref D) H) ok.walk Pv ⟨σ1, [], ?_, q1⟩ (fun i H' _ p => ?_) (fun i x H' H2 hi p y => ?_) (fun H' p => ?_)
  · have w2 : Wd X.K X.mg H1 (φd' ++ []) (φv' ++ []) σ1 σ := by simpa [φd', φv'] using w1.pushL rs
    exact (w2.newList rfl hD).wipe vs
  · obtain ⟨σd', acc, w2, _⟩ := p
    exact (w2.drop rfl).src l z
  · obtain ⟨σd', acc, w2, q2⟩ := p
    obtain ⟨st, kp, d, e, rd⟩ := y
    have ed : items.drop i = d :: items.drop (i + 1) := by
      rw [List.drop_eq_getElem_cons hi]
      have : items[i]? = some items[i] := by simp [hi]
      rw [this] at e
      cases e
      rfl
    rw [ed] at q2
    unfold lcLoop at q2
    refine ⟨_, _, _, d, (w2.mono st kp).push rd, ?_⟩
    cases eg : g d (wipeD σd' vs) with
    | err => rw [eg] at q2; exact q2.elim
    | exc c ks vs' σ2 => rw [eg] at q2; exact q2.elim
    | ok u σ2 =>
      rw [eg] at q2
      refine fun σv2 H3 s2 w3 => ⟨?_, _, _, σ2, w3, ?_⟩
      · rw [s2.wipe_eq]
        have := SB.wipe_eq (vs := vs) (a := σ) (b := L2.wipe σ vs) ⟨wipe_length _ _, fun i hi => wipe_out (by simpa [Bv] using hi)⟩
        exact this
      · have ws : L2.wipe σv2 vs = L2.wipe σ vs := by
          rw [s2.wipe_eq]
          exact SB.wipe_eq (vs := vs) (a := σ) (b := L2.wipe σ vs) ⟨wipe_length _ _, fun i hi => wipe_out (by simpa [Bv] using hi)⟩
        dsimp only at q2
        cases et : t σ2 with
        | err => rw [et] at q2; exact q2.elim
        | exc c ks vs' σ3 => rw [et] at q2; exact q2.elim
        | ok b σ3 =>
          rw [et] at q2
          intro H4 w4
          cases b with
          | false =>
            rw [if_neg Bool.false_ne_true]
            simp only [Bool.false_eq_true, if_false] at q2
            exact ⟨σ3, acc, by rw [← ws]; exact w4.wipe vs, q2⟩
          | true =>
            rw [if_pos rfl]
            simp only [if_true] at q2
            refine ⟨_, _, σ3, w4, ?_⟩
            cases ef : f σ3 with
            | err => rw [ef] at q2; exact q2.elim
            | exc c ks vs' σ4 => rw [ef] at q2; exact q2.elim
            | ok h σ4 =>
              rw [ef] at q2
              intro yv H5 w5
              dsimp only at q2
              split at q2
              · rename_i d5 σ5 e5
                split at q2
                · rename_i hz
                  refine give1_ok w5 e5 fun H6 w6 => .here ?_
                  obtain ⟨xs, hH, hl, w7⟩ := w6.acc
                  refine ⟨xs, hH, by rw [sizeLine_eq, ← hl]; exact hz, σ5, acc ++ [d5], ?_, q2⟩
                  rw [← ws]
                  exact w7.wipe vs
                · exact q2.elim
              · exact q2.elim
  · obtain ⟨σd', acc, w2, q2⟩ := p
    rw [List.drop_length] at q2
    have w3 : Wd X.K X.mg H' (φd' ++ [.lst true acc]) (φv' ++ [.ref D]) (wipeD σd' vs) σ := Wd.unwipe (us := vs) (fun _ h => h) w2
    exact q2 _ _ (w3.dropMid l rfl)
end
section
variable {X : Cx} {W : WX} {it : IF} {g : GF} {t : TF} {f : EF} {elt tg iter : Expr} {ifs : List Expr} {scope : Scope} {own : List (Str × Nat)} {pos spos py : Pos}
/-- [elt for tg in iter if ifs] -/
theorem le_lc (hc : X.calm = true) (hN : X.N.Nodup) (hi : LI X W tg iter it) (ok : BlkOk X.N X.env.scope scope own)
    (hg : ∀ (s : Shared) (H : Hp) (C : Addr) (cl : List (Str × Addr)) (fp : List Addr), LG (X.blk s H scope (compEnvC scope cl C X.env) fp) W0 (Bv (own.map (·.2))) tg g)
    (ht : ∀ (s : Shared) (H : Hp) (C : Addr) (cl : List (Str × Addr)) (fp : List Addr), LTs (X.blk s H scope (compEnvC scope cl C X.env) fp) W0 ifs t)
    (he : ∀ (s : Shared) (H : Hp) (C : Addr) (cl : List (Str × Addr)) (fp : List Addr), LE (X.blk s H scope (compEnvC scope cl C X.env) fp) W0 elt f) (hs : ∀ x, foldedSetIterable iter X.env x = pure x := by intro _; rfl) :
    LE X W (.ListComp elt [⟨tg, iter, ifs, 0⟩] scope pos) (eLc (own.map (·.2)) it g t f) :=
  PE.imp (pe_lc hc hN hi ok hg ht (fun s H C cl fp => PE.gh (he s H C cl fp)) hs) fun σ H Q ⟨φd, φv, σd, w, q⟩ => by
    refine eLc_good (g := g) (t := t) (f := f) (vs := own.map (·.2)) (it := it) w ?_
    unfold eLc at q
    revert q
    cases it σd with
    | err => exact id
    | exc c ks vs σ1 => exact id
    | ok items σ1 =>
      simp only [Out.bind_ok]
      cases lcLoop (own.map (·.2)) g t f items [] (wipeD σ1 (own.map (·.2))) with
      | err => exact id
      | exc c ks vs σ1 => exact id
      | ok acc σ2 => exact fun q x H' w' => q x H' (WdH.val w')
theorem ls_setLc {B : Nat → Bool} {i : Nat} {y : Str} (hb : B i = false) (hc : X.calm = true) (hN : X.N.Nodup) (hy : X.N[i]? = some y) (hyl : X.env.scope.names.lookup y = some .local)
    (hsw : swapsWith (.ListComp elt [⟨tg, iter, ifs, 0⟩] scope pos) (some (.Name y py)) spos.line X.env = pure true) (hi : LI X W tg iter it) (ok : BlkOk X.N X.env.scope scope own)
    (hg : ∀ (s : Shared) (H : Hp) (C : Addr) (cl : List (Str × Addr)) (fp : List Addr), LG (X.blk s H scope (compEnvC scope cl C X.env) fp) W0 (Bv (own.map (·.2))) tg g)
    (ht : ∀ (s : Shared) (H : Hp) (C : Addr) (cl : List (Str × Addr)) (fp : List Addr), LTs (X.blk s H scope (compEnvC scope cl C X.env) fp) W0 ifs t)
    (he : ∀ (s : Shared) (H : Hp) (C : Addr) (cl : List (Str × Addr)) (fp : List Addr), LE (X.blk s H scope (compEnvC scope cl C X.env) fp) W0 elt f) (hs : ∀ x, foldedSetIterable iter X.env x = pure x := by intro _; rfl) :
    LS X W B (.Assign [.Name y py] (.ListComp elt [⟨tg, iter, ifs, 0⟩] scope pos) spos) (sSet i (eLc (own.map (·.2)) it g t f)) :=
  PS.imp (ps_setLc hc hN hy hyl hsw hi ok hg ht (fun s H C cl fp => PE.gh (he s H C cl fp)) hs) fun Dn σ H ⟨φd, φv, σd, w, q⟩ => by
    show tLc _ _ _ _ _ σ H fun x H1 => Dn.nx (σ.set i (some x)) H1
    refine eLc_good (g := g) (t := t) (f := f) (vs := own.map (·.2)) (it := it) w ?_
    unfold sSet eLc at q
    revert q
    cases it σd with
    | err => exact id
    | exc c ks vs σ1 => exact fun q => q σ SB.refl
    | ok items σ1 =>
      simp only [Out.bind_ok]
      cases lcLoop (own.map (·.2)) g t f items [] (wipeD σ1 (own.map (·.2))) with
      | err => exact id
      | exc c ks vs σ1 => exact fun q => q σ SB.refl
      | ok acc σ2 =>
        simp only [Out.bind_ok, OutS.ofE_ok, give]
        intro q x H' w'
        split at q
        · rename_i hi'
          exact q _ _ (SB.set hb) (w'.store hi')
        · exact q.elim
end
end DL
/-! Room where no repr is under way: for repr of tuples, lists. -/
namespace DL
open PySem PySem.Spec PyProof.Rows L2
structure RoomG (k : Nat) (A : Around) : Prop extends Room k A where
  gd : A.guards = some []
theorem RoomG.mono {j k : Nat} {A : Around} (r : RoomG k A) (h : j ≤ k) : RoomG j A := ⟨r.toRoom.mono h, r.gd⟩
theorem RoomG.deeper {k : Nat} {A : Around} (r : RoomG (k + 1) A) (env : Env) : RoomG k (A.deeper env) := ⟨r.toRoom.deeper env, r.gd⟩
theorem RoomG.in1 {k : Nat} {A : Around} (r : RoomG (k + 1) A) : RoomG k A.in1 := ⟨r.toRoom.in1, r.gd⟩
theorem RoomG.make {k : Nat} {A : Around} (r : RoomG (k + 1) A) (C : Addr) (us : List Value) (kw : List (Str × Value)) : RoomG k (A.under (.builtin "type.__call__" ⟨.ref C :: us, kw⟩)) :=
  ⟨r.toRoom.make C us kw, by
    have := r.gd
    first | exact this | (simp [Around.under, Code.guards, Code.isGuard, guardIds, pushGuards, this])⟩
theorem RoomG.units {k : Nat} {A : Around} (r : RoomG k A) : A.units + 64 < cLine := r.toRoom.units
theorem RoomG.units0 {k : Nat} {A : Around} (r : RoomG k A) : A.units < cLine := r.toRoom.units0
/-- what a def keeps, where no repr is under way -/
structure FnG (P : Program) (w : World) (K : PySem.W.Frag) (mg : Str → Option Value) (base : Heap) (CX : CXT) (k : Nat) (f : Addr) (fd : FuncData) (ps : List Str) (sp : Sp) : Prop where
  len : ∀ vs H Q E, sp vs H Q E → vs.length = ps.length
  run : ∀ (A : Around) (outer : List Env) (s : Shared) (H : Hp) (args : Args) (us : List Value) (vs : List V) (Q : VK) (E : XK), RoomG k A → Env0 P w K mg base A outer s H → BindsTo s fd args (ps.zip us) → Vals vs us → sp vs H Q E →
    codeAny (model P w) A (.call (.ref f) args) (CR CX outer P w H s Q E) s
section
variable {X : Cx} {CX : CXT} {k : Nat} {f C : Addr} {fd : FuncData} {ps : List Str} {sp : Sp} {E : L2.St → XK} {x : Str} {p pos : Pos} {e : Expr} {es : List Expr} {t : TA}
theorem run_fnG {pins : List (Addr × Obj)} {σ : L2.St} {H : Hp} {s : Shared} {Q : VK} {us : List Value} {vs : List V} (F : FnG X.prog X.w X.K X.mg X.base CX k f fd ps sp) (hr : RoomG k X.A) (hb : Binds X.K fd ps []) (hx : PassesAt CX X σ (E σ))
    (I : Inv X pins σ H s) (r : Vals vs us) (h : sp vs H Q (E σ)) : wpAny (model X.prog X.w) X.A (call (.ref f) us) (EP X pins σ Q) X.xe s := by
  have hl : us.length = ps.length := r.length.symm.trans (F.len _ _ _ _ h)
  have b := hb s us I.kIn (by simpa using hl)
  rw [List.append_nil] at b
  refine wpAny_call (codeAny_mono (F.run X.A X.stack s H ⟨us, []⟩ us vs Q (E σ) hr I.env0 b r h) fun r s' hq => ?_)
  rcases r with e | fl
  · exact hx pins H s e s' I hq
  · cases fl <;> first | exact I.after hq | exact False.elim hq
theorem pe_callG (F : FnG X.prog X.w X.K X.mg X.base CX k f fd ps sp) (hr : RoomG k X.A) (hg : Gl X x) (hm : X.mg x = some (.ref f)) (hk : PySem.W.keepIn X.K (.ref f) = true) (hb : Binds X.K fd ps []) (hx : ∀ σ, PassesAt CX X σ (E σ))
    (ha : PA X (e :: es) t) (hdb : (x == ("__debug__" : Str)) = false := by decide) (he : starEach (e :: es) X.env = (false, eval e X.env) :: starEach es X.env := by rfl) (hpl : (backTo pos (starEach es X.env)).any (·.1) = false := by rfl) :
    PE X (.Call (.Name x p) (e :: es) [] pos) (tCallS sp E t) := ⟨fun pins s σ H Q I h =>
  wpAny_Call_Name_kw (ld_glob I hg hm (PySem.W.callWith_K (h₀ := X.base) I.ok.mod.kin hk (thn (ha.run pos pins s σ H _ I h) fun us s1 ⟨vs, H1, I1, r, q⟩ => ⟨I1.kIn, run_fnG F hr hb (hx σ) I1 r q⟩) he hpl) hdb)⟩
end
/-- a def of the text, by its body, where no repr is under way -/
theorem fn_ofG {CX : CXT} {P : Program} {w : World} {K : PySem.W.Frag} {mg : Str → Option Value} {base : Heap} {k : Nat} {f : Addr} {name qual : Str} {params : Arguments} {body : List Stmt} {scope : Scope} {dV kV doc pm cdv ct oc : Value} {an od : Option Addr}
    {osl : Array (Option Value)} {N ps : List Str} {sp : Sp} (lk : K.lookup f = some ⟨oc, od, .func (PySem.W.fnOf name qual params body scope dV kV doc pm an cdv ct), osl⟩) (hcd : PySem.W.codeIn K cdv qual = true) (S : FnScope N ps scope)
    (len : ∀ vs H Q E, sp vs H Q E → vs.length = ps.length)
    (hbody : ∀ (A : Around) (outer : List Env) (s : Shared) (H : Hp) (vs : List V) (Q : VK) (E : XK), RoomG k (A.deeper (envOfC qual scope s.heap.objs.size f cdv)) → sp vs H Q E →
      ∃ t, PSs (cxOf CX P w K mg base N qual scope f cdv A outer s H E) body t ∧ t { nx := fun _ H' => Q .non H', rt := Q } (L2.start N vs) H) :
    FnG P w K mg base CX (k + 1) f (PySem.W.fnOf name qual params body scope dV kV doc pm an cdv ct) ps sp := by
  refine ⟨len, fun A outer s H args us vs Q E hr e0 hb r hsp => ?_⟩
  have hl := len _ _ _ _ hsp
  have KX : K.In s.heap := e0.mod.kin.keeps fun b o e => (e0.bs b o e).1
  have lim : s.heap.NoLimit := e0.mod.nolimit.keeps fun b o e => (e0.bs b o e).1
  have hkind : ∀ y ∈ ps.zip us, scope.names.lookup y.1 = some .local ∨ (scope.names.lookup y.1 = some .cell ∧ ((cellsFrom (s.heap.objs.size + 1) scope.names []).lookup y.1).isSome = true) := fun y hy =>
    (S.par y.1 (List.of_mem_zip hy).1).imp id fun q => ⟨q, PySem.W.cellsFrom_some _ _ _ (.inl q)⟩
  refine codeAny_call_function hr.toRoom.depth (KX _ _ lk) rfl S.co S.gen rfl (PySem.W.codeRec_of KX hcd) (hb _ _ _ _ ?_)
  refine wpAny_newFunctionEnv_cells S.kind hkind fun env he s1 x => ?_
  subst he
  refine ⟨lim.keeps x.toInCall.keep, codeAny_func ?_⟩
  obtain ⟨t, ht, hq⟩ := hbody A outer s H vs Q E (hr.deeper _) hsp
  have I : Inv (cxOf CX P w K mg base N qual scope f cdv A outer s H E) [] (L2.start N vs) H s1 := inv_start S hr.hd e0 hl r x
  refine wpAny_mono (ht.run [] s1 (L2.start N vs) H _ I hq) (fun fl s' hs => ?_) fun e s' hs => hs
  cases fl with
  | ret u =>
    obtain ⟨v, σ', H', J, rv, q⟩ := hs
    exact ⟨v, H', J.os, J.bare, J.base, J.hok, rv, q⟩
  | next =>
    obtain ⟨σ', H', J, q⟩ := hs
    exact ⟨V.non, H', J.os, J.bare, J.base, J.hok, rfl, q⟩
  | brk => obtain ⟨_, _, _, q⟩ := hs; exact False.elim q
  | cont => obtain ⟨_, _, _, q⟩ := hs; exact False.elim q
end DL
namespace DL
open PySem PySem.Spec PyProof.Rows L2

/-! ### calls of a def, by functions of trees -/
inductive OutC where
  | err | ret (d : D) (ds : List D) | exc (c : Str) (ks : List Str) (vs : List D) (ds : List D)
/-- the arguments' trees; with the answer: what the arguments have become -/
abbrev MF := List D → OutC
section
variable (K : PySem.W.Frag) (mg : Str → Option Value)
def GdC (φd : List D) (φv : List V) (vs : List V) (Q : VK) (E : XK) : OutC → Prop
  | .err => False
  | .ret d ds' => ∀ z H', Wd K mg H' (φd ++ [d]) (φv ++ [z]) (ds'.map some) (vs.map some) → Q z H'
  | .exc c ks xs ds' => ∀ C dd H', Wd K mg H' φd φv (ds'.map some) (vs.map some) → XRep K mg H' c ks xs C dd → E (.ref C) dd H'
/-- the promise: n arguments, the answer is m's -/
def spM (n : Nat) (m : MF) : Sp := fun vs H Q E => vs.length = n ∧ ∃ φd φv ds, Wd K mg H φd φv (ds.map some) (vs.map some) ∧ GdC K mg φd φv vs Q E (m ds)
end
def argsOf : List Hd → En → Option (List D × List (Option Nat) × En)
  | [], σ => some ([], [], σ)
  | .val d :: r, σ => match argsOf r σ with
    | some (ds, ms, σ') => some (d :: ds, none :: ms, σ')
    | none => none
  | .sl i :: r, σ => match sget σ i with
    | some d => if fz d = true then (match argsOf r σ with
        | some (ds, ms, σ') => some (d :: ds, none :: ms, σ')
        | none => none)
      else (match argsOf r (σ.set i none) with
        | some (ds, ms, σ') => some (d :: ds, some i :: ms, σ')
        | none => none)
    | none => none
def putB : List (Option Nat) → List D → En → En
  | some i :: ms, d :: ds, σ => putB ms ds (σ.set i (some d))
  | none :: ms, _ :: ds, σ => putB ms ds σ
  | _, _, σ => σ
def callOut (ms : List (Option Nat)) (σ : En) : OutC → Out Hd
  | .err => .err
  | .ret d ds' => .ok (.val d) (putB ms ds' σ)
  | .exc c ks xs ds' => .exc c ks xs (putB ms ds' σ)
def eCall (m : MF) (fs : AF) : EF := fun σ => (fs σ).bind fun hs σ1 => match argsOf hs σ1 with
  | some (ds, ms, σ2) => callOut ms σ2 (m ds)
  | none => .err
def sD (σ : En) : List D := σ.filterMap id
def sV : En → L2.St → List V
  | some _ :: σ, some v :: τ => v :: sV σ τ
  | some _ :: σ, none :: τ => sV σ τ
  | none :: σ, _ :: τ => sV σ τ
  | _, _ => []
section
variable {K : PySem.W.Frag} {mg : Str → Option Value} {W : WX} {H H' : Hp} {φd ψd : List D} {φv ψv : List V} {σd : En} {σv : L2.St} {hs : List Hd} {xs : List V}
theorem RepS.toL : ∀ {σd : En} {σv : L2.St} {g : List Addr}, RepS K mg H σd σv g → RepL K mg H (sD σd) (sV σd σv) g ∧ ∀ H' g', RepL K mg H' (sD σd) (sV σd σv) g' → RepS K mg H' σd σv g'
  | [], σv, g, h => by
    cases h
    exact ⟨.nil, fun H' g' r => by cases r; exact .nil⟩
  | none :: σ, σv, g, h => by
    cases h with
    | non o r =>
      obtain ⟨r1, r2⟩ := RepS.toL r
      exact ⟨r1, fun H' g' q => .non _ (r2 H' g' q)⟩
  | some d :: σ, σv, g, h => by
    cases h with
    | som h r =>
      obtain ⟨r1, r2⟩ := RepS.toL r
      refine ⟨.cons h r1, fun H' g' q => ?_⟩
      generalize ea : sD (some d :: σ) = A at q
      cases q with
      | cons h' q' =>
        have ea' : d :: sD σ = _ := ea
        cases ea'
        exact .som h' (r2 H' _ q')
theorem RepL.toS : ∀ {ds : List D} {vs : List V} {f : List Addr}, RepL K mg H ds vs f → RepS K mg H (ds.map some) (vs.map some) f
  | [], _, _, h => by cases h; exact .nil
  | d :: ds, _, _, h => by cases h with | cons h r => exact .som h (RepL.toS r)
theorem RepS.ofL : ∀ {ds : List D} {vs : List V} {f : List Addr}, RepS K mg H (ds.map some) (vs.map some) f → RepL K mg H ds vs f
  | [], [], _, h => by cases h; exact .nil
  | [], v :: vs, _, h => by cases h
  | d :: ds, [], _, h => by cases h
  | d :: ds, v :: vs, _, h => by
    generalize ea : (d :: ds).map some = A at h
    generalize eb : (v :: vs).map some = Bb at h
    cases h with
    | nil => cases ea
    | non o r => cases ea
    | som h r =>
      cases ea; cases eb
      exact .cons h (RepS.ofL r)
/-- the arguments come out of the hand -/
theorem args_ok : ∀ (hs : List Hd) {φd : List D} {φv : List V} {σd σ2 : En} {xs : List V} {ds : List D} {ms : List (Option Nat)}, WdH K mg H φd φv σd σv hs xs → argsOf hs σd = some (ds, ms, σ2) →
    Wd K mg H (φd ++ ds) (φv ++ xs) σ2 σv ∧ ds.length = xs.length ∧ ms.length = xs.length ∧ ∀ (k i : Nat) (x : V), ms[k]? = some (some i) → xs[k]? = some x → σv[i]? = some (some x)
  | [], φd, φv, σd, σ2, xs, ds, ms, w, e => by
    simp [argsOf] at e
    obtain ⟨rfl, rfl, rfl⟩ := e
    cases xs with
    | nil => exact ⟨by rw [List.append_nil, List.append_nil]; exact w.out, rfl, rfl, fun k i x e => by simp at e⟩
    | cons x xs => have := w.len; simp at this
  | .val d :: r, φd, φv, σd, σ2, [], ds, ms, w, e => by have := w.len; simp at this
  | .sl i :: r, φd, φv, σd, σ2, [], ds, ms, w, e => by have := w.len; simp at this
  | .val d :: r, φd, φv, σd, σ2, x :: xs, ds, ms, w, e => by
    simp only [argsOf] at e
    split at e
    · rename_i ds2 ms2 σ3 e2
      cases e
      have w2 : WdH K mg H (φd ++ [d]) (φv ++ [x]) σd σv r xs := by
        refine ⟨by have := w.len; simp at this; exact this, ?_, fun k i y e1 e2 => w.at_ (k + 1) i y (by simpa using e1) (by simpa using e2)⟩
        have := w.wd
        simpa [tmpD, tmpV, List.append_assoc] using this
      obtain ⟨w3, l1, l2, m3⟩ := args_ok r w2 e2
      refine ⟨by simpa [List.append_assoc] using w3, by simp [l1], by simp [l2], fun k i y e1 e3 => ?_⟩
      cases k with
      | zero => simp at e1
      | succ k => exact m3 k i y (by simpa using e1) (by simpa using e3)
    · cases e
  | .sl i :: r, φd, φv, σd, σ2, x :: xs, ds, ms, w, e => by
    simp only [argsOf] at e
    have hl : r.length = xs.length := by have := w.len; simp at this; exact this
    have hx : σv[i]? = some (some x) := w.at_ 0 i x rfl rfl
    have w0 : Wd K mg H (φd ++ tmpD r) (φv ++ tmpV r xs) σd σv := w.wd
    split at e
    · rename_i d e0
      split at e
      · rename_i hz
        split at e
        · rename_i ds2 ms2 σ3 e2
          cases e
          obtain ⟨v, f, ev, rd⟩ := w0.slot (sget_some e0)
          rw [hx] at ev
          cases ev
          have := rd.fz hz
          subst this
          have w5 : WdH K mg H (φd ++ [d]) (φv ++ [x]) σd σv r xs :=
            ⟨hl, w0.pushMid (tmp_length _ _ hl) rd, fun k j y e1 e2 => w.at_ (k + 1) j y (by simpa using e1) (by simpa using e2)⟩
          obtain ⟨w3, l1, l2, m3⟩ := args_ok r w5 e2
          refine ⟨by simpa [List.append_assoc] using w3, by simp [l1], by simp [l2], fun k i y e1 e3 => ?_⟩
          cases k with
          | zero => simp at e1
          | succ k => exact m3 k i y (by simpa using e1) (by simpa using e3)
        · cases e
      · split at e
        · rename_i ds2 ms2 σ3 e2
          cases e
          obtain ⟨v, ev, w1⟩ := w0.take (sget_some e0)
          rw [hx] at ev
          cases ev
          have w2 := Wd.swap (ψd := tmpD r) (ψv := tmpV r xs) (χd := [d]) (χv := [x]) w1 (tmp_length _ _ hl) rfl
          have w5 : WdH K mg H (φd ++ [d]) (φv ++ [x]) (σd.set i none) σv r xs :=
            ⟨hl, w2, fun k j y e1 e2 => w.at_ (k + 1) j y (by simpa using e1) (by simpa using e2)⟩
          obtain ⟨w3, l1, l2, m3⟩ := args_ok r w5 e2
          refine ⟨by simpa [List.append_assoc] using w3, by simp [l1], by simp [l2], fun k j y e1 e3 => ?_⟩
          cases k with
          | zero =>
            simp at e1 e3
            subst e1 e3
            exact hx
          | succ k => exact m3 k j y (by simpa using e1) (by simpa using e3)
        · cases e
    · cases e
/-- the caller's slots stand in the frame, the arguments in the slots -/
theorem Wd.enter {ds : List D} (w : Wd K mg H (φd ++ ds) (φv ++ xs) σd σv) (l : ds.length = xs.length) : Wd K mg H (φd ++ sD σd) (φv ++ sV σd σv) (ds.map some) (xs.map some) ∧
    ∀ (H' : Hp) (χd : List D) (χv : List V) (ds' : List D), χd.length = χv.length → Wd K mg H' (φd ++ sD σd ++ χd) (φv ++ sV σd σv ++ χv) (ds'.map some) (xs.map some) → Wd K mg H' (φd ++ χd ++ ds') (φv ++ χv ++ xs) σd σv := by
  obtain ⟨f, t, g, r1, r2, q, nd⟩ := w.last l
  obtain ⟨s1, s2⟩ := q.toL
  refine ⟨⟨f ++ g, t, r1.append s1, r2.toS, ?_⟩, fun H' χd χv ds' lχ w' => ?_⟩
  · refine List.Perm.nodup_iff ?_ |>.mp nd
    rw [List.append_assoc]
    exact List.Perm.append_left _ List.perm_append_comm
  · obtain ⟨F, c, tt, u1, u2, u3, nd2⟩ := w'.last lχ
    obtain ⟨v1, v2, f1, f2, ee, rfl, p1, p2⟩ := u1.split
    obtain ⟨e1, e2⟩ := List.append_inj' ee (by rw [← p2.length, s1.length])
    subst e1 e2
    have u4 := RepS.ofL u3
    refine ⟨(f1 ++ c) ++ tt, f2, (p1.append u2).append u4, s2 H' f2 p2, ?_⟩
    refine List.Perm.nodup_iff ?_ |>.mp nd2
    rw [List.perm_iff_count]
    intro z
    simp only [List.count_append]
    omega
theorem Wd.putB : ∀ {ms : List (Option Nat)} {ds : List D} {xs : List V} {φd : List D} {φv : List V} {σd : En}, ms.length = xs.length → ds.length = xs.length → (∀ (k i : Nat) (x : V), ms[k]? = some (some i) → xs[k]? = some x → σv[i]? = some (some x)) →
    Wd K mg H (φd ++ ds) (φv ++ xs) σd σv → Wd K mg H φd φv (DL.putB ms ds σd) σv
  | [], [], [], φd, φv, σd, _, _, _, w => by simpa [DL.putB] using w
  | [], _ :: _, [], φd, φv, σd, _, h, _, w => by cases h
  | [], _, _ :: _, φd, φv, σd, h, _, _, w => by cases h
  | _ :: _, _, [], φd, φv, σd, h, _, _, w => by cases h
  | _ :: _, [], _ :: _, φd, φv, σd, _, h, _, w => by cases h
  | some i :: ms, d :: ds, x :: xs, φd, φv, σd, h1, h2, k, w => by
    have l : ds.length = xs.length := by simpa using h2
    have hx : σv[i]? = some (some x) := k 0 i x rfl rfl
    have w1 : Wd K mg H (φd ++ [d] ++ ds) (φv ++ [x] ++ xs) σd σv := by simpa using w
    have w2 := Wd.swap (ψd := [d]) (ψv := [x]) w1 rfl l
    have hi : i < σd.length := by
      rw [w.length.2]
      exact (List.getElem?_eq_some_iff.mp hx).1
    have w3 := w2.store hi
    have ev : σv.set i (some x) = σv := by
      obtain ⟨hi, e2⟩ := List.getElem?_eq_some_iff.mp hx
      rw [← e2]; exact List.set_getElem_self hi
    rw [ev] at w3
    exact Wd.putB (ms := ms) (by simpa using h1) l (fun kk j y e1 e2 => k (kk + 1) j y (by simpa using e1) (by simpa using e2)) w3
  | none :: ms, d :: ds, x :: xs, φd, φv, σd, h1, h2, k, w => by
    have l : ds.length = xs.length := by simpa using h2
    have w1 : Wd K mg H (φd ++ [d] ++ ds) (φv ++ [x] ++ xs) σd σv := by simpa using w
    exact Wd.putB (ms := ms) (by simpa using h1) l (fun kk j y e1 e2 => k (kk + 1) j y (by simpa using e1) (by simpa using e2)) (w1.dropMid rfl l)
/-- a call's promise, from what is wanted behind it -/
theorem call_good {m : MF} {φd : List D} {φv : List V} {σd : En} {Q : VK} (w : WdH K mg H φd φv σd σv hs xs)
    (q : Gd (fun h σd' => ∀ x H', WdH K mg H' φd φv σd' σv [h] [x] → Q x H') (xW K mg φd φv σv W) (match argsOf hs σd with
      | some (ds, ms, σ2) => callOut ms σ2 (m ds)
      | none => .err)) : spM K mg xs.length m xs H Q (WE W σv) := by
  split at q
  · rename_i ds ms σ2 e
    obtain ⟨w1, l1, l2, k⟩ := args_ok hs w e
    obtain ⟨w2, back⟩ := w1.enter l1
    refine ⟨rfl, _, _, ds, w2, ?_⟩
    cases em : m ds with
    | err => rw [em] at q; exact q
    | ret d ds' =>
      rw [em] at q
      intro z H' w3
      have l3 : ds'.length = xs.length := by have := w3.length.2; simpa using this
      exact q z H' (WdH.val (Wd.putB l2 l3 k (back H' [d] [z] ds' rfl w3)))
    | exc c ks vs ds' =>
      rw [em] at q
      intro C dd H' w3 x
      have l3 : ds'.length = xs.length := by have := w3.length.2; simpa using this
      refine q C dd H' ?_ x
      have := back H' [] [] ds' rfl (by simpa using w3)
      exact Wd.putB l2 l3 k (by simpa using this)
  · exact q.elim
end
section
variable {X : Cx} {W : WX} {m : MF} {fs : AF} {k n : Nat} {f : Addr} {fd : FuncData} {ps : List Str} {x : Str} {p pos : Pos} {e : Expr} {es : List Expr}
theorem le_call (F : FnG X.prog X.w X.K X.mg X.base (L2.CX X.prog X.w) k f fd ps (spM X.K X.mg n m)) (hr : RoomG k X.A) (hg : Gl X x) (hm : X.mg x = some (.ref f)) (hk : PySem.W.keepIn X.K (.ref f) = true) (hb : Binds X.K fd ps []) (tk : Takes X W)
    (ha : LA X W (e :: es) fs) (hn : ∀ σ hs σ', fs σ = .ok hs σ' → hs.length = n) (hdb : (x == ("__debug__" : Str)) = false := by decide) (he : starEach (e :: es) X.env = (false, eval e X.env) :: starEach es X.env := by rfl) (hpl : (backTo pos (starEach es X.env)).any (·.1) = false := by rfl) :
    LE X W (.Call (.Name x p) (e :: es) [] pos) (eCall m fs) :=
  PE.imp (pe_callG (E := WE W) F hr hg hm hk hb (passAt tk) ha hdb he hpl) fun σ H Q ⟨φd, φv, σd, w, q⟩ => by
    unfold eCall at q
    refine ⟨φd, φv, σd, w, ?_⟩
    have hn' := hn σd
    revert q
    cases ef : fs σd with
    | err => exact id
    | exc c ks vs σ1 => exact id
    | ok hs σ1 =>
      intro q xs H1 w1
      have := call_good w1 q
      rwa [← w1.len, hn' hs σ1 ef] at this
end
end DL
namespace DL
open PySem PySem.Spec PyProof.Rows L2

/-! ### a def's body gives its promise -/
/-- the parameters' trees behind the body; rb: the parameters that the body sets anew -/
def finD : List Bool → List D → En → Option (List D)
  | [], [], _ => some []
  | true :: rb, d :: ds, _ :: σ => if fz d = true then (match finD rb ds σ with
    | some r => some (d :: r)
    | none => none) else none
  | false :: rb, _ :: ds, some d' :: σ => match finD rb ds σ with
    | some r => some (d' :: r)
    | none => none
  | _, _, _ => none
/-- rb per parameter; k further slots -/
def mDef (rb : List Bool) (k : Nat) (f : SF) : MF := fun ds => if ds.length = rb.length then
    match f (ds.map some ++ List.replicate k none) with
    | .nx σ => match finD rb ds σ with
      | some ds' => .ret .non ds'
      | none => .err
    | .rt d σ => match finD rb ds σ with
      | some ds' => .ret d ds'
      | none => .err
    | .exc c ks xs σ => match finD rb ds σ with
      | some ds' => .exc c ks xs ds'
      | none => .err
    | _ => .err
  else .err
/-- the slots that are not set anew -/
def Bp (rb : List Bool) : Nat → Bool := fun i => match rb[i]? with
  | some false => true
  | _ => false
def rbD : List Bool → List D → List D
  | true :: rb, d :: ds => if fz d = true then d :: rbD rb ds else rbD rb ds
  | false :: rb, _ :: ds => rbD rb ds
  | _, _ => []
def rbV : List Bool → List D → List V → List V
  | true :: rb, d :: ds, v :: vs => if fz d = true then v :: rbV rb ds vs else rbV rb ds vs
  | false :: rb, _ :: ds, _ :: vs => rbV rb ds vs
  | _, _, _ => []
section
variable {K : PySem.W.Frag} {mg : Str → Option Value} {W : WX} {H H' : Hp} {φd ψd : List D} {φv ψv : List V}
theorem rb_rep : ∀ {rb : List Bool} {ds : List D} {vs : List V} {g : List Addr}, RepL K mg H ds vs g → rb.length = ds.length → RepL K mg H (rbD rb ds) (rbV rb ds vs) []
  | [], [], _, _, r, _ => by cases r; exact .nil
  | [], _ :: _, _, _, r, h => by cases h
  | _ :: _, [], _, _, r, h => by cases h
  | true :: rb, d :: ds, _, _, r, h => by
    cases r with
    | cons h0 h1 =>
      have ih := rb_rep (rb := rb) h1 (by simpa using h)
      unfold rbD rbV
      split
      · rename_i hz
        have := h0.fz hz
        subst this
        simpa using RepL.cons h0 ih
      · exact ih
  | false :: rb, d :: ds, _, _, r, h => by
    cases r with
    | cons h0 h1 => exact rb_rep (rb := rb) h1 (by simpa using h)
theorem fin_rep : ∀ {rb : List Bool} {ds ds' : List D} {vs : List V} {σ : En} {τ : L2.St} {g : List Addr}, RepS K mg H σ τ g → RepL K mg H (rbD rb ds) (rbV rb ds vs) [] → rb.length = ds.length → vs.length = ds.length →
    (∀ (i : Nat) (v : V), rb[i]? = some false → vs[i]? = some v → τ[i]? = some (some v)) → finD rb ds σ = some ds' → ∃ g', RepL K mg H ds' vs g' ∧ g'.Sublist g
  | [], [], ds', [], σ, τ, g, r, q, h1, h2, k, e => by cases e; exact ⟨[], .nil, List.nil_sublist _⟩
  | [], [], ds', _ :: _, σ, τ, g, r, q, h1, h2, k, e => by cases h2
  | [], _ :: _, ds', _, σ, τ, g, r, q, h1, h2, k, e => by cases h1
  | _ :: _, [], ds', _, σ, τ, g, r, q, h1, h2, k, e => by cases h1
  | _ :: _, _ :: _, ds', [], σ, τ, g, r, q, h1, h2, k, e => by cases h2
  | true :: rb, d :: ds, ds', v :: vs, [], τ, g, r, q, h1, h2, k, e => by simp [finD] at e
  | false :: rb, d :: ds, ds', v :: vs, [], τ, g, r, q, h1, h2, k, e => by simp [finD] at e
  | true :: rb, d :: ds, ds', v :: vs, o :: σ, τ, g, r, q, h1, h2, k, e => by
    simp only [finD] at e
    split at e
    · rename_i hz
      split at e
      · rename_i r2 e2
        cases e
        have q' : RepL K mg H (d :: rbD rb ds) (v :: rbV rb ds vs) [] := by
          have a1 : rbD (true :: rb) (d :: ds) = d :: rbD rb ds := by simp [rbD, hz]
          have a2 : rbV (true :: rb) (d :: ds) (v :: vs) = v :: rbV rb ds vs := by simp [rbV, hz]
          rw [a1, a2] at q
          exact q
        obtain ⟨q1, q2⟩ : RepD K mg H d v [] ∧ RepL K mg H (rbD rb ds) (rbV rb ds vs) [] := by
          obtain ⟨f, ef⟩ : ∃ f, f = ([] : List Addr) := ⟨_, rfl⟩
          rw [← ef] at q'
          cases q' with
          | cons a b =>
            obtain ⟨e1, e2⟩ := List.append_eq_nil_iff.mp ef
            subst e1 e2
            exact ⟨a, b⟩
        have hl1 : rb.length = ds.length := by simpa using h1
        have hl2 : vs.length = ds.length := by simpa using h2
        cases r with
        | non o' r =>
          obtain ⟨g', s1, s2⟩ := fin_rep r q2 hl1 hl2 (fun i w e1 e2 => by simpa using k (i + 1) w (by simpa using e1) (by simpa using e2)) e2
          exact ⟨g', by simpa using RepL.cons q1 s1, s2⟩
        | som h r =>
          obtain ⟨g', s1, s2⟩ := fin_rep r q2 hl1 hl2 (fun i w e1 e2 => by simpa using k (i + 1) w (by simpa using e1) (by simpa using e2)) e2
          exact ⟨g', by simpa using RepL.cons q1 s1, s2.trans (List.sublist_append_right _ _)⟩
      · cases e
    · cases e
  | false :: rb, d :: ds, ds', v :: vs, none :: σ, τ, g, r, q, h1, h2, k, e => by simp [finD] at e
  | false :: rb, d :: ds, ds', v :: vs, some d' :: σ, τ, g, r, q, h1, h2, k, e => by
    simp only [finD] at e
    split at e
    · rename_i r2 e2
      cases e
      have hl1 : rb.length = ds.length := by simpa using h1
      have hl2 : vs.length = ds.length := by simpa using h2
      have k0 := k 0 v rfl rfl
      cases r with
      | som h r =>
        rename_i v' f' g' τ'
        have q2 : RepL K mg H (rbD rb ds) (rbV rb ds vs) [] := q
        obtain ⟨g2, s1, s2⟩ := fin_rep r q2 hl1 hl2 (fun i w e1 e2 => by simpa using k (i + 1) w (by simpa using e1) (by simpa using e2)) e2
        have ev : v' = v := by simpa using k0
        subst ev
        exact ⟨_, .cons h s1, List.Sublist.append_left s2 _⟩
    · cases e
theorem Wd.slots0 {ds : List D} {vs : List V} {N : List Str} {k : Nat} (w : Wd K mg H φd φv (ds.map some) (vs.map some)) (hk : N.length - vs.length = k) : Wd K mg H φd φv (ds.map some ++ List.replicate k none) (L2.start N vs) := by
  obtain ⟨f, g, r, s, nd⟩ := w
  refine ⟨f, g, r, ?_, nd⟩
  unfold L2.start
  rw [hk]
  have nn : ∀ k, RepS K mg H (List.replicate k none) (List.replicate k none) [] := fun k => by
    induction k with
    | zero => exact .nil
    | succ k ih => exact .non _ ih
  have key : ∀ (a : En) (b : L2.St) (g : List Addr), RepS K mg H a b g → RepS K mg H (a ++ List.replicate k none) (b ++ List.replicate k none) g := by
    intro a
    induction a with
    | nil => intro b g h; cases h; exact nn k
    | cons o a ih =>
      intro b g h
      cases h with
      | non o r => exact .non _ (ih _ _ r)
      | som h r => exact .som h (ih _ _ r)
  exact key _ _ _ s
/-- the end of a body -/
theorem Wd.leave {rb : List Bool} {ds ds' χd : List D} {vs χv : List V} {σ : En} {τ : L2.St} {N : List Str} (w : Wd K mg H (φd ++ rbD rb ds ++ χd) (φv ++ rbV rb ds vs ++ χv) σ τ) (l : χd.length = χv.length) (lr : (rbD rb ds).length = (rbV rb ds vs).length) (zr : (rbD rb ds).all fz = true)
    (h1 : rb.length = ds.length) (h2 : vs.length = ds.length) (sb : SB (Bp rb) (L2.start N vs) τ) (e : finD rb ds σ = some ds') : Wd K mg H (φd ++ χd) (φv ++ χv) (ds'.map some) (vs.map some) := by
  have wr := (w.drop l).src lr zr
  obtain ⟨F, t, g, r1, r2, q, nd⟩ := w.last l
  obtain ⟨v1, v2, f1, f2, ee, rfl, p1, p2⟩ := r1.split
  obtain ⟨e1, e2⟩ := List.append_inj' ee (by rw [← p2.length]; exact lr.symm)
  subst e1 e2
  obtain ⟨g', s1, s2⟩ := fin_rep q wr h1 h2 (fun i v eb ev => by
    have hb : Bp rb i = true := by unfold Bp; rw [eb]
    rw [sb.2 i hb]
    unfold L2.start
    have hi : i < vs.length := (List.getElem?_eq_some_iff.mp ev).1
    rw [List.getElem?_append_left (by simpa using hi), List.getElem?_map, ev]
    rfl) e
  refine ⟨f1 ++ t, g', p1.append r2, s1.toS, ?_⟩
  refine List.Nodup.sublist ?_ nd
  rw [List.append_assoc, List.append_assoc]
  refine List.Sublist.append_left ?_ _
  refine List.Sublist.trans ?_ (List.sublist_append_right _ _)
  exact List.Sublist.append_left s2 _
theorem rbD_fz : ∀ (rb : List Bool) (ds : List D), (rbD rb ds).all fz = true
  | [], [] => rfl
  | [], _ :: _ => rfl
  | true :: _, [] => rfl
  | false :: _, [] => rfl
  | true :: rb, d :: ds => by
    unfold rbD
    split
    · rename_i hz
      rw [List.all_cons, hz, rbD_fz rb ds]; rfl
    · exact rbD_fz rb ds
  | false :: rb, d :: ds => by unfold rbD; exact rbD_fz rb ds
end
section
variable {P : Program} {w : World} {K : PySem.W.Frag} {mg : Str → Option Value} {base : Heap}
/-- what is wanted of exceptions in a body: E, at the callers -/
abbrev WB (E : XK) : WX := fun cls d _ H => E cls d H
theorem body_good {rb : List Bool} {kk n : Nat} {body : SF} {N : List Str} {vs : List V} {H : Hp} {Q : VK} {E : XK} (hn : rb.length = n) (hkk : N.length - n = kk) (h : spM K mg n (mDef rb kk body) vs H Q E) :
    TSd K mg (WB E) (Bp rb) body { nx := fun _ H' => Q .non H', rt := Q } (L2.start N vs) H := by
  obtain ⟨hl, φd, φv, ds, w0, q⟩ := h
  have hds : ds.length = vs.length := by have := w0.length.2; simpa using this
  have h1 : rb.length = ds.length := by omega
  have h2 : vs.length = ds.length := hds.symm
  obtain ⟨F, g, r, s, nd⟩ := id w0
  have rr := rb_rep (rb := rb) (RepS.ofL s) h1
  have lr := rr.length
  have zr := rbD_fz rb ds
  refine ⟨φd ++ rbD rb ds, φv ++ rbV rb ds vs, _, (w0.pushL rr).slots0 (N := N) (k := kk) (by rw [hl]; exact hkk), ?_⟩
  unfold mDef at q
  rw [if_pos h1.symm] at q
  revert q
  cases body (ds.map some ++ List.replicate kk none) with
  | err => exact id
  | bk σ => exact fun q => q.elim
  | ct σ => exact fun q => q.elim
  | nx σ =>
    intro q τ H2 sb w2
    dsimp only at q
    split at q
    · rename_i ds' e
      have w3 := Wd.leave (χd := []) (χv := []) (by simpa using w2) rfl lr zr h1 h2 sb e
      exact q .non H2 (by simpa using Wd.push w3 .non)
    · exact q.elim
  | rt d σ =>
    intro q v τ H2 sb w2
    dsimp only at q
    split at q
    · rename_i ds' e
      exact q v H2 (Wd.leave (χd := [d]) (χv := [v]) w2 rfl lr zr h1 h2 sb e)
    · exact q.elim
  | exc c ks xs σ =>
    intro q τ sb C dd H2 w2 x
    dsimp only at q
    split at q
    · rename_i ds' e
      have w3 := Wd.leave (χd := []) (χv := []) (by simpa using w2) rfl lr zr h1 h2 sb e
      exact q C dd H2 (by simpa using w3) x
    · exact q.elim
theorem fn_good {x qual : Str} {st : Stmt} {f : Addr} {fd : FuncData} {N ps : List Str} {k kk : Nat} {rb : List Bool} {body : SF} (F : Fun K x qual st f fd) (S : FnScope N ps (defScope st)) (hn : rb.length = ps.length) (hkk : N.length - ps.length = kk)
    (hbody : ∀ (cdv : Value) (A : Around) (outer : List Env) (s : Shared) (H : Hp) (E : XK), RoomG k (A.deeper (envOfC qual (defScope st) s.heap.objs.size f cdv)) →
      LSs (cxOf (L2.CX P w) P w K mg base N qual (defScope st) f cdv A outer s H E) (WB E) (Bp rb) (defBody st) body) : FnG P w K mg base (L2.CX P w) (k + 1) f fd ps (spM K mg ps.length (mDef rb kk body)) :=
  by
  obtain ⟨oc, od, kV, doc, pm, an, cdv, ct, osl, rfl, lk, hcd⟩ := F.ex
  exact fn_ofG lk hcd S (fun vs H Q E h => h.1) fun A outer s H vs Q E hr hsp => ⟨_, hbody cdv A outer s H E hr, body_good hn hkk hsp⟩
end
end DL
namespace PySem
namespace DXC
open PySem.W PySem.Calls PyProof.Rows PySem.HandSPX
/-- what the written part says of an exception class whose __init__ (st) says super().__init__(a text) -/
structure XTxt (K : Frag) (prog : Program) (C fI : Addr) (st : Stmt) : Prop where
  oex : L2.OexC K C
  iC : findIn K (.ref C) "__init__" = some (some (.ref fI))
  tI : typeIn K (.ref fI) = some (.type "function")
  sup : ks_superIn K C C "__init__" = some (some (.builtin "ValueError.__init__"))
  sb : subIn K (.ref C) (.type "ValueError") = some true
  mr : mroIn K C (.ref C) = some true
  op : nsIn K cStatics "thirdparty.any" = some none
  htop : (prog.main.scope.names.lookup ("super" : Str)).isSome = false
  fn : ∃ (oc : Value) (od : Option Addr) (qual : Str) (doc pm ct kV : Value) (an : Option Addr) (osl : Array (Option Value)) (cda cc : Addr) (o1 o2 : Obj) (vs : Array Value) (file : Str) (tf : Tok),
    K.lookup fI = some ⟨oc, od, .func (ksFn "__init__" qual (L2.defArgs st) (L2.defBody st) (L2.defScope st) .none kV doc pm an (.ref cda) ct cc), osl⟩ ∧ codeIn K (.ref cda) qual = true ∧ K.lookup cda = some o1 ∧ o1.data = .fields vs ∧ vs[2]? = some (.str file tf) ∧
      ((prog.main.file : Str) == file) = true ∧ K.lookup cc = some o2 ∧ o2.data = .cell (some (.ref C))
/-- how super().__init__(e) is reckoned (by rfl, where the places in the text are known) -/
def SupC (scope : Scope) (e : Expr) (p0 p1 p2 p4 p5 : Pos) : Prop := ∀ (q : Str) (L fI cda cc : Addr), interactive (ksEnv q scope L fI (.ref cda) cc) = false ∧ swapsWith (.Call (.Attribute (.Call (.Name "super" p0) [] [] p1) "__init__" p2) [e] [] p4) none p5.line (ksEnv q scope L fI (.ref cda) cc) = pure false ∧
  ∃ pl : Sem Bool, eval (.Call (.Attribute (.Call (.Name "super" p0) [] [] p1) "__init__" p2) [e] [] p4) (ksEnv q scope L fI (.ref cda) cc) = (do
      let ov ← attributeBase (.Call (.Name "super" p0) [] [] p1) "__init__" (ksEnv q scope L fI (.ref cda) cc) (eval (.Call (.Name "super" p0) [] [] p1) (ksEnv q scope L fI (.ref cda) cc))
      standAt p2.atName
      let (f, first) ← holding [ov] (getMethod ov "__init__" pl)
      callWith p4 f first (backTo p4 (starEach [e] (ksEnv q scope L fI (.ref cda) cc))) [])
/-- the scope of such an __init__ -/
structure SupS (scope : Scope) (sf_ : Str) : Prop where
  hks : scope.names.lookup ("super" : Str) = some .globalImplicit
  hkc : scope.names.lookup ("__class__" : Str) = some .free
  hka : scope.names.lookup sf_ = some .local
  hk : scope.kind = .function
section
variable {prog : Program} {w : World} {A : Around} {E : Value → Shared → Prop} {R : Result → Shared → Prop} {h : Heap} {g : Array GenState} {d : Drawn} {t : Nat} {os : OsState} {K : Frag} {mg mb m : Str → Option Value} {C fI L x t0 : Addr} {st : Stmt} {q : Str} {cda cc : Addr} {Q : Flow → Shared → Prop}
theorem super_stmt {fd : FuncData} {scope : Scope} {of o1 o2 : Obj} {vs : Array Value} {file : Str} {tf : Tok} {body : List Stmt} {p0 p1 p2 p3 p4 p5 : Pos} {z : Str} {j : Nat} {ar : Arg}
    (T : XTxt K prog C fI st) (X : K.In h) (hg : h.Ns mainGlobals mg) (hgs : mg "super" = none) (hb : h.Ns builtinsNs mb) (hbs : mb "super" = some (.type "super")) (hn : h.Ns L m) (hself : m ar.arg = some (.ref x)) (hx : h.get? x = some (excO C t0))
    (hf : h.get? fI = some of) (hfd : of.data = .func fd) (hp : (fd.params.posonlyargs ++ fd.params.args).head? = some ar) (hcc : h.get? cda = some o1) (hoc : o1.data = .fields vs) (hvs : vs[2]? = some (.str file tf)) (hfile : ((prog.main.file : Str) == file) = true)
    (hcell : h.get? cc = some o2) (hcd : o2.data = .cell (some (.ref C))) (S : SupS scope ar.arg) (SC : SupC scope (.Constant (.str z) j p3) p0 p1 p2 p4 p5)
    (hq : ∀ h' tk t1, (∀ b o, b ≠ x → h.get? b = some o → h'.get? b = some o) → h'.get? x = some (excO C t1) → Q .next ⟨h', g, d, tk, os⟩) :
    _root_.PySem.wpAt (model prog w) A (.func body (ksEnv q scope L fI (.ref cda) cc)) (exec (.Expr (.Call (.Attribute (.Call (.Name "super" p0) [] [] p1) "__init__" p2) [.Constant (.str z) j p3] [] p4) p5) (ksEnv q scope L fI (.ref cda) cc)) Q E ⟨h, g, d, t, os⟩ := by
  obtain ⟨hks, hkc, hka, hk⟩ := S
  obtain ⟨hi, hsw, pl, he⟩ := SC q L fI cda cc
  obtain ⟨nm, q0, N, bs, bm, sn, sub, ab, col, dd, k0, k1, k2, k3, k5, hC, hbm⟩ := T.oex.cls
  have hC' := X _ _ hC
  have hcl : clsIn K C = some { name := nm, bases := bs, mro := .ref C :: bm, ns := N, qualname := q0, hasDict := true, slotNames := sn, subclasses := sub, abstract := ab, collection := col, hasDel := false } := by unfold clsIn; rw [hC] <;> rfl
  have J : InstAt h x (excO C t0) C none := ⟨hx, rfl, rfl, trivial⟩
  refine ks_wpAt_Expr_any (ks_wpAt_MethodCall (pl := pl) (ks_wpAt_super_base (env := ksEnv q scope L fI (.ref cda) cc) hks hkc (by decide) rfl hf hfd hp rfl hcc hoc hvs hfile T.htop ?_) he) hi hsw
  refine ks_loadName_global hk hks (loadGlobal_builtin (env := ksEnv q scope L fI (.ref cda) cc) hg hgs hb hbs ⟨rfl, ?_⟩)
  refine wpAny_loadName_free hk hkc rfl ⟨_, hcell, hcd⟩ ?_
  refine wpAny_loadName_local hk hka hn hself ?_
  refine ks_wpAny_isType_cls hC' rfl ⟨rfl, ?_⟩
  refine ks_wpAny_call_super hC' rfl hx rfl (fun c e => nomatch e) (looks_mroIn X T.mr) (fun h1 e1 k1 => ?_)
  have X1 : K.In h1 := X.keeps k1
  have J1 : InstAt h1 x (excO C t0) C none := ⟨k1 _ _ hx, rfl, rfl, trivial⟩
  have hm := T.sup
  unfold ks_superIn at hm
  rw [hcl] at hm
  refine kxs_getMethod kxs_ValueError e1 (looks_opaque X1 T.op) (l₀ := .ref C :: bm) (fun A Q E s k q => wpAny_bind ((looks_clsIn X1 hcl) A _ E s k (wpAny_pure q))) rfl X1 hm (J1.type.andThen (looks_subIn X1 T.sb)) (ks_ne X1 J1 hcl) (by decide) ?_
  have hu : (h1.push (kxs_mw "ValueError.__init__" x)).get? h1.objs.size = some (kxs_mw "ValueError.__init__" x) := Heap.get?_push_size _ rfl
  refine kxs_callWith (i := "ValueError.__init__") (x := x) rfl ?_
  refine Calls.evalArgs_plain (Calls.spliced_cons (Calls.Constant_str (k := j) (pos := p3) (Calls.spliced_nil ⟨hu, ?_⟩)))
  refine wpAny_call (codeAny_of_tree ?_)
  show wpAny _ A.in1 (callAny (.ref h1.objs.size) ⟨[.str z (t + 1)], []⟩) _ _ _
  simp only [callAny]
  refine wpAny_bind (wpAny_load hu ?_)
  simp only [kxs_mw, show (Value.type "method-wrapper" == Value.type "method" || Value.type "method-wrapper" == Value.type "builtin_function_or_method" || Value.type "method-wrapper" == Value.type "method-wrapper") = true by decide, if_true]
  refine KFB.if_so (by decide) ?_
  have k2 : ∀ b o, h1.get? b = some o → (h1.push (kxs_mw "ValueError.__init__" x)).get? b = some o := fun b o e => Heap.get?_push_of_some _ e
  refine wpAny_bind (check_bound_init F.excBase_ValueError.toExcCallFacts (k2 _ _ (k1 _ _ hC')) (k2 _ _ (k1 _ _ hx)) rfl ?_)
  refine wpAny_bind (wpAny_pure (wpAny_pure ?_))
  refine ⟨plainId_quiet F.excBase_ValueError.init.plain _, codeAny_builtin F.excBase_ValueError.initEntry ?_⟩
  refine exc_init_tree (cls := .ref C) (t0 := t0) (dv := none) (c2 := .none) (c3 := .none) (b4 := .bool false) (k2 _ _ (k1 _ _ hx)) (by show 1 ≤ sizeLine; decide) fun h' k3 e3 _ => ?_
  exact hq h' _ _ (fun b o hb e => k3 b o hb (k2 _ _ (k1 _ _ e))) e3
abbrev SupStmt (z : Str) (j : Nat) (p0 p1 p2 p3 p4 p5 : Pos) : Stmt := .Expr (.Call (.Attribute (.Call (.Name "super" p0) [] [] p1) "__init__" p2) [.Constant (.str z) j p3] [] p4) p5
/-- an __init__ of no further parameter -/
structure X0 (st : Stmt) : Prop where
  body : ∃ z j p0 p1 p2 p3 p4 p5, L2.defBody st = [SupStmt z j p0 p1 p2 p3 p4 p5] ∧ SupC (L2.defScope st) (.Constant (.str z) j p3) p0 p1 p2 p4 p5
  sc : SupS (L2.defScope st) "self"
  par : ∃ pp, (L2.defArgs st).posonlyargs ++ (L2.defArgs st).args = [⟨"self", none, pp⟩]
  bind : ∀ (qual : Str) (kV doc pm : Value) (an : Option Addr) (cdv ct : Value) (cc : Addr) (v : Value), bindArgs (ksFn "__init__" qual (L2.defArgs st) (L2.defBody st) (L2.defScope st) .none kV doc pm an cdv ct cc) ⟨[v], []⟩ = pure [(("self" : Str), v)]
  cell : ∀ x ∈ (L2.defScope st).names, x.2 ≠ .cell
  co : (L2.defScope st).isCoroutine = false
  gen : (L2.defScope st).isGenerator = false
/-- .. of one, f, that is kept as the field f -/
structure X1 (st : Stmt) (f : Str) : Prop where
  body : ∃ z j p0 p1 p2 p3 p4 p5 q1 q2 q3 q4, L2.defBody st = [SupStmt z j p0 p1 p2 p3 p4 p5, .Assign [.Attribute (.Name "self" q1) f q2] (.Name f q3) q4] ∧ SupC (L2.defScope st) (.Constant (.str z) j p3) p0 p1 p2 p4 p5
  sc : SupS (L2.defScope st) "self"
  sf : (L2.defScope st).names.lookup f = some .local
  nf : f ≠ ("self" : Str)
  fd : (f == ("__debug__" : Str)) = false
  par : ∃ pp a, (L2.defArgs st).posonlyargs ++ (L2.defArgs st).args = ⟨"self", none, pp⟩ :: a
  bind : ∀ (qual : Str) (kV doc pm : Value) (an : Option Addr) (cdv ct : Value) (cc : Addr) (v u : Value), bindArgs (ksFn "__init__" qual (L2.defArgs st) (L2.defBody st) (L2.defScope st) .none kV doc pm an cdv ct cc) ⟨[v, u], []⟩ = pure [(("self" : Str), v), (f, u)]
  cell : ∀ x ∈ (L2.defScope st).names, x.2 ≠ .cell
  co : (L2.defScope st).isCoroutine = false
  gen : (L2.defScope st).isGenerator = false
theorem init0 (T : XTxt K prog C fI st) (Z : X0 st) (X : K.In h) (hg : h.Ns mainGlobals mg) (hgs : mg "super" = none) (hb : h.Ns builtinsNs mb) (hbs : mb "super" = some (.type "super")) (hlim : h.NoLimit) (hx : h.get? x = some (excO C t0)) (hroom : A.depth < recursionLimit)
    (hq : ∀ h' tk t1, (∀ b o, b ≠ x → h.get? b = some o → h'.get? b = some o) → h'.get? x = some (excO C t1) → R (.ok (.ret .none)) ⟨h', g, d, tk, os⟩) :
    codeAny (model prog w) A (.call (.ref fI) ⟨[.ref x], []⟩) R ⟨h, g, d, t, os⟩ := by
  obtain ⟨oc, od, qual, doc, pm, ct, kV, an, osl, cda, cc, o1, o2, vs, file, tf, hfI, hcd, h1, h2, h3, h4, h5, h6⟩ := T.fn
  obtain ⟨z, j, p0, p1, p2, p3, p4, p5, eb, SC⟩ := Z.body
  obtain ⟨pp, ep⟩ := Z.par
  refine ks_codeAny_call_defAt (fd := ksFn "__init__" qual (L2.defArgs st) (L2.defBody st) (L2.defScope st) .none kV doc pm an (.ref cda) ct cc) (body := L2.defBody st) (binds := [(("self" : Str), Value.ref x)]) hroom (X _ _ hfI) rfl hlim (codeRec_of X hcd) rfl
    (BindsTo.of_eq (Z.bind qual kV doc pm an (.ref cda) ct cc (.ref x))) Z.cell (fun y hy => (by
      have e : y = (("self" : Str), Value.ref x) := by simpa using hy
      rw [e]
      exact Z.sc.hka)) (fun h0 hns k0 => ?_) Z.co Z.gen Z.sc.hk
  have X0' : K.In h0 := X.keeps k0
  show _root_.PySem.wpAt (model prog w) _ (.func (L2.defBody st) (ksEnv qual (L2.defScope st) h.objs.size fI (.ref cda) cc)) (execs (L2.defBody st) (ksEnv qual (L2.defScope st) h.objs.size fI (.ref cda) cc)) _ _ ⟨h0, g, d, t + 1, os⟩
  generalize hbd : L2.defBody st = bd
  rw [eb] at hbd
  subst hbd
  refine ks_wpAt_execs_cons (super_stmt (m := fun y => List.lookup y [(("self" : Str), Value.ref x)].reverse) (ar := ⟨"self", none, pp⟩) T X0' (hg.keeps k0) hgs (hb.keeps k0) hbs hns (by simp [List.lookup]) (k0 _ _ hx) (k0 _ _ (X _ _ hfI)) rfl (by show ((L2.defArgs st).posonlyargs ++ (L2.defArgs st).args).head? = _; rw [ep]; rfl)
    (X0' _ _ h1) h2 h3 h4 (X0' _ _ h5) h6 Z.sc SC fun h' tk t1 k1 e1 => ?_)
  show _root_.PySem.wpAt _ _ _ (execs [] _) _ _ _
  refine _root_.PySem.wpAt_of_wpAny (wpAny_execs_nil ?_)
  exact hq h' tk t1 (fun b o hb e => k1 b o hb (k0 b o e)) e1
theorem init1 {f : Str} {v : Value} (T : XTxt K prog C fI st) (Z : X1 st f) (hno : findIn K (.ref C) f = some none) (X : K.In h) (hg : h.Ns mainGlobals mg) (hgs : mg "super" = none) (hb : h.Ns builtinsNs mb) (hbs : mb "super" = some (.type "super")) (hlim : h.NoLimit) (hx : h.get? x = some (excO C t0)) (hnx : K.lookup x = none) (hroom : A.depth < recursionLimit)
    (hq : ∀ h' tk t1 dx, (∀ b o, b ≠ x → h.get? b = some o → h'.get? b = some o) → h'.get? x = some { cls := .ref C, dict := some dx, data := .fields #[.ref t1, .none, .none, .none, .bool false, .none] } → h.objs.size ≤ dx → dx ≠ x → h'.Ns1 dx (fun y => if y = f then some v else none) → R (.ok (.ret .none)) ⟨h', g, d, tk, os⟩) :
    codeAny (model prog w) A (.call (.ref fI) ⟨[.ref x, v], []⟩) R ⟨h, g, d, t, os⟩ := by
  obtain ⟨oc, od, qual, doc, pm, ct, kV, an, osl, cda, cc, o1, o2, vs, file, tf, hfI, hcd, h1, h2, h3, h4, h5, h6⟩ := T.fn
  obtain ⟨z, j, p0, p1, p2, p3, p4, p5, q1, q2, q3, q4, eb, SC⟩ := Z.body
  obtain ⟨pp, aa, ep⟩ := Z.par
  obtain ⟨nm, q0, N, bs, bm, sn, sub, ab, col, dd, k0', k1', k2', k3', k5', hC, hbm⟩ := T.oex.cls
  have hcl : clsIn K C = some { name := nm, bases := bs, mro := .ref C :: bm, ns := N, qualname := q0, hasDict := true, slotNames := sn, subclasses := sub, abstract := ab, collection := col, hasDel := false } := by unfold clsIn; rw [hC] <;> rfl
  have hsf : (f == ("self" : Str)) = false := beq_eq_false_iff_ne.mpr Z.nf
  refine ks_codeAny_call_defAt (fd := ksFn "__init__" qual (L2.defArgs st) (L2.defBody st) (L2.defScope st) .none kV doc pm an (.ref cda) ct cc) (body := L2.defBody st) (binds := [(("self" : Str), Value.ref x), (f, v)]) hroom (X _ _ hfI) rfl hlim (codeRec_of X hcd) rfl
    (BindsTo.of_eq (Z.bind qual kV doc pm an (.ref cda) ct cc (.ref x) v)) Z.cell (fun y hy => (by
      have e : y = (("self" : Str), Value.ref x) ∨ y = (f, v) := by simpa using hy
      rcases e with e | e
      · rw [e]; exact Z.sc.hka
      · rw [e]; exact Z.sf)) (fun h0 hns k0 => ?_) Z.co Z.gen Z.sc.hk
  have X0' : K.In h0 := X.keeps k0
  show _root_.PySem.wpAt (model prog w) _ (.func (L2.defBody st) (ksEnv qual (L2.defScope st) h.objs.size fI (.ref cda) cc)) (execs (L2.defBody st) (ksEnv qual (L2.defScope st) h.objs.size fI (.ref cda) cc)) _ _ ⟨h0, g, d, t + 2, os⟩
  generalize hbd : L2.defBody st = bd
  rw [eb] at hbd
  subst hbd
  have ms : (fun y => List.lookup y [(("self" : Str), Value.ref x), (f, v)].reverse) ("self" : Str) = some (.ref x) := by
    have : (("self" : Str) == f) = false := by rw [beq_eq_false_iff_ne]; exact fun e => Z.nf e.symm
    simp [List.lookup, this]
  have mf : (fun y => List.lookup y [(("self" : Str), Value.ref x), (f, v)].reverse) f = some v := by
    simp [List.lookup]
  refine ks_wpAt_execs_cons (super_stmt (m := fun y => List.lookup y [(("self" : Str), Value.ref x), (f, v)].reverse) (ar := ⟨"self", none, pp⟩) T X0' (hg.keeps k0) hgs (hb.keeps k0) hbs hns ms (k0 _ _ hx) (k0 _ _ (X _ _ hfI)) rfl (by show ((L2.defArgs st).posonlyargs ++ (L2.defArgs st).args).head? = _; rw [ep]; rfl)
    (X0' _ _ h1) h2 h3 h4 (X0' _ _ h5) h6 Z.sc SC fun h' tk t1 k1 e1 => ?_)
  have hL : h.objs.size ≠ x := Nat.ne_of_gt (Heap.lt_size hx)
  have hns' : h'.Ns h.objs.size (fun y => List.lookup y [(("self" : Str), Value.ref x), (f, v)].reverse) := by
    obtain ⟨oL, es, epp, hLo, r⟩ := hns
    exact ⟨oL, es, epp, k1 _ _ hL hLo, r⟩
  have X' : K.In h' := fun a o e => k1 a o (fun z => by rw [z, hnx] at e; cases e) (X0' a o e)
  show _root_.PySem.wpAt _ _ _ (execs [_] _) _ _ _
  refine ks_wpAt_execs_cons (ks_wpAt_Assign_Attr (_root_.PySem.wpAt_of_wpAny ?_))
  refine wpAny_Name (wpAny_loadName_local Z.sc.hk Z.sf hns' mf ?_) Z.fd
  refine wpAny_Name (wpAny_loadName_local Z.sc.hk Z.sc.hka hns' ms ?_) (by decide)
  refine set_plain X' (ox := excO C t1) (od := none) ⟨e1, rfl, rfl, trivial⟩ T.oex.sa ?_
  refine exc_osa X' e1 hcl (show refsVE (.ref C :: bm) = true from hbm) rfl hno (fun h₃ tk₃ dx k₃ dn dne hx₃ hn₃ => ?_)
  refine _root_.PySem.wpAt_of_wpAny (wpAny_execs_nil ?_)
  refine hq h₃ tk₃ t1 dx (fun b o hb e => k₃ b o hb (k1 b o hb (k0 b o e))) hx₃ ?_ dne hn₃
  have z : h.objs.size < h'.objs.size := hns'.lt
  exact Nat.le_of_lt (Nat.lt_of_lt_of_le z dn)
theorem made0 (T : XTxt K prog C fI st) (Z : X0 st) (X : K.In h) (hg : h.Ns mainGlobals mg) (hgs : mg "super" = none) (hb : h.Ns builtinsNs mb) (hbs : mb "super" = some (.type "super")) (hlim : h.NoLimit) (hroom : A.depth + 1 < recursionLimit)
    (hq : ∀ h' tk t1, (∀ b o, h.get? b = some o → h'.get? b = some o) → h'.get? (h.objs.size + 1) = some (excO C t1) → R (.ok (.ret (.ref (h.objs.size + 1)))) ⟨h', g, d, tk, os⟩) :
    codeAny (model prog w) A (.call (.ref C) ⟨[], []⟩) R ⟨h, g, d, t, os⟩ := by
  obtain ⟨nm, q, N, bs, bm, sn, sub, ab, col, dd, k0, k1, k2, k3, k5, hC, hbm⟩ := T.oex.cls
  have k : ∀ b o, h.get? b = some o → ((h.push (kdv_tup [])).push (excO C h.objs.size)).get? b = some o := fun b o e => Heap.get?_push_of_some _ (Heap.get?_push_of_some _ e)
  have hget : ((h.push (kdv_tup [])).push (excO C h.objs.size)).get? (h.objs.size + 1) = some (excO C h.objs.size) := by heap_get
  refine call_own F.excBase_ValueError (fun X => refsVE_contains X bm hbm) (X _ _ hC) (looks_findIn X T.iC) (fun self => bind_fn X self T.tI) (Nat.zero_le _) ?_
  refine init0 T Z (X.keeps k) (hg.keeps k) hgs (hb.keeps k) hbs (hlim.keeps k) hget ?_ fun h' tk t1 k' hx => ?_
  · show A.depth + 1 < recursionLimit
    exact hroom
  · exact ⟨rfl, hq h' tk t1 (fun b o e => k' b o (Nat.ne_of_lt (Nat.lt_succ_of_lt (Heap.lt_size e))) (k b o e)) hx⟩
theorem made1 {f : Str} {v : Value} (T : XTxt K prog C fI st) (Z : X1 st f) (hno : findIn K (.ref C) f = some none) (X : K.In h) (hg : h.Ns mainGlobals mg) (hgs : mg "super" = none) (hb : h.Ns builtinsNs mb) (hbs : mb "super" = some (.type "super")) (hlim : h.NoLimit) (hroom : A.depth + 1 < recursionLimit)
    (hq : ∀ h' tk t1 dx, (∀ b o, h.get? b = some o → h'.get? b = some o) → h'.get? (h.objs.size + 1) = some { cls := .ref C, dict := some dx, data := .fields #[.ref t1, .none, .none, .none, .bool false, .none] } → h.objs.size ≤ dx → dx ≠ h.objs.size + 1 → h'.Ns1 dx (fun y => if y = f then some v else none) → R (.ok (.ret (.ref (h.objs.size + 1)))) ⟨h', g, d, tk, os⟩) :
    codeAny (model prog w) A (.call (.ref C) ⟨[v], []⟩) R ⟨h, g, d, t, os⟩ := by
  obtain ⟨nm, q, N, bs, bm, sn, sub, ab, col, dd, k0, k1, k2, k3, k5, hC, hbm⟩ := T.oex.cls
  have k : ∀ b o, h.get? b = some o → ((h.push (kdv_tup [v])).push (excO C h.objs.size)).get? b = some o := fun b o e => Heap.get?_push_of_some _ (Heap.get?_push_of_some _ e)
  have hget : ((h.push (kdv_tup [v])).push (excO C h.objs.size)).get? (h.objs.size + 1) = some (excO C h.objs.size) := by heap_get
  have hnx : K.lookup (h.objs.size + 1) = none := by
    cases e : K.lookup (h.objs.size + 1) with
    | none => rfl
    | some o =>
      have z : h.get? (h.objs.size + 1) = some o := X _ _ e
      exact absurd (Nat.lt_of_succ_lt (Heap.lt_size z)) (Nat.lt_irrefl _)
  refine call_own F.excBase_ValueError (fun X => refsVE_contains X bm hbm) (X _ _ hC) (looks_findIn X T.iC) (fun self => bind_fn X self T.tI) (by show 1 ≤ sizeLine; decide) ?_
  refine init1 T Z hno (X.keeps k) (hg.keeps k) hgs (hb.keeps k) hbs (hlim.keeps k) hget hnx ?_ fun h' tk t1 dx k' hx dn dne hns => ?_
  · show A.depth + 1 < recursionLimit
    exact hroom
  · refine ⟨rfl, hq h' tk t1 dx (fun b o e => k' b o (Nat.ne_of_lt (Nat.lt_succ_of_lt (Heap.lt_size e))) (k b o e)) hx ?_ dne hns⟩
    have z : h.objs.size + 1 + 1 ≤ dx := by simpa only [Heap.size_push] using dn
    exact Nat.le_trans (Nat.le_trans (Nat.le_succ _) (Nat.le_succ _)) z
end
end DXC
end PySem
namespace DL
open PySem PySem.Spec PyProof.Rows L2
theorem relO_one {f : Str} {v : V} {v' : Value} (r : RelV v v') (g : Str) : RelO (List.lookup g [(f, v)]) (if g = f then some v' else none) := by
  by_cases hw : g = f
  · subst hw
    rw [if_pos rfl]
    have q : List.lookup g [(g, v)] = some v := by simp [List.lookup]
    rw [q]
    exact r
  · rw [if_neg hw]
    have qw : (g == f) = false := by simpa using hw
    have q2 : List.lookup g [(f, v)] = none := by simp [List.lookup, qw]
    rw [q2]
    trivial
section
variable {X : Cx} {C fI : Addr} {st : Stmt} {x f : Str} {k : Nat} {a : Expr} {ta : TA} {p pos pos2 : Pos}
theorem boot_super : bootBuiltins "super" = some (.type "super") := by decide +kernel
theorem pmk_x0 (T : PySem.DXC.XTxt X.K X.prog C fI st) (Z : PySem.DXC.X0 st) (hr : RoomG k X.A) (hg : Gl X x) (hm : X.mg x = some (.ref C)) (hs : X.mg "super" = none) (hdb : (x == ("__debug__" : Str)) = false := by decide) : PMk X (.Call (.Name x p) [] [] pos) (fun _ H Q => Q (.ref C) none H) := by
  intro pins s σ H Q I h
  refine wpAny_Call_Name_kw (ld_glob I hg hm ?_ hdb)
  refine PySem.W.callWith_K0 I.kIn T.oex.kC ?_
  show wpAny _ _ (call (.ref C) []) _ _ _
  obtain ⟨mb, hb1, hb2⟩ := I.mod.blt
  have bk := I.bk
  have hlim := I.nolimit
  have kIn := I.kIn
  have md := I.mod
  obtain ⟨hp, g, dr, tk, os⟩ := s
  refine wpAny_call (PySem.DXC.made0 T Z kIn (md.glob.keeps bk) hs (hb1.keeps bk) ((hb2 "super" (by decide)).trans boot_super) hlim (by have := hr.dp; omega) fun h' tk' t1 kk he => ?_)
  obtain ⟨G', g1, g2⟩ := restrict h' fun b => decide (b ≠ hp.objs.size + 1)
  have gk : ∀ b, b ≠ hp.objs.size + 1 → G'.get? b = h'.get? b := fun b hb => g1 b (decide_eq_true hb)
  have ge : G'.get? (hp.objs.size + 1) = none := g2 _ (by simp)
  have old : ∀ b o, hp.get? b = some o → G'.get? b = some o := fun b o q => (gk b (Nat.ne_of_lt (Nat.lt_succ_of_lt (Heap.lt_size q)))).trans (kk b o q)
  have J : Inv X pins σ H ⟨G', g, dr, tk', os⟩ := I.kept (t' := tk') old
  refine ⟨hp.objs.size + 1, _, _, ⟨G', g, dr, tk', os⟩, H, .ref C, none, rfl, J, fun b o q => ?_, ge, he, ⟨rfl, rfl⟩, rfl, rfl, I.hok.fresh (Nat.le_succ _), rfl, I.bare, raises_own T.oex.exC T.oex.tyC, h⟩
  by_cases hb : b = hp.objs.size + 1
  · have q' : G'.get? b = some o := q
    rw [hb, ge] at q'; cases q'
  · exact (gk b hb).symm.trans q
def tMkX1 (C : Addr) (f : Str) (ta : TA) : L2.St → Hp → XK → Prop := fun σ H Q => ta σ H fun vs H1 => ∃ v, vs = [v] ∧ ∀ d, H1 d = none → Q (.ref C) (some d) (upd H1 d (.xd [(f, v)]))
theorem pmk_x1 (T : PySem.DXC.XTxt X.K X.prog C fI st) (Z : PySem.DXC.X1 st f) (hno : PySem.W.findIn X.K (.ref C) f = some none) (hr : RoomG k X.A) (hg : Gl X x) (hm : X.mg x = some (.ref C)) (hs : X.mg "super" = none) (ha : PA X [a] ta) (hdb : (x == ("__debug__" : Str)) = false := by decide)
    (he : starEach (a :: []) X.env = (false, eval a X.env) :: starEach [] X.env := by rfl) (hpl : (backTo pos (starEach [] X.env)).any (·.1) = false := by rfl) : PMk X (.Call (.Name x p) [a] [] pos) (tMkX1 C f ta) := by
  intro pins s σ H Q I h
  refine wpAny_Call_Name_kw (ld_glob I hg hm ?_ hdb)
  refine PySem.W.callWith_K (h₀ := X.base) I.ok.mod.kin T.oex.kC (thn (ha.run pos pins s σ H _ I h) fun us s1 hh => ?_) he hpl
  obtain ⟨vs, H1, I1, r1, v, ev, q1⟩ := hh
  subst ev
  refine ⟨I1.kIn, ?_⟩
  cases r1 with
  | cons rv rn =>
    rename_i v' us'
    cases rn
    show wpAny _ _ (call (.ref C) [v']) _ _ _
    obtain ⟨mb, hb1, hb2⟩ := I1.mod.blt
    have bk := I1.bk
    have hlim := I1.nolimit
    have kIn := I1.kIn
    have md := I1.mod
    obtain ⟨hp, g, dr, tk, os⟩ := s1
    refine wpAny_call (PySem.DXC.made1 T Z hno kIn (md.glob.keeps bk) hs (hb1.keeps bk) ((hb2 "super" (by decide)).trans boot_super) hlim (by have := hr.dp; omega) fun h' tk' t1 d kk he dbig dne hns => ?_)
    obtain ⟨G', g1, g2⟩ := restrict h' fun b => decide (b ≠ hp.objs.size + 1)
    have gk : ∀ b, b ≠ hp.objs.size + 1 → G'.get? b = h'.get? b := fun b hb => g1 b (decide_eq_true hb)
    have ge : G'.get? (hp.objs.size + 1) = none := g2 _ (by simp)
    have old : ∀ b o, hp.get? b = some o → G'.get? b = some o := fun b o q => (gk b (Nat.ne_of_lt (Nat.lt_succ_of_lt (Heap.lt_size q)))).trans (kk b o q)
    have ob : ObjOk X.prog X.w (upd H1 d (.xd [(f, v)])) G' d (.xd [(f, v)]) :=
      ⟨_, hns.at (fun o q => (gk d dne).trans q), fun g => relO_one rv g⟩
    have J : Inv X pins σ (upd H1 d (.xd [(f, v)])) ⟨G', g, dr, tk', os⟩ := I1.laid (t' := tk') old dbig ob
    refine ⟨hp.objs.size + 1, _, _, ⟨G', g, dr, tk', os⟩, _, .ref C, some d, rfl, J, fun b o q => ?_, ge, he, ⟨rfl, rfl⟩, rfl, rfl, ?_, rfl, I1.bare, raises_own T.oex.exC T.oex.tyC, q1 d (I1.hok.fresh dbig)⟩
    · by_cases hb : b = hp.objs.size + 1
      · have q' : G'.get? b = some o := q
        rw [hb, ge] at q'; cases q'
      · exact (gk b hb).symm.trans q
    · rw [upd_ne (Ne.symm dne)]
      exact I1.hok.fresh (Nat.le_succ _)

/-! ### raise -/
variable {W : WX} {B : Nat → Bool} {fa : EF} {fs : AF}
def sRaise0 (c : Str) : SF := fun σ => .exc c [] [] σ
theorem ls_raise0 (hc : X.calm = true) (tk : Takes X W) (T : PySem.DXC.XTxt X.K X.prog C fI st) (Z : PySem.DXC.X0 st) (hr : RoomG k X.A) (hg : Gl X x) (hm : X.mg x = some (.ref C)) (hs : X.mg "super" = none) (hdb : (x == ("__debug__" : Str)) = false := by decide) :
    LS X W B (.Raise (some (.Call (.Name x p) [] [] pos)) none pos2) (sRaise0 x) := PS.imp (ps_raise hc tk (pmk_x0 T Z hr hg hm hs hdb)) fun D σ H ⟨φd, φv, σd, w, q⟩ =>
  q σ SB.refl C none H w ⟨hm, .inl ⟨rfl, rfl, rfl⟩⟩
def sRaise1 (c f : Str) (fs : AF) : SF := fun σ => OutS.ofE (fs σ) fun hs σ1 => match give hs σ1 with
  | some ([d], σ2) => .exc c [f] [share d] σ2
  | _ => .err
theorem ls_raise1 (hc : X.calm = true) (tk : Takes X W) (T : PySem.DXC.XTxt X.K X.prog C fI st) (Z : PySem.DXC.X1 st f) (hno : PySem.W.findIn X.K (.ref C) f = some none) (hr : RoomG k X.A) (hg : Gl X x) (hm : X.mg x = some (.ref C)) (hs : X.mg "super" = none) (ha : LA X W [a] fs) (hdb : (x == ("__debug__" : Str)) = false := by decide)
    (he : starEach (a :: []) X.env = (false, eval a X.env) :: starEach [] X.env := by rfl) (hpl : (backTo pos (starEach [] X.env)).any (·.1) = false := by rfl) :
    LS X W B (.Raise (some (.Call (.Name x p) [a] [] pos)) none pos2) (sRaise1 x f fs) := PS.imp (ps_raise hc tk (pmk_x1 T Z hno hr hg hm hs (PA.gh ha) hdb he hpl)) fun D σ H ⟨φd, φv, σd, w, q⟩ => by
  obtain ⟨φd1, φv1, σd1, w1, q1⟩ := tad_stepS (WdH.nil w) q
  refine ⟨φd1, φv1, σd1, w1, q1.mono (fun h1 σ1 kk y H1 w1 => ?_) fun _ _ _ _ q => q⟩
  obtain ⟨hs', σ', w', q'⟩ := kk y H1 w1
  replace w' : WdH X.K X.mg H1 φd φv σ' σ hs' y := w'
  split at q'
  · rename_i d σ2 e0
    refine give_ok _ w' e0 fun H2 w2 hl => w2.shareTemps hl fun H3 w3 => .here ?_
    match y, hl, w3 with
    | [v], _, w3 =>
      refine ⟨v, rfl, fun dd hd => ?_⟩
      have w3 : Wd X.K X.mg H3 (φd ++ [share d]) (φv ++ [v]) σ2 σ := by simpa [shareL] using w3
      have rd := w3.lastRep (fz_share d)
      refine q' σ SB.refl C (some dd) _ ((w3.drop rfl).fresh hd) ⟨hm, .inr ⟨dd, [(f, v)], rfl, upd_same, rfl, by simp, .one (rd.mono (Stp.fresh hd) _ fun b hb => nomatch hb)⟩⟩
  · exact q'.elim
end
end DL
namespace DL
open PySem PySem.Spec PyProof.Rows L2

section
variable {X : Cx} {CX : CXT} {k : Nat} {f C : Addr} {fd : FuncData} {ps : List Str} {sp : Sp} {E : L2.St → XK} {x : Str} {p pos : Pos} {e : Expr} {es : List Expr} {t : TA}
theorem run_makeS {pins : List (Addr × Obj)} {σ : L2.St} {H : Hp} {s : Shared} {Q : VK} {us : List Value} {vs : List V} (M : Mk X.K C f) (F : FnG X.prog X.w X.K X.mg X.base CX k f fd ps sp) (hr : RoomG (k + 1) X.A) (hb : Binds X.K fd ps [])
    (hx : PassesAt CX X σ (E σ)) (I : Inv X pins σ H s) (r : Vals vs us)
    (h : ∀ x dx, H x = none → H dx = none → dx ≠ x → sp (.ref x :: vs) (upd (upd H dx (.own x)) x (.ins C dx [])) (fun v H2 => v = .non ∧ Q (.ref x) H2) (E σ)) :
    wpAny (model X.prog X.w) X.A (call (.ref C) us) (EP X pins σ Q) X.xe s := by
  have hq := h (s.heap.objs.size + 1) s.heap.objs.size (I.hok.fresh (Nat.le_succ _)) (I.hok.fresh (Nat.le_refl _)) (Nat.ne_of_lt (Nat.lt_succ_self _))
  have I2 := Inv.made (C := C) I
  have r2 : Vals (V.ref (s.heap.objs.size + 1) :: vs) (Value.ref (s.heap.objs.size + 1) :: us) := .cons rfl r
  have hl : (Value.ref (s.heap.objs.size + 1) :: us).length = ps.length := by
    have e := r2.length
    rw [F.len _ _ _ _ hq] at e
    exact e.symm
  have b := hb _ (Value.ref (s.heap.objs.size + 1) :: us) I2.kIn (by rw [List.append_nil]; exact hl)
  rw [List.append_nil] at b
  refine wpAny_call (make_map (f := f) I.kIn M.makes M.init (beq_iff_eq.mp M.fn) (codeAny_mono (F.run _ X.stack _ _ ⟨Value.ref (s.heap.objs.size + 1) :: us, []⟩ (Value.ref (s.heap.objs.size + 1) :: us) _ _ (E σ) (hr.make C us [])
    (I2.env0.make C us []) b r2 hq) fun r s' hq' => ?_))
  cases r with
  | error e => exact hx pins _ _ e s' I2 hq'
  | ok fl =>
    cases fl with
    | ret u =>
      obtain ⟨v, H', I3, rv, ev, q3⟩ := I2.after hq'
      subst ev
      exact ⟨rv, ⟨V.ref (s.heap.objs.size + 1), H', I3, rfl, q3⟩⟩
    | next => exact False.elim hq'
    | brk => exact False.elim hq'
    | cont => exact False.elim hq'
def tMakeS (C : Addr) (sp : Sp) (E : L2.St → XK) (t : TA) : TE := fun σ H Q => t σ H fun vs H1 => ∀ x dx, H1 x = none → H1 dx = none → dx ≠ x →
  sp (.ref x :: vs) (upd (upd H1 dx (.own x)) x (.ins C dx [])) (fun v H2 => v = .non ∧ Q (.ref x) H2) (E σ)
theorem pe_makeS (M : Mk X.K C f) (F : FnG X.prog X.w X.K X.mg X.base CX k f fd ps sp) (hr : RoomG (k + 1) X.A) (hg : Gl X x) (hm : X.mg x = some (.ref C)) (hb : Binds X.K fd ps []) (hx : ∀ σ, PassesAt CX X σ (E σ))
    (ha : PA X (e :: es) t) (hdb : (x == ("__debug__" : Str)) = false := by decide) (he : starEach (e :: es) X.env = (false, eval e X.env) :: starEach es X.env := by rfl) (hpl : (backTo pos (starEach es X.env)).any (·.1) = false := by rfl) :
    PE X (.Call (.Name x p) (e :: es) [] pos) (tMakeS C sp E t) := by
  refine ⟨fun pins s σ H Q I h => ?_⟩
  refine wpAny_Call_Name_kw (ld_glob I hg hm ?_ hdb)
  refine PySem.W.callWith_K (h₀ := X.base) I.ok.mod.kin M.kp (thn (ha.run pos pins s σ H _ I h) fun us s1 ⟨vs, H1, I1, r, q⟩ => ⟨I1.kIn, ?_⟩) he hpl
  exact run_makeS M F hr hb (hx σ) I1 r q
end
section
variable {K : PySem.W.Frag} {mg : Str → Option Value} {W : WX} {H H' : Hp} {φd ψd : List D} {φv ψv : List V} {σd : En} {σv : L2.St} {hs : List Hd} {xs : List V}
theorem Wd.newIns {c : Str} {C x dx : Addr} (w : Wd K mg H (φd ++ ψd) (φv ++ ψv) σd σv) (l : ψd.length = ψv.length) (hc : mg c = some (.ref C)) (q : InsC K C) (hx : H x = none) (hd : H dx = none) (ne : dx ≠ x) :
    Wd K mg (upd (upd H dx (.own x)) x (.ins C dx [])) (φd ++ (.ins true c [] [] :: ψd)) (φv ++ (.ref x :: ψv)) σd σv := by
  have hx2 : upd H dx (.own x) x = none := by rw [upd_ne (Ne.symm ne)]; exact hx
  have w2 : Wd K mg (upd (upd H dx (.own x)) x (.ins C dx [])) (φd ++ ψd) (φv ++ ψv) σd σv := (w.fresh (o := .own x) hd).fresh hx2
  obtain ⟨f, t, g, r1, r2, s, nd⟩ := w.last l
  obtain ⟨f', t', g', r1', r2', s', nd'⟩ := w2.last l
  have e1 : f = f' := by
    have m := r1.mono (H' := upd (upd H dx (.own x)) x (.ins C dx [])) ((Stp.fresh hd).trans (Stp.fresh hx2)) _ fun b hb => by
      obtain ⟨o, e⟩ := r1.there _ b hb
      rw [upd_ne (fun z => by rw [z, hx] at e; cases e), upd_ne (fun z => by rw [z, hd] at e; cases e)]
    exact RepL.fp_uniq m r1'
  have nx : x ∉ f' ++ (t' ++ g') := fun z => by
    -- what is held stood there before
    have st : Stp H (upd (upd H dx (.own x)) x (.ins C dx [])) := (Stp.fresh hd).trans (Stp.fresh hx2)
    have keep : ∀ b o, H b = some o → upd (upd H dx (.own x)) x (.ins C dx []) b = H b := fun b o e => by
      rw [upd_ne (fun z => by rw [z, hx] at e; cases e), upd_ne (fun z => by rw [z, hd] at e; cases e)]
    have m1 := r1.mono st _ fun b hb => let ⟨o, e⟩ := r1.there _ b hb; keep b o e
    have m2 := r2.mono st _ fun b hb => let ⟨o, e⟩ := r2.there _ b hb; keep b o e
    have m3 := s.mono st fun b hb => let ⟨o, e⟩ := s.there b hb; keep b o e
    have u1 := RepL.fp_uniq m1 r1'
    have u2 := RepL.fp_uniq m2 r2'
    have u3 : g = g' := by
      have a := m3.toL.1
      have b := s'.toL.1
      exact RepL.fp_uniq a b
    subst u1 u2 u3
    rcases List.mem_append.mp z with z | z
    · obtain ⟨o, e⟩ := r1.there _ x z; rw [hx] at e; cases e
    · rcases List.mem_append.mp z with z | z
      · obtain ⟨o, e⟩ := r2.there _ x z; rw [hx] at e; cases e
      · obtain ⟨o, e⟩ := s.there x z; rw [hx] at e; cases e
  refine Wd.of_last (t := x :: t') r1' (.cons (f := [x]) (.insO (ds := []) (fs := []) upd_same hc q (fun f hf => by cases hf) .nil) r2') s' ?_
  have : (x :: (f' ++ (t' ++ g'))).Nodup := List.nodup_cons.mpr ⟨nx, nd'⟩
  refine List.Perm.nodup_iff ?_ |>.mp this
  rw [List.cons_append]
  exact (List.perm_middle).symm
end
def makeOut (ms : List (Option Nat)) (σ : En) : OutC → Out Hd
  | .ret .non (self :: ds') => .ok (.val self) (putB ms ds' σ)
  | .exc c ks xs (_ :: ds') => .exc c ks xs (putB ms ds' σ)
  | _ => .err
/-- C(e, ..): m is C's __init__ -/
def eMake (c : Str) (m : MF) (fs : AF) : EF := fun σ => (fs σ).bind fun hs σ1 => match argsOf hs σ1 with
  | some (ds, ms, σ2) => makeOut ms σ2 (m (.ins true c [] [] :: ds))
  | none => .err
section
variable {X : Cx} {W : WX} {m : MF} {fs : AF} {k n : Nat} {f C : Addr} {fd : FuncData} {ps : List Str} {x : Str} {p pos : Pos} {e : Expr} {es : List Expr}
theorem le_make (M : Mk X.K C f) (q : InsC X.K C) (F : FnG X.prog X.w X.K X.mg X.base (L2.CX X.prog X.w) k f fd ps (spM X.K X.mg (n + 1) m)) (hr : RoomG (k + 1) X.A) (hg : Gl X x) (hm : X.mg x = some (.ref C)) (hb : Binds X.K fd ps []) (tk : Takes X W)
    (ha : LA X W (e :: es) fs) (hn : ∀ σ hs σ', fs σ = .ok hs σ' → hs.length = n) (hdb : (x == ("__debug__" : Str)) = false := by decide) (he : starEach (e :: es) X.env = (false, eval e X.env) :: starEach es X.env := by rfl) (hpl : (backTo pos (starEach es X.env)).any (·.1) = false := by rfl) :
    LE X W (.Call (.Name x p) (e :: es) [] pos) (eMake x m fs) :=
  PE.imp (pe_makeS (E := WE W) M F hr hg hm hb (passAt tk) ha hdb he hpl) fun σ H Q ⟨φd, φv, σd, w, qq⟩ => by
    unfold eMake at qq
    refine ⟨φd, φv, σd, w, ?_⟩
    have hn' := hn σd
    revert qq
    cases ef : fs σd with
    | err => exact id
    | exc c ks vs σ1 => exact id
    | ok hs σ1 =>
      intro qq xs H1 w1 y dx hy hdx ne
      have lx := w1.len
      have hn2 := hn' hs σ1 ef
      simp only [Out.bind_ok] at qq
      split at qq
      · rename_i ds ms σ2 ea
        obtain ⟨w2, l1, l2, kk⟩ := args_ok hs w1 ea
        have w3 := w2.newIns l1 hm q hy hdx ne
        obtain ⟨w4, back⟩ := w3.enter (xs := .ref y :: xs) (by simp [l1])
        refine ⟨by simp; omega, _, _, _, w4, ?_⟩
        cases em : m (.ins true x [] [] :: ds) with
        | err => rw [em] at qq; exact qq
        | ret d ds' =>
          rw [em] at qq
          intro z H' w5
          have l5 : ds'.length = xs.length + 1 := by have := w5.length.2; simpa using this
          have w6 := back H' [d] [z] ds' rfl w5
          match d, ds', l5, w6, qq with
          | .non, self :: ds', l5, w6, qq =>
            have l3 : ds'.length = xs.length := by simpa using l5
            have w7 : Wd X.K X.mg H' (φd ++ [.non] ++ ([self] ++ ds')) (φv ++ [z] ++ ([.ref y] ++ xs)) σ2 σ := by simpa using w6
            have zn : z = .non := by
              have r := (w7.drop (by simp [l3])).lastRep rfl
              cases r; rfl
            subst zn
            refine ⟨rfl, qq _ _ (WdH.val ?_)⟩
            have w8 := w7.dropMid rfl (by simp [l3])
            rw [← List.append_assoc, ← List.append_assoc] at w8
            exact Wd.putB l2 l3 kk w8
          | .non, [], _, _, qq => exact qq.elim
          | .bl _, _, _, _, qq => exact qq.elim
          | .int _, _, _, _, qq => exact qq.elim
          | .str _, _, _, _, qq => exact qq.elim
          | .ty _, _, _, _, qq => exact qq.elim
          | .fn _, _, _, _, qq => exact qq.elim
          | .dct _ _ _, _, _, _, qq => exact qq.elim
          | .scr _, _, _, _, qq => exact qq.elim
          | .gone, _, _, _, qq => exact qq.elim
          | .exn _ _ _ _ _, _, _, _, qq => exact qq.elim
          | .lam _ _ _ _ _, _, _, _, qq => exact qq.elim
          | .tab _ _, _, _, _, qq => exact qq.elim
          | .tup _, _, _, _, qq => exact qq.elim
          | .lst _ _, _, _, _, qq => exact qq.elim
          | .ins _ _ _ _, _, _, _, qq => exact qq.elim
        | exc c ks vs ds' =>
          rw [em] at qq
          intro CC dd H' w5 xr
          have l5 : ds'.length = xs.length + 1 := by have := w5.length.2; simpa using this
          have w6 := back H' [] [] ds' rfl (by simpa using w5)
          match ds', l5, w6, qq with
          | self :: ds', l5, w6, qq =>
            have l3 : ds'.length = xs.length := by simpa using l5
            have w7 : Wd X.K X.mg H' (φd ++ [self] ++ ds') (φv ++ [.ref y] ++ xs) σ2 σ := by simpa using w6
            exact qq CC dd H' (Wd.putB l2 l3 kk (w7.dropMid rfl l3)) xr
          | [], l5, _, _ => simp at l5
      · exact qq.elim
end
end DL
namespace PySem.W
open PySem PySem.Spec PySem.Calls PyProof.Rows
section
variable {prog : Program} {w : World} {A : Around} {E : Value → Shared → Prop} {s : Shared} {K : Frag} {x D : Addr} {ox : Obj} {od : Option Obj}
theorem findObj_dataX {C : Addr} {name : Str} {a g : Value} (hc : (clsIn K C).isSome = true) (ha : findIn K (.ref C) name = some (some a)) (hg : specialIn K a "__get__" = some (some g)) (ht : takesIn K a = some true) : findObj K C od name = some (.bind g a) := by
  obtain ⟨cd, hc⟩ := Option.isSome_iff_exists.mp hc
  unfold findObj
  rw [hc, Option.bind_some, ha, Option.bind_some]
  simp [hg, ht]
theorem kin_classX {Q : Option Value → Shared → Prop} (hga : findIn K (.ref D) "__getattribute__" = some (some (.builtin "BaseException.__getattribute__"))) (hgt : findIn K (.ref D) "__getattr__" = some none) (hsub : subIn K (.ref D) (.type "BaseException") = some true)
    (hdct : hasDictIn K D = true) (ha : findIn K (.ref D) "__class__" = some (some (.builtin "object.__class__")))
    (hn : specialIn K (.builtin "object.__class__") "__get__" = some (some (.builtin "getset_descriptor.__get__"))) (htk : takesIn K (.builtin "object.__class__") = some true) (hm : mroIn K D (.type "object") = some true)
    (X : K.In s.heap) (I : InstAt s.heap x ox D od) (h : Q (some (.ref D)) { s with toks := s.toks + 1 }) : wpAny (model prog w) A (getAttr? (.ref x) "__class__") Q E s := by
  have hf : findObj K D od "__class__" = some (.bind (.builtin "getset_descriptor.__get__") (.builtin "object.__class__")) := findObj_dataX (by obtain ⟨cd, hc, _⟩ := any_some hdct; rw [hc]; rfl) ha hn htk
  obtain ⟨hp, g, d, t, os⟩ := s
  have L0 := I.type (M := model prog w)
  have L1 := looks_findIn (M := model prog w) X hga
  have L2 := looks_findIn (M := model prog w) X hgt
  have L3 := looks_find (M := model prog w) X I hf
  have sub : Looks (model prog w) hp (isInstance (.ref x) (.type "BaseException")) true := L0.andThen (looks_subIn X hsub)
  have hx0 : (false && onTheHeap (Value.builtin "BaseException.__getattribute__")) = false := rfl
  have hx2 : (Value.builtin "BaseException.__getattribute__" == Value.builtin "object.__getattribute__") = false := by decide +kernel
  have hx1 : (onTheHeap (Value.ref D) && Value.builtin "BaseException.__getattribute__" == Value.builtin "object.__getattribute__") = false := by rw [hx2]; rfl
  unfold getAttr? getAttrBy? getAttrBy
  refine wpAny_bind (wpAny_mkText (wpAny_bind (wpAny_attempt (wpAny_holding (wpAny_bind (L0.at (wpAny_bind (L1.at ?_))))))))
  show wpAny _ _ (if (onTheHeap (Value.ref D) && Value.builtin "BaseException.__getattribute__" == Value.builtin "object.__getattribute__") = true then _ else _) _ _ _
  rw [hx1, if_neg Bool.false_ne_true]
  unfold getAttrByItsOwn hookBefore
  refine wpAny_bind ?_
  rw [if_pos (show onTheHeap (Value.ref D) = true from rfl)]
  refine L2.at ?_
  refine wpAny_bind (wpAny_attempt (wpAny_holding ?_))
  unfold callGetattribute
  rw [hx0, if_neg Bool.false_ne_true]
  unfold boundAndCalled
  rw [PySem.F.excAttr_ValueError.ga.bind (.ref x)]
  refine wpAny_bind (wpAny_pure ?_)
  show wpAny _ _ (call (.builtin "BaseException.__getattribute__") [.ref x, .str "__class__" t]) _ _ _
  refine wpAny_call (codeAny_call_builtin PySem.F.excAttr_ValueError.ga.plain PySem.F.entry_bexc_ga ?_)
  refine @check_slot (model prog w) _ _ ⟨hp, g, d, t + 1, os⟩ "BaseException.__getattribute__" "BaseException" "__getattribute__" (.ref x) [.str "__class__" t] [] _ (by decide +kernel) (by decide +kernel) sub (PySem.F.args_bexc_ga (.ref x) (.str "__class__" t)) ?_
  unfold Builtin.«object.__getattribute__»
  refine wpAny_bind (wpAny_of_eq (a := ((Value.ref x : Value), [Value.str "__class__" t])) (by first | rfl | (simp only [slotArgs]; rfl)) ?_)
  refine wpAny_bind (wpAny_pure (wpAny_bind (L0.at (wpAny_bind (L3.at ?_)))))
  show wpAny _ _ (holding [Value.builtin "object.__class__"] (call (.builtin "getset_descriptor.__get__") [.builtin "object.__class__", .ref x, .ref D]) >>= ret) _ _ _
  refine wpAny_bind (wpAny_holding (wpAny_call (class_get (s := ⟨hp, g, d, t + 1, os⟩) (ox := ox) (od := od) X I hm ?_)))
  refine wpAny_pure ?_
  show wpAny _ _ (handedOut (.ref D)) _ _ _
  rw [handedOut_of (v := .ref D) rfl]
  first
    | exact wpAny_pure (wpAny_pure h)
    | exact wpAny_pure h
    | exact wpAny_pure (wpAny_bind (wpAny_pure (wpAny_pure h)))
theorem kitx_excX (hga : findIn K (.ref D) "__getattribute__" = some (some (.builtin "BaseException.__getattribute__"))) (hgt : findIn K (.ref D) "__getattr__" = some none) (hsub : subIn K (.ref D) (.type "BaseException") = some true) (hdct : hasDictIn K D = true) (ha : findIn K (.ref D) "__class__" = some (some (.builtin "object.__class__")))
    (hn : specialIn K (.builtin "object.__class__") "__get__" = some (some (.builtin "getset_descriptor.__get__"))) (htk : takesIn K (.builtin "object.__class__") = some true) (hm : mroIn K D (.type "object") = some true) :
    KitX K (.ref x) (.ref D) (fun h => InstAt h x ox D od) where
  ty := fun _ _ _ I => I.type
  it := fun _ _ X _ => by
    obtain ⟨cdD, hcD, _⟩ := any_some hdct
    unfold clsIn at hcD
    split at hcD
    · rename_i c' d' cd' sl' ho
      intro A' Q' E' s' k q
      unfold isType loadHead
      exact wpAny_bind (wpAny_loadPart (k _ _ (X _ _ ho)) (wpAny_pure q))
    · cases hcD
  ne := fun h tp dd its n sl X htp => by
    obtain ⟨cdD, hcD, _⟩ := any_some hdct
    refine Bool.eq_false_iff.mpr fun q => ?_
    have e : D = tp := Value.ref.inj (beq_iff_eq.mp q)
    subst e
    unfold clsIn at hcD
    split at hcD
    · rename_i c' d' cd' sl' ho
      have z := (X _ _ ho).symm.trans htp
      cases z
    · cases hcD
  ca := fun X I k => kin_classX hga hgt hsub hdct ha hn htk hm X I k
end
end PySem.W
namespace DL
open PySem PySem.Spec PyProof.Rows L2
/-- as call_isE, with or without fields -/
theorem call_isX {X : Cx} {a D : Addr} {d : Option Addr} {oe : Obj} {pn : List (Addr × Obj)} (C : ExcC X.K D) (hz : Zc (.ref D) d oe) (hf : ∃ vs, oe.data = .fields vs) : CallR (X.suite a ((a, oe) :: pn)) (.builtin "isinstance")
    (fun xs H Q => ∃ (c : V) (cv : Value) (b : Bool), xs = [.ref a, c] ∧ (∀ u, RelV c u → u = cv) ∧ PySem.W.kitOne X.K (.ref D) cv = some b ∧ (d = none ∨ ∃ dd fs, d = some dd ∧ H dd = some (.xd fs)) ∧ Q (.bl b) H) := by
  intro pins s σ H xs us Q I r h
  obtain ⟨c, cv, b, rfl, hcv, e, hd, q⟩ := h
  cases r with
  | cons rx rr =>
    cases rr with
    | cons rt rr =>
      cases rr
      cases rx
      have ec := hcv _ rt
      subst ec
      obtain ⟨hget, _⟩ := I.pin (a, oe) (List.mem_append.mpr (.inl List.mem_cons_self))
      obtain ⟨vs, hv⟩ := hf
      obtain ⟨od, J⟩ : ∃ od, PySem.W.InstAt s.heap a oe D od := by
        rcases hd with rfl | ⟨dd, fs, rfl, ed⟩
        · refine ⟨none, hget, hz.1, by unfold PySem.W.notCls; rw [hv] <;> rfl, ?_⟩
          rw [hz.2]; trivial
        · have hx : ObjOk X.prog X.w H s.heap dd (.xd fs) := I.hok dd _ ed
          obtain ⟨mA, hns, hr⟩ := hx
          obtain ⟨od, ho, hl⟩ := lookIn_ns hns
          exact ⟨some od, hget, hz.1, by unfold PySem.W.notCls; rw [hv] <;> rfl, by rw [hz.2]; exact ho⟩
      exact PySem.W.kia_one (PySem.W.kitx_excX C.hg C.hk C.hs C.hd C.ha C.hn C.ht C.hm) I.kIn J e (fun z => nomatch z) fun tk => ⟨.bl b, H, I.kept (t' := tk) fun _ _ z => z, rfl, q⟩

/-! ### in an except suite -/
def dIsX (a : Addr) (c : Str) (yesC : Str → Option Bool) : D → Option D
  | .exn a' _ c' _ _ => if a' = a ∧ c' = c then (match yesC c with
    | some b => some (.bl b)
    | none => none) else none
  | _ => none
section
variable {X : Cx} {W : WX} {a C : Addr} {d : Option Addr} {oe : Obj} {pn : List (Addr × Obj)} {c : Str} {e1 e2 : Expr} {fa : EF} {pos p : Pos}
/-- the dict of the exception is the one that the tree tells of -/
def dIsXd (a : Addr) (d : Option Addr) (c : Str) (yesC : Str → Option Bool) : D → Option D
  | .exn a' d' c' _ _ => if a' = a ∧ d' = d ∧ c' = c then (match yesC c with
    | some b => some (.bl b)
    | none => none) else none
  | _ => none
theorem le_isX {cc : V} {cv : Value} {yes : String → Option Bool} {yesC : Str → Option Bool} (A : Asks X.K X.mg cv yes yesC) (k : ClsV cc cv) (T : ExcC X.K C) (hm : X.mg c = some (.ref C)) (hz : Zc (.ref C) d oe) (hf : ∃ vs, oe.data = .fields vs) (hb : PE (X.suite a ((a, oe) :: pn)) e2 (tC cc))
    (ha : LE (X.suite a ((a, oe) :: pn)) W e1 fa) (hg : Gl X "isinstance") (hmi : X.mg "isinstance" = none)
    (hs : starEach [e1, e2] X.env = (false, eval e1 X.env) :: starEach [e2] X.env := by rfl) (hs2 : starEach [e2] X.env = (false, eval e2 X.env) :: starEach [] X.env := by rfl) (hpl : (backTo pos (starEach [e2] X.env)).any (·.1) = false := by rfl) :
    LE (X.suite a ((a, oe) :: pn)) W (.Call (.Name "isinstance" p) [e1, e2] [] pos) (eUn (dIsXd a d c yesC) fa) := by
  refine PE.imp (pe_callB (call_isX (pn := pn) T hz hf) hg hmi (by decide +kernel) (pa_cons ha (pa_cons hb pa_nil hs2) hs) (by decide) (by decide) hs hpl) fun σ H Q h => ?_
  refine tUn_good (r := fun x H Q => ∃ (c' : V) (cv : Value) (b : Bool), [x, cc] = [.ref a, c'] ∧ (∀ u, RelV c' u → u = cv) ∧ PySem.W.kitOne X.K (.ref C) cv = some b ∧ (d = none ∨ ∃ dd fs, d = some dd ∧ H dd = some (.xd fs)) ∧ Q (.bl b) H) (fun H x dt r f φd φv σd σv Q ra e w k2 => ?_) h
  unfold dIsXd at e
  split at e
  · rename_i a' d' c' ks vs
    split at e
    · rename_i hc
      obtain ⟨rfl, rfl, rfl⟩ := hc
      split at e
      · rename_i b e0
        cases e
        have hx : x = .ref a' := by cases ra <;> rfl
        subst hx
        refine ⟨cc, cv, b, rfl, fun u ru => k.eq ru, A.c _ C b e0 hm, ?_, k2 _ H (w.push (.bl _))⟩
        cases ra with
        | exn0 => exact .inl rfl
        | exn1 hh r => exact .inr ⟨_, _, rfl, hh⟩
      · cases e
    · cases e
  · cases e
/-- error.f -/
def dXf (a : Addr) (d : Option Addr) (c f : Str) : D → Option D
  | .exn a' d' c' ks vs => if a' = a ∧ d' = d ∧ c' = c then lookK f ks vs else none
  | _ => none
def tXfD (a : Addr) (d : Option Addr) (f : Str) (te : TE) : TE := fun σ H Q => te σ H fun x H1 => x = .ref a ∧ ∃ (dd : Addr) (fs : List (Str × V)) (v : V), d = some dd ∧ H1 dd = some (.xd fs) ∧ fs.lookup f = some v ∧ Q v H1
theorem le_xf {f : Str} (T : XfC X.K C) (hno : PySem.W.findIn X.K (.ref C) f = some none) (hz : Zc (.ref C) d oe) (hf : ∃ vs, oe.data = .fields vs) (ha : LE (X.suite a ((a, oe) :: pn)) W e1 fa) (hb : attributeBase e1 f X.env (eval e1 X.env) = eval e1 X.env := by rfl) :
    LE (X.suite a ((a, oe) :: pn)) W (.Attribute e1 f pos) (eUn (dXf a d c f) fa) := PE.imp (pe_xf (C := C) T hno hz hf ha hb) fun σ H Q h => by
  refine tUn_good (r := fun x H Q => x = .ref a ∧ (Value.ref C : Value) = .ref C ∧ ∃ (dd : Addr) (fs : List (Str × V)) (v : V), d = some dd ∧ H dd = some (.xd fs) ∧ fs.lookup f = some v ∧ Q v H) (fun H x dt r f' φd φv σd σv Q ra e w k2 => ?_) h
  unfold dXf at e
  split at e
  · rename_i a' d' c' ks vs
    split at e
    · rename_i hc
      obtain ⟨rfl, rfl, rfl⟩ := hc
      cases ra with
      | exn0 => simp [lookK] at e
      | exn1 hh r =>
        obtain ⟨v, g', e1, rd, s, m⟩ := lookK_rep r e
        cases g' with
        | nil => exact ⟨rfl, rfl, _, _, v, rfl, hh, e1, k2 _ H (w.push rd)⟩
        | cons b _ => exact nomatch s b List.mem_cons_self
    · cases e
  · cases e
end

/-! ### try: .. except x as n: .. -/
def unsetR (i : Nat) : OutS → OutS
  | .nx σ => .nx (σ.set i none)
  | .bk σ => .bk (σ.set i none)
  | .ct σ => .ct (σ.set i none)
  | .rt d σ => .rt d (σ.set i none)
  | .exc _ _ _ _ => .err
  | .err => .err
def exnOf (a dd : Addr) (c : Str) (ks : List Str) (vs : List D) : D := if ks = [] then .exn a none c [] [] else .exn a (some dd) c ks vs
def odOf (dd : Addr) (ks : List Str) : Option Addr := if ks = [] then none else some dd
def sTry (i : Nat) (ok : En → Bool) (isx : Str → Option Bool) (f : SF) (hf : Addr → Option Addr → Str → SF) : SF := fun σ => match f σ with
  | .exc c ks vs σ1 => match isx c with
    | some b => if b = true then (if ok σ1 = true ∧ i < σ1.length then unsetR i (hf 0 (odOf 0 ks) c (σ1.set i (some (exnOf 0 0 c ks vs)))) else .err) else .exc c ks vs σ1
    | none => .err
  | r => r
/-- the handler does not tell where the exception lies -/
def HInd (i : Nat) (ok : En → Bool) (isx : Str → Option Bool) (hf : Addr → Option Addr → Str → SF) : Prop := ∀ (a dd : Addr) (c : Str) (ks : List Str) (vs : List D) (σ : En), isx c = some true → ok σ = true →
  unsetR i (hf a (odOf dd ks) c (σ.set i (some (exnOf a dd c ks vs)))) = unsetR i (hf 0 (odOf 0 ks) c (σ.set i (some (exnOf 0 0 c ks vs))))
section
variable {K : PySem.W.Frag} {mg : Str → Option Value} {W : WX} {B : Nat → Bool} {φd : List D} {φv : List V} {σv : L2.St} {Dn : Ends}
theorem GdS.unset {i : Nat} (hb : B i = false) {a : V} {r : OutS} (h : GdS K mg W B Dn φd φv σv (unsetR i r)) :
    GdS K mg W0 B { nx := fun σ' H' => Dn.nx (σ'.set i none) H', rt := Dn.rt, bk := fun σ' H' => Dn.bk (σ'.set i none) H', ct := fun σ' H' => Dn.ct (σ'.set i none) H' } φd φv (σv.set i (some a)) r := by
  have sb : ∀ {σ' : L2.St}, SB B (σv.set i (some a)) σ' → SB B σv (σ'.set i none) := fun s => ((SB.set hb).trans s).trans (SB.set hb)
  cases r with
  | err => exact h
  | nx σ => exact fun σ' H' s w => h _ H' (sb s) (w.unset i none)
  | bk σ => exact fun σ' H' s w => h _ H' (sb s) (w.unset i none)
  | ct σ => exact fun σ' H' s w => h _ H' (sb s) (w.unset i none)
  | rt d σ => exact fun v σ' H' s w => h v _ H' (sb s) (w.unset i none)
  | exc c ks vs σ => exact h.elim
end
section
variable {X : Cx} {W : WX} {B : Nat → Bool} {x nm : Str} {cx : Value} {i : Nat} {ok : En → Bool} {body suite : List Stmt} {b₀ : Stmt} {np pos pos' : Pos} {f : SF} {hf : Addr → Option Addr → Str → SF} {isx : Str → Option Bool}
theorem ls_try (hb : B i = false) (hs : X.stack = X.env :: X.outer) (hfr : X.env.frame = some X.env.locals) (hN : X.N.Nodup) (hi : X.N[i]? = some nm) (hln : X.env.kindOf nm = some .local) (hc : Names X x cx) (tk : Takes X W)
    (hx : ∀ c C b, isx c = some b → X.mg c = some (.ref C) → PySem.W.exmOne X.K (.ref C) cx = some b)
    (hbody : ∀ (W : WX) (pn : List (Addr × Obj)) (xe : Value → Shared → Prop), Takes (X.tr pn xe) W → PassesOwn (model X.prog X.w) X.A X.env xe → LSs (X.tr pn xe) W B body f)
    (hsu : ∀ (a : Addr) (oe : Obj) (c : Str) (C : Addr) (d : Option Addr) (pn : List (Addr × Obj)), isx c = some true → X.mg c = some (.ref C) → Zc (.ref C) d oe → (∃ vs, oe.data = .fields vs) → LSs (X.suite a ((a, oe) :: pn)) W0 B (b₀ :: suite) (hf a d c)) (hind : HInd i ok isx hf) :
    LS X W B (.Try body [.ExceptHandler (some (.Name x np)) (some nm) (b₀ :: suite) pos'] [] [] pos) (sTry i ok isx f hf) :=
  PS.imp (ps_try_as (tb := fun W => TSd X.K X.mg W B f) (ts := fun a cls d D σ H => ∃ c C, cls = .ref C ∧ isx c = some true ∧ X.mg c = some (.ref C) ∧ TSd X.K X.mg W0 B (hf a d c) D σ H) hs hfr hN hi hln hc tk hbody (fun a oe cls d pn hz hfl => ⟨fun pins s σ H D I ⟨c, C, e1, e2, e3, h⟩ => by
      subst e1
      exact (hsu a oe c C d pn e2 e3 hz hfl).run pins s σ H D I h⟩)) fun D σ H ⟨φd, φv, σd, w, q⟩ => by
    refine ⟨φd, φv, σd, w, ?_⟩
    unfold sTry at q
    revert q
    cases f σd with
    | err => exact id
    | nx σ1 => exact id
    | bk σ1 => exact id
    | ct σ1 => exact id
    | rt d σ1 => exact id
    | exc c ks vs σ1 =>
      intro q σ' s C d H' w' xr
      dsimp only at q
      split at q
      · rename_i b e0
        refine ⟨b, hx c C b e0 xr.1, fun hbt a ha => ?_, fun hbf => ?_⟩
        · subst hbt
          rw [if_pos rfl] at q
          split at q
          · rename_i hl
            refine ⟨c, C, rfl, e0, xr.1, φd, φv, σ1.set i (some (exnOf a (d.getD 0) c ks vs)), ?_, ?_⟩
            · have rd : RepD X.K X.mg H' (exnOf a (d.getD 0) c ks vs) (.ref a) [] := by
                rcases xr.2 with ⟨rfl, rfl, rfl⟩ | ⟨dd, fs, rfl, hd, rfl, hne, r⟩
                · exact .exn0
                · unfold exnOf
                  rw [if_neg hne]
                  exact .exn1 hd r
              exact (w'.push rd).store hl.2
            · have ed : d = odOf (d.getD 0) ks := by
                rcases xr.2 with ⟨rfl, rfl, rfl⟩ | ⟨dd, fs, rfl, hd, rfl, hne, r⟩
                · rfl
                · unfold odOf
                  rw [if_neg hne]; rfl
              have q2 := (q.sb s)
              rw [← hind a (d.getD 0) c ks vs σ1 e0 hl.1, ← ed] at q2
              exact GdS.unset hb q2
          · exact q.elim
        · subst hbf
          rw [if_neg Bool.false_ne_true] at q
          exact q σ' s C d H' w' xr
      · exact q.elim
end
end DL
namespace DL
open PySem PySem.Spec PyProof.Rows L2 LamX

/-! ### lambdas: x(lambda: e), x a def that calls what it gets -/
/-- all but the table at P stays -/
def ExtP (P : Addr) (H H' : Hp) : Prop := ∀ b o, b ≠ P → H b = some o → H' b = some o
section
variable {X : Cx} {pins : List (Addr × Obj)} {σ : L2.St} {H HZ : Hp} {s s1 : Shared}
/-- the lambda is made: its code object is new, or found in the table (HandS.Lambda's lam_make2, with what stays told by the table's place) -/
theorem lam_makeP {q : Str} {c P : Addr} {params : Arguments} {body : Expr} {scope : Scope} {pos : Pos} {E : Value → Shared → Prop} {Q : Value → Shared → Prop} (I : Inv X pins σ H s) (TB : TabB X.base X.mg c P) (hcode : X.env.code = .ref c)
    (hq : q = X.env.qual ++ "<lambda>") (hT : TabS H P q) (hdef : defaultsOf params X.env = ([], [])) (hfree : ∀ y ∈ scope.names, y.2 = .free → ∃ c, X.env.cells.lookup y.1 = some c)
    (h : ∀ (f c' : Addr) (pm ctv : Value) (H1 : Hp) (s' : Shared), Inv X pins σ H1 s' → ExtP P H H1 → TabS H1 P q →
      s'.heap.get? f = some (PySem.W.kla_obj "<lambda>" (X.env.qual ++ "<lambda>") params body scope (cloFrom X.env.cells scope.names []) pm c' ctv) → H1 f = none → f ∉ frs X.stack → H1 c' = some (CodeO c' q) → Q (.ref f) s') :
    wpAny (model X.prog X.w) X.A (eval (.Lambda params body scope pos) X.env) Q E s := by
  subst hq
  obtain ⟨ps, hP, ht, ha⟩ := hT
  refine PySem.W.kla_eval hdef ?_
  have bP : s.heap.BuiltinsAt X.mg P := TB.bm.keeps I.bk
  have hP' : s.heap.get? P = some { cls := .none, data := .fields ps } := I.hok P _ hP
  have nofr : ∀ f, s.heap.objs.size ≤ f → f ∉ frs X.stack := fun f hf z => by
    rcases List.mem_cons.mp (I.stkSub _ z) with e | e
    · have h1 := I.lt
      rw [← e] at h1
      exact Nat.lt_irrefl _ (Nat.lt_of_lt_of_le h1 hf)
    · exact I.nofs hf e
  cases hc : codeAmong pos ps.toList with
  | none =>
    refine PySem.W.kla_makeFunction (mg := X.mg) (c := c) (P := P) (ps := ps) (closure_ok hfree) I.ok.glob (I.mod.glob.keeps I.bk) hcode (TB.code.keeps I.bk) hP' ht hc TB.gP bP fun c' ctv h' tk hx hge hlt hrec htb => ?_
    obtain ⟨c2, oc, vs, t, e2, hoc, hd, hv⟩ := hrec
    cases e2
    have hsz : s.heap.objs.size ≤ h'.objs.size := Nat.le_trans hge (Nat.le_of_lt hlt)
    have nC : H c' = none := I.hok.fresh hge
    have I1 := inv_table (t' := tk) (more := #[rawInt pos.line, rawInt pos.col, .ref c']) (h' := h'.push (PySem.W.kla_obj "<lambda>" (X.env.qual ++ "<lambda>") params body scope (cloFrom X.env.cells scope.names []) ((X.mg "__name__").getD .none) c' ctv)) I hP
      (fun b o hb e => Heap.get?_push_of_some _ (hx b o hb e)) (Heap.get?_push_of_some _ htb) hge ⟨oc, vs, t, Heap.get?_push_of_some _ hoc, hd, hv⟩
    have hE : ExtP P H (upd (upd H P (.tbl (ps ++ #[rawInt pos.line, rawInt pos.col, .ref c']))) c' (CodeO c' (X.env.qual ++ "<lambda>"))) := fun b o n e => by
      rw [upd_ne (ne_of_none e nC), upd_ne n]
      exact e
    have eL : (ps ++ #[rawInt pos.line, rawInt pos.col, .ref c']).toList = ps.toList ++ [rawInt pos.line, rawInt pos.col, .ref c'] := by simp
    refine h h'.objs.size c' ((X.mg "__name__").getD .none) ctv _ _ I1 hE ?_ (Heap.get?_push_size _ rfl) ?_ (nofr _ hsz) upd_same
    · refine ⟨_, by rw [upd_ne (ne_of_none hP nC), upd_same], by rw [eL]; exact PySem.TriplesOk_snoc _ _ _ _ ht, fun p' cv hcv => ?_⟩
      rw [eL] at hcv
      rcases among_app _ ht hcv with z | z
      · obtain ⟨c0, e1, e2⟩ := ha p' cv z
        refine ⟨c0, e1, hE _ _ (fun z => ?_) e2⟩
        rw [z, hP] at e2
        exact codeO_ne _ (Option.some.inj e2).symm
      · exact ⟨c', z, upd_same⟩
    · have n1 : h'.objs.size ≠ c' := Nat.ne_of_gt hlt
      have n2 : h'.objs.size ≠ P := Nat.ne_of_gt (Nat.lt_of_lt_of_le (Heap.lt_size hP') hsz)
      rw [upd_ne n1, upd_ne n2]
      exact I.hok.fresh hsz
  | some cv =>
    obtain ⟨c', e, hco⟩ := ha pos cv hc
    subst e
    refine PySem.W.kla_makeFunctionHit (mg := X.mg) (c := c) (P := P) (ps := ps) (closure_ok hfree) I.ok.glob (I.mod.glob.keeps I.bk) hcode (TB.code.keeps I.bk) hP' ht hc bP fun ctv h' tk hx hsz => ?_
    have I1 : Inv X pins σ H { s with heap := h'.push (PySem.W.kla_obj "<lambda>" (X.env.qual ++ "<lambda>") params body scope (cloFrom X.env.cells scope.names []) ((X.mg "__name__").getD .none) c' ctv), toks := tk } := I.kept fun b o e => Heap.get?_push_of_some _ (hx b o e)
    exact h h'.objs.size c' ((X.mg "__name__").getD .none) ctv H _ I1 (fun _ _ _ e => e) ⟨ps, hP, ht, ha⟩ (Heap.get?_push_size _ rfl) (I.hok.fresh hsz) (nofr _ hsz) hco
/-- x(), in the def that got the lambda (HandS.Lambda's pe_act, the wish told at the slots) -/
theorem pe_actS {CXg : CXT} {Eg : XK} {Ng : List Str} {qg : Str} {sg : Scope} {g f c' : Addr} {cdg pm ctv : Value} {params : Arguments} {body : Expr} {scope : Scope} {k i : Nat} {a : Str} {pn : List (Addr × Obj)} {xe : Value → Shared → Prop} {W : WX} {tb : XK → TE} {p1 p2 : Pos} {q : Str}
    (I : Inv X pins σ H s) (L : LamS X.env.scope scope) (hf : s.heap.get? f = some (PySem.W.kla_obj "<lambda>" (X.env.qual ++ "<lambda>") params body scope (cloFrom X.env.cells scope.names []) pm c' ctv)) (hfn : H f = none) (hfr : f ∉ frs X.stack) (hq : q = X.env.qual ++ "<lambda>")
    (hbind : bindArgs (PySem.W.kla_fn "<lambda>" (X.env.qual ++ "<lambda>") params body scope (cloFrom X.env.cells scope.names []) pm (.ref c') ctv) ⟨[], []⟩ = pure [])
    (tk : Takes ((cxOf CXg X.prog X.w X.K X.mg X.base Ng qg sg g cdg X.A X.stack s H Eg).tr pn xe) W) (hr : RoomG (k + 1) (X.A.deeper (envOfC qg sg s.heap.objs.size g cdg)))
    (hbody : ∀ (A : Around) (outer : List Env) (s : Shared) (H : Hp) (E : XK), RoomG k (A.deeper (lamEnv X scope s.heap.objs.size f c')) → PE (lamCx X A outer s H E scope f c') body (tb E))
    (hN : Ng[i]? = some a) (hv : Vis sg a) (hd : (a == ("__debug__" : Str)) = false := by decide) (hcd : (a == ("__classdict__" : Str)) = false := by decide) :
    PE ((cxOf CXg X.prog X.w X.K X.mg X.base Ng qg sg g cdg X.A X.stack s H Eg).tr pn xe) (.Call (.Name a p1) [] [] p2)
      (fun σZ HZ Q => σZ[i]? = some (some (.ref f)) ∧ HZ c' = some (CodeO c' q) ∧ tb (WE W σZ) σ HZ Q) := by
  subst hq
  refine ⟨fun pinsZ sZ σZ HZ Q IZ h => ?_⟩
  obtain ⟨hs, hc, ht⟩ := h
  refine wpAny_Call_Name_kw (thn ((pe_var (pos := p1) (i := i) hN hv hd hcd).run pinsZ sZ σZ HZ (fun v H1 => v = .ref f ∧ H1 = HZ) IZ ⟨.ref f, hs, rfl, rfl⟩) fun u s1 ⟨v, H1, I1, r1, q1⟩ => ?_)
  obtain ⟨ev, eH⟩ := q1
  subst ev
  rw [eH] at I1
  obtain rfl : u = Value.ref f := r1
  have of1 : s1.heap.get? f = some (PySem.W.kla_obj "<lambda>" (X.env.qual ++ "<lambda>") params body scope (cloFrom X.env.cells scope.names []) pm c' ctv) := I1.base.keep f _ hf hfn hfr (fun z => nomatch (show f ∈ ([] : List Addr) from z))
  refine PySem.W.callWith_F0 ⟨_, _, _, _, of1⟩ ?_
  have un : Un (frs X.stack) [] H HZ s.heap s1.heap := I1.base
  obtain ⟨⟨oc, vs, t, hoc, hdc, hvc⟩, _, _⟩ := I1.hok c' _ hc
  have rc : codeAny (model X.prog X.w) (X.A.deeper (envOfC qg sg s.heap.objs.size g cdg)) (.call (.ref f) ⟨[], []⟩) (CR (L2.CX X.prog X.w) (envOfC qg sg s.heap.objs.size g cdg :: X.stack) X.prog X.w HZ s1 Q (WE W σZ)) s1 := by
    refine PySem.W.kla_callFunE hr.depth of1 rfl L.co L.gen rfl ⟨c', oc, vs, t, rfl, hoc, hdc, hvc⟩ ?_
    rw [hbind]
    refine wpAny_pure (wpAny_newFunctionEnv (fun y hy => (L.own y hy).2) (fun y hy => absurd hy (by simp)) (fun h₁ hns hsb => ⟨I1.nolimit.fresh _ hsb, ?_⟩) L.kind)
    show codeAny _ _ (.expr body (lamEnv X scope s1.heap.objs.size f c')) _ _
    have kp : ∀ b o, s1.heap.get? b = some o → h₁.get? b = some o := fun b o e => hsb.extBut b o (Nat.ne_of_lt (Heap.lt_size e)) (Heap.get?_push_of_some _ e)
    have J : Inv (lamCx X (X.A.deeper (envOfC qg sg s.heap.objs.size g cdg)) (envOfC qg sg s.heap.objs.size g cdg :: X.stack) s1 HZ (WE W σZ) scope f c') [] σ HZ { s1 with heap := h₁, toks := s1.toks + ([] : List (Str × Value)).length } :=
      lam_start2 I L I1.env0 hr.hd un hns kp
    refine PySem.W.kla_codeExpr (wpAny_mono ((hbody _ _ s1 HZ _ (hr.deeper _)).run [] _ _ HZ Q J ht) (fun v s' hq => ?_) fun e s' hq => hq)
    obtain ⟨w', H', J', rv, q⟩ := hq
    exact ⟨w', H', J'.os, J'.bare, J'.base, J'.hok, rv, q⟩
  have hx : PassesAt (L2.CX X.prog X.w) ((cxOf CXg X.prog X.w X.K X.mg X.base Ng qg sg g cdg X.A X.stack s H Eg).tr pn xe) σZ (WE W σZ) := passAt tk σZ
  refine wpAny_call (codeAny_mono rc fun r s' hq => ?_)
  cases r with
  | error e => exact hx pinsZ HZ s1 e s' I1 hq
  | ok fl =>
    cases fl with
    | ret u => exact I1.after hq
    | next => exact False.elim hq
    | brk => exact False.elim hq
    | cont => exact False.elim hq
/-- the def that calls what it got -/
def GivesP (X : Cx) (k : Nat) (Ng : List Str) (x : Str) (sg : Scope) (g : Addr) (cdg : Value) (bg : List Stmt) (a : Str) (q : Str) (TT : (XK → Hp → VK → Prop) → Hp → VK → Prop) : Prop :=
  ∀ (f c' : Addr) (s : Shared) (H : Hp) (Q : VK) (tl : XK → Hp → VK → Prop), RoomG k (X.A.deeper (envOfC x sg s.heap.objs.size g cdg)) →
    (∀ (W : WX) (pn : List (Addr × Obj)) (xe : Value → Shared → Prop) (p1 p2 : Pos), Takes ((cxOf C8.CX0 X.prog X.w X.K X.mg X.base Ng x sg g cdg X.A X.stack s H C8.E0).tr pn xe) W →
      PE ((cxOf C8.CX0 X.prog X.w X.K X.mg X.base Ng x sg g cdg X.A X.stack s H C8.E0).tr pn xe) (.Call (.Name a p1) [] [] p2) (fun σZ HZ Q => σZ[0]? = some (some (.ref f)) ∧ HZ c' = some (CodeO c' q) ∧ tl (WE W σZ) HZ Q)) →
    H c' = some (CodeO c' q) → TT tl H Q →
    ∃ t, PSs (cxOf C8.CX0 X.prog X.w X.K X.mg X.base Ng x sg g cdg X.A X.stack s H C8.E0).nox bg t ∧ t { nx := fun _ H' => Q .non H', rt := Q } (L2.start Ng [.ref f]) H
def tLamP (P : Addr) (q : Str) (TT : (XK → Hp → VK → Prop) → Hp → VK → Prop) (t : XK → TE) : TE := fun σ H Q => TabS H P q ∧ ∀ H1, ExtP P H H1 → TabS H1 P q → TT (fun E H' Q' => t E σ H' Q') H1 Q
theorem pe_lamP {q : Str} {TT : (XK → Hp → VK → Prop) → Hp → VK → Prop} {x a : Str} {g c P : Addr} {k : Nat} {pg : Arguments} {bg : List Stmt} {sg : Scope} {dV kV doc pm cdv ct oc : Value} {an od : Option Addr} {osl : Array (Option Value)} {Ng : List Str}
    {params : Arguments} {body : Expr} {scope : Scope} {t : XK → TE} {p lpos pos : Pos} (hg : Gl X x) (hm : X.mg x = some (.ref g)) (hk : PySem.W.keepIn X.K (.ref g) = true)
    (lk : X.K.lookup g = some ⟨oc, od, .func (PySem.W.fnOf x x pg bg sg dV kV doc pm an cdv ct), osl⟩) (hcg : PySem.W.codeIn X.K cdv x = true) (hb : L2.Binds X.K (PySem.W.fnOf x x pg bg sg dV kV doc pm an cdv ct) [a] []) (Sg : FnScope Ng [a] sg) (hNg : Ng[0]? = some a) (hva : Vis sg a)
    (hG : GivesP X (k + 1) Ng x sg g cdv bg a q TT)
    (TB : TabB X.base X.mg c P) (hcode : X.env.code = .ref c) (hq : q = X.env.qual ++ "<lambda>") (hr : RoomG (k + 2) X.A) (L : LamS X.env.scope scope) (hdef : defaultsOf params X.env = ([], []))
    (hbind : ∀ (q : Str) (cl : List (Str × Addr)) (pm cv ctv : Value), bindArgs (PySem.W.kla_fn "<lambda>" q params body scope cl pm cv ctv) ⟨[], []⟩ = pure [])
    (hbody : ∀ (A : Around) (outer : List Env) (s : Shared) (H : Hp) (E : XK) (f c' : Addr), RoomG k (A.deeper (lamEnv X scope s.heap.objs.size f c')) → PE (lamCx X A outer s H E scope f c') body (t E))
    (hdb : (x == ("__debug__" : Str)) = false := by decide) (hd : (a == ("__debug__" : Str)) = false := by decide) (hcd : (a == ("__classdict__" : Str)) = false := by decide) :
    PE X (.Call (.Name x p) [.Lambda params body scope lpos] [] pos) (tLamP P q TT t) := by
  refine ⟨fun pins s σ H Q I h => ?_⟩
  obtain ⟨hT, h⟩ := h
  refine wpAny_Call_Name_kw (ld_glob I hg hm ?_ hdb)
  refine PySem.W.callWith_K (h₀ := X.base) I.ok.mod.kin hk ?_ (by rfl) (by rfl)
  show wpAny _ _ (spliced ((false, eval (.Lambda params body scope lpos) X.env) :: backTo pos (starEach [] X.env))) _ _ s
  refine Calls.spliced_cons (lam_makeP I TB hcode hq hT hdef (L.has I.ok) fun f c' pm' ctv H1 s' I1 eN T1 hf hfn hfr hco => ?_)
  refine Calls.spliced_nil ⟨I1.kIn, ?_⟩
  have rc : codeAny (model X.prog X.w) X.A (.call (.ref g) ⟨[.ref f], []⟩) (CR C8.CX0 X.stack X.prog X.w H1 s' Q C8.E0) s' := by
    refine run_ofS (N := Ng) (ps := [a]) (us := [.ref f]) (vs := [.ref f]) lk hcg Sg hr.toRoom I1.env0 (hb s' [.ref f] I1.kIn rfl) (.cons rfl .nil) rfl fun _ => ?_
    have hr' := hr.deeper (envOfC x sg s'.heap.objs.size g cdv)
    obtain ⟨t', ht', hq'⟩ := hG f c' s' H1 Q (fun E H' Q' => t E σ H' Q') hr' (fun W pn xe p1 p2 tk => pe_actS (i := 0) (tb := t) I1 L hf hfn hfr hq (hbind _ _ _ _ _) tk hr' (fun A outer s H E hr2 => hbody A outer s H E f c' hr2) hNg hva hd hcd) hco (h H1 eN T1)
    exact ⟨t', ht'.nox, hq'⟩
  refine wpAny_call (codeAny_mono rc fun r s2 hq => ?_)
  cases r with
  | error e => exact (show False from hq).elim
  | ok fl =>
    cases fl with
    | ret u => exact I1.after hq
    | next => exact False.elim hq
    | brk => exact False.elim hq
    | cont => exact False.elim hq
end
end DL
namespace DL
open PySem PySem.Spec PyProof.Rows L2 LamX
/-- no slot is told of that was not told of before -/
def patB : En → En → Bool
  | [], [] => true
  | none :: a, _ :: b => patB a b
  | some _ :: a, some _ :: b => patB a b
  | _, _ => false
theorem patB_rep {K mg} {H H' : Hp} : ∀ {σ' σ0 : En} {τ : L2.St} {g g' : List Addr}, patB σ' σ0 = true → RepS K mg H σ0 τ g → RepL K mg H' (sD σ') (sV σ' τ) g' → RepS K mg H' σ' τ g'
  | [], [], τ, g, g', e, h, r => by cases h; cases r; exact .nil
  | [], _ :: _, τ, g, g', e, h, r => by simp [patB] at e
  | none :: a, [], τ, g, g', e, h, r => by simp [patB] at e
  | some _ :: a, [], τ, g, g', e, h, r => by simp [patB] at e
  | none :: a, o :: b, τ, g, g', e, h, r => by
    have e' : patB a b = true := by cases o <;> simpa [patB] using e
    cases h with
    | non o2 h2 => exact .non _ (patB_rep e' h2 r)
    | som h1 h2 => exact .non _ (patB_rep e' h2 r)
  | some d :: a, none :: b, τ, g, g', e, h, r => by simp [patB] at e
  | some d :: a, some d0 :: b, τ, g, g', e, h, r => by
    have e' : patB a b = true := by simpa [patB] using e
    cases h with
    | som h1 h2 =>
      generalize ea : sD (some d :: a) = A at r
      cases r with
      | cons h' q' =>
        have ea' : d :: sD a = _ := ea
        cases ea'
        exact .som h' (patB_rep e' h2 q')
open Classical in
/-- call(), in the def that got the lambda: it runs over the frame of the maker (τ its values, σ0 its trees) -/
noncomputable def eLam (f c' : Addr) (q : Str) (τ : L2.St) (σ0 : En) (fb : EF) : EF := fun σ => if sget σ 0 = some (.lam f c' q (sV σ0 τ) (sD σ0)) then
    match fb σ0 with
    | .ok (.val d) σ' => .ok (.val d) (σ.set 0 (some (.lam f c' q (sV σ' τ) (sD σ'))))
    | .ok (.sl k) σ' => match sget σ' k with
      | some d => if fz d = true then .ok (.val d) (σ.set 0 (some (.lam f c' q (sV σ' τ) (sD σ')))) else .err
      | none => .err
    | .exc c ks vs σ' => .exc c ks vs (σ.set 0 (some (.lam f c' q (sV σ' τ) (sD σ'))))
    | .err => .err
  else .err
section
variable {K : PySem.W.Frag} {mg : Str → Option Value} {H H' : Hp} {φd : List D} {φv : List V} {σd σ0 : En} {σv τ : L2.St}
theorem RepL.nil_of {ds : List D} {vs : List V} {f : List Addr} (h : RepL K mg H ds vs f) (z : ds = []) : vs = [] ∧ f = [] := by
  subst z; cases h; exact ⟨rfl, rfl⟩
/-- into the maker's frame and back -/
theorem Wd.lamIn {f c' : Addr} {q : Str} (hp : ∃ H g, RepS K mg H σ0 τ g) (w : Wd K mg H φd φv σd σv) (e : sget σd 0 = some (.lam f c' q (sV σ0 τ) (sD σ0))) :
    σv[0]? = some (some (.ref f)) ∧ H c' = some (CodeO c' q) ∧ ∃ ψd ψv, ψd.length = ψv.length ∧ Wd K mg H (φd ++ ψd) (φv ++ ψv) σ0 τ ∧ ∀ (H' : Hp) (χd : List D) (χv : List V) (σ' : En), χd.length = χv.length → Wd K mg H' (φd ++ ψd ++ χd) (φv ++ ψv ++ χv) σ' τ →
      Wd K mg H' (φd ++ χd) (φv ++ χv) (σd.set 0 (some (.lam f c' q (sV σ' τ) (sD σ')))) σv := by
  obtain ⟨F, G, r, s, nd⟩ := w
  have e1 := sget_some e
  obtain ⟨v, p, m, sx, ev, eG, rd, _, k2⟩ := s.at e1
  subst eG
  cases rd with
  | lam h rl =>
    obtain ⟨H0, g0, r0⟩ := hp
    have rs := r0.toL.2 H m rl
    have sn := k2 H (Stp.refl H) fun _ _ => rfl
    obtain ⟨t1, t2⟩ := sn.toL
    have lam0 : ∀ {H : Hp}, H c' = some (CodeO c' q) → RepD K mg H (.lam f c' q [] []) (.ref f) [] := fun h => .lam h .nil
    refine ⟨ev, h, sD (σd.set 0 none) ++ [.lam f c' q [] []], sV (σd.set 0 none) σv ++ [.ref f], ?_, ?_, ?_⟩
    · rw [List.length_append, List.length_append, t1.length]; rfl
    · refine ⟨F ++ ((p ++ sx) ++ []), m, r.append (t1.append (.one (lam0 h))), rs, ?_⟩
      refine List.Perm.nodup_iff ?_ |>.mp nd
      rw [List.perm_iff_count]
      intro z
      simp only [List.count_append, List.count_nil]
      omega
    · intro H' χd χv σ' lχ w'
      obtain ⟨F1, t, G', u1, u2, u3, nd2⟩ := w'.last lχ
      obtain ⟨v1, v2, f1, f2, ee, rfl, p1, p2⟩ := u1.split
      obtain ⟨e2, e3⟩ := List.append_inj' ee (by rw [← p2.length, List.length_append, List.length_append, t1.length]; rfl)
      subst e2 e3
      obtain ⟨v3, v4, f3, f4, ee2, rfl, p3, p4⟩ := p2.split
      obtain ⟨e4, e5⟩ := List.append_inj' ee2 (by rw [← p4.length]; rfl)
      subst e4 e5
      have s3 := t2 H' f3 p3
      obtain ⟨x4, ex, rx⟩ := p4.one_inv
      cases ex
      have hc' : H' c' = some (CodeO c' q) := by
        cases rx with | lam h _ => exact h
      have rnew : RepD K mg H' (.lam f c' q (sV σ' τ) (sD σ')) (.ref f) G' := .lam hc' u3.toL.1
      have hl : 0 < (σd.set 0 none).length := by
        rw [List.length_set]
        exact (List.getElem?_eq_some_iff.mp e1).1
      obtain ⟨a, b, c, ea, s4⟩ := s3.set 0 rnew hl
      rw [List.set_set] at s4
      have evs : σv.set 0 (some (V.ref f)) = σv := by
        obtain ⟨hi, e2⟩ := List.getElem?_eq_some_iff.mp ev
        rw [← e2]; exact List.set_getElem_self hi
      rw [evs] at s4
      subst ea
      refine ⟨f1 ++ t, a ++ G' ++ c, p1.append u2, s4, ?_⟩
      have : (f1 ++ t ++ (a ++ G' ++ c) ++ (b ++ f4)).Nodup := by
        refine List.Perm.nodup_iff ?_ |>.mp nd2
        rw [List.perm_iff_count]
        intro z
        simp only [List.count_append]
        omega
      exact List.Nodup.sublist (List.sublist_append_left _ _) this
end
theorem le_act {Zt : Cx} {W : WX} {f c' : Addr} {q a : Str} {τ : L2.St} {σ0 : En} {fb : EF} {p1 p2 : Pos} (hp : ∃ H g, RepS Zt.K Zt.mg H σ0 τ g)
    (act : PE Zt (.Call (.Name a p1) [] [] p2) (fun σZ HZ Q => σZ[0]? = some (some (.ref f)) ∧ HZ c' = some (CodeO c' q) ∧ TEd Zt.K Zt.mg (WB (WE W σZ)) fb τ HZ Q)) : LE Zt W (.Call (.Name a p1) [] [] p2) (eLam f c' q τ σ0 fb) := PE.imp act fun σ H Q ⟨φd, φv, σd, w, qq⟩ => by
  unfold eLam at qq
  split at qq
  · rename_i e
    obtain ⟨h1, h2, ψd, ψv, lψ, w1, back⟩ := w.lamIn hp e
    refine ⟨h1, h2, _, _, σ0, w1, ?_⟩
    revert qq
    cases fb σ0 with
    | err => exact id
    | exc c ks vs σ' =>
      intro qq C dd H' w2 x
      have := back H' [] [] σ' rfl (by simpa using w2)
      exact qq C dd H' (by simpa using this) x
    | ok h σ' =>
      cases h with
      | val d =>
        intro qq x H' w2
        exact qq x H' (WdH.val (back H' [d] [x] σ' rfl w2.wd))
      | sl k =>
        intro qq x H' w2
        dsimp only at qq
        split at qq
        · rename_i d ed
          split at qq
          · rename_i hz
            obtain ⟨v, f0, ev, rd⟩ := w2.out.slot (sget_some ed)
            have hx := w2.at_ 0 k x rfl rfl
            rw [hx] at ev
            cases ev
            have := rd.fz hz
            subst this
            exact qq x H' (WdH.val (back H' [d] [x] σ' rfl (w2.out.push rd)))
          · exact qq.elim
        · exact qq.elim
  · exact qq.elim
open Classical in
/-- x(lambda: e): H0 tells what x makes of it; the maker's table of code objects is told of in its slot tt -/
noncomputable def eLamC (P : Addr) (q : Str) (tt : Nat) (H0 : EF → EF) (fb : EF) : EF := fun σ => if sget σ tt = some (.tab P q) then
    match H0 fb σ with
    | .ok (.val d) σ' => .ok (.val d) σ'
    | _ => .err
  else .err
/-- how the def that calls ends -/
def LamEnd (f c' : Addr) (q : Str) (τ : L2.St) (σ0 : En) (r : OutS) (o : Out Hd) : Prop := ∀ d σ', o = .ok (.val d) σ' → patB σ' σ0 = true ∧ ∃ rest, r = .rt d (some (.lam f c' q (sV σ' τ) (sD σ')) :: rest) ∨ (d = .non ∧ r = .nx (some (.lam f c' q (sV σ' τ) (sD σ')) :: rest))
section
variable {X : Cx} {W : WX} {P : Addr} {q : Str} {H0 : EF → EF} {fb : EF}
def TTd' (K : PySem.W.Frag) (mg : Str → Option Value) (H0 : EF → EF) (fb : EF) : (XK → Hp → VK → Prop) → Hp → VK → Prop := fun tl H Q => ∃ τ φd φv σ0, (∀ E H Q, TEd K mg (WB E) fb τ H Q → tl E H Q) ∧ Wd K mg H φd φv σ0 τ ∧
  ∃ d σ', H0 fb σ0 = .ok (.val d) σ' ∧ ∀ x H', Wd K mg H' (φd ++ [d]) (φv ++ [x]) σ' τ → Q x H'
theorem gives_of {k kk : Nat} {Ng : List Str} {x a : Str} {sg : Scope} {g : Addr} {cdg : Value} {bg : List Stmt} {B : Nat → Bool} (bodyG : Addr → Addr → L2.St → En → SF) (hkk : Ng.length = kk + 1)
    (hder : ∀ (f c' : Addr) (τ : L2.St) (σ0 : En) (s : Shared) (H : Hp), RoomG k (X.A.deeper (envOfC x sg s.heap.objs.size g cdg)) →
      (∀ (W : WX) (pn : List (Addr × Obj)) (xe : Value → Shared → Prop) (p1 p2 : Pos), Takes ((cxOf C8.CX0 X.prog X.w X.K X.mg X.base Ng x sg g cdg X.A X.stack s H C8.E0).tr pn xe) W →
        LE ((cxOf C8.CX0 X.prog X.w X.K X.mg X.base Ng x sg g cdg X.A X.stack s H C8.E0).tr pn xe) W (.Call (.Name a p1) [] [] p2) (eLam f c' q τ σ0 fb)) →
      LSs (cxOf C8.CX0 X.prog X.w X.K X.mg X.base Ng x sg g cdg X.A X.stack s H C8.E0).nox W0 B bg (bodyG f c' τ σ0))
    (hend : ∀ (f c' : Addr) (τ : L2.St) (σ0 : En), LamEnd f c' q τ σ0 (bodyG f c' τ σ0 (some (.lam f c' q (sV σ0 τ) (sD σ0)) :: List.replicate kk none)) (H0 fb σ0)) :
    GivesP X k Ng x sg g cdg bg a q (TTd' X.K X.mg H0 fb) := by
  intro f c' s H Q tl hr act hc ⟨τ, φd, φv, σ0, htl, w, d, σ', eH, hQ⟩
  obtain ⟨F, G, r, rs, nd⟩ := id w
  have hp : ∃ H g, RepS X.K X.mg H σ0 τ g := ⟨H, G, rs⟩
  refine ⟨_, hder f c' τ σ0 s H hr (fun W pn xe p1 p2 tk => le_act hp (PE.imp (act W pn xe p1 p2 tk) fun σZ HZ Q' ⟨h1, h2, h3⟩ => ⟨h1, h2, htl _ _ _ h3⟩)), ?_⟩
  have st : L2.start Ng [.ref f] = some (.ref f) :: List.replicate kk none := by
    unfold L2.start
    rw [hkk]; rfl
  rw [st]
  have nn : ∀ k, RepS X.K X.mg H (List.replicate k none) (List.replicate k none) [] := fun k => by
    induction k with
    | zero => exact .nil
    | succ k ih => exact .non _ ih
  refine ⟨φd, φv, _, ⟨F, G ++ [], r, .som (.lam hc rs.toL.1) (nn kk), by simpa using nd⟩, ?_⟩
  obtain ⟨pt, rest, e | ⟨rfl, e⟩⟩ := hend f c' τ σ0 d σ' eH
  · rw [e]
    intro v σ2 H2 sb w2
    refine hQ v H2 ?_
    obtain ⟨F2, t2, G2, r2, r2', s2, nd2⟩ := w2.last rfl
    cases s2 with
    | som h r3 =>
      rename_i vv ff gg rr
      cases h with
      | lam hc2 rl =>
        have s4 := patB_rep pt rs rl
        refine Wd.of_last r2 r2' s4 (List.Nodup.sublist ?_ nd2)
        exact List.Sublist.append_left (List.Sublist.append_left (List.sublist_append_left _ _) _) _
  · rw [e]
    intro σ2 H2 sb w2
    refine hQ .non H2 ?_
    obtain ⟨F2, G2, r2, s2, nd2⟩ := w2
    cases s2 with
    | som h r3 =>
      rename_i vv ff gg rr
      cases h with
      | lam hc2 rl =>
        have s4 := patB_rep pt rs rl
        have w3 : Wd X.K X.mg H2 φd φv σ' τ := ⟨F2, ff, r2, s4, List.Nodup.sublist (List.Sublist.append_left (List.sublist_append_left _ _) _) nd2⟩
        exact w3.push .non
/-- all but one table stays -/
theorem Wd.extP {K mg} {H H1 : Hp} {φd : List D} {φv : List V} {σd : En} {σv : L2.St} {tt : Nat} (w : Wd K mg H φd φv σd σv) (e : sget σd tt = some (.tab P q)) (x : ExtP P H H1) (t1 : TabS H1 P q) : Wd K mg H1 φd φv σd σv := by
  obtain ⟨F, G, r, s, nd⟩ := w
  obtain ⟨v, p, m, sx, ev, eG, rd, k1, _⟩ := s.at (sget_some e)
  subst eG
  cases rd with
  | tab h =>
    obtain ⟨ps, hP, _⟩ := h
    have nP : ∀ b o, H b = some o → (∀ ps, o ≠ .tbl ps) → b ≠ P := fun b o e n z => by
      rw [z, hP] at e
      exact n ps (Option.some.inj e).symm
    have st : Stp H H1 := ⟨fun b _ e => x b _ (nP b _ e (fun ps z => by cases z)) e, fun b _ _ e => x b _ (nP b _ e (fun ps z => by cases z)) e, fun b _ e => x b _ (nP b _ e (fun ps z => by cases z)) e, fun b _ e => x b _ (nP b _ e (fun ps => codeO_ne ps)) e⟩
    have nd2 : (P :: (F ++ (p ++ sx))).Nodup := by
      refine List.Perm.nodup_iff ?_ |>.mp nd
      rw [List.perm_iff_count]
      intro z
      simp only [List.count_append, List.count_cons, List.count_nil]
      omega
    obtain ⟨na, _⟩ := List.nodup_cons.mp nd2
    have kF : ∀ b ∈ F, H1 b = H b := fun b hb => by
      obtain ⟨o, eo⟩ := r.there _ b hb
      rw [eo]
      exact x b o (fun z => na (by rw [← z]; simp [hb])) eo
    have thS : ∀ b ∈ p ++ sx, ∃ o, H b = some o := fun b hb => by
      refine s.there b ?_
      simp at hb ⊢
      rcases hb with hb | hb <;> simp [hb]
    have kS : ∀ b ∈ p ++ sx, H1 b = H b := fun b hb => by
      obtain ⟨o, eo⟩ := thS b hb
      rw [eo]
      exact x b o (fun z => na (by rw [← z]; exact List.mem_append_right _ hb)) eo
    have s2 := k1 H1 (.tab P q) (.ref P) [P] st kS (.tab t1)
    have e1 : σd.set tt (some (.tab P q)) = σd := by
      obtain ⟨hi, e2⟩ := List.getElem?_eq_some_iff.mp (sget_some e)
      rw [← e2]; exact List.set_getElem_self hi
    have e2 : σv.set tt (some (.ref P)) = σv := by
      obtain ⟨hi, e2⟩ := List.getElem?_eq_some_iff.mp ev
      rw [← e2]; exact List.set_getElem_self hi
    rw [e1, e2] at s2
    exact ⟨F, p ++ [P] ++ sx, r.mono st _ kF, s2, nd⟩
theorem le_lam {x a : Str} {g c : Addr} {k kk tt : Nat} {pg : Arguments} {bg : List Stmt} {sg : Scope} {dV kV doc pm cdv ct oc : Value} {an od : Option Addr} {osl : Array (Option Value)} {Ng : List Str}
    {params : Arguments} {body : Expr} {scope : Scope} {p lpos pos : Pos} (hg : Gl X x) (hm : X.mg x = some (.ref g)) (hk : PySem.W.keepIn X.K (.ref g) = true)
    (lk : X.K.lookup g = some ⟨oc, od, .func (PySem.W.fnOf x x pg bg sg dV kV doc pm an cdv ct), osl⟩) (hcg : PySem.W.codeIn X.K cdv x = true) (hb : L2.Binds X.K (PySem.W.fnOf x x pg bg sg dV kV doc pm an cdv ct) [a] []) (Sg : FnScope Ng [a] sg) (hNg : Ng[0]? = some a) (hva : Vis sg a)
    (hG : GivesP X (k + 1) Ng x sg g cdv bg a q (TTd' X.K X.mg H0 fb))
    (TB : TabB X.base X.mg c P) (hcode : X.env.code = .ref c) (hq : q = X.env.qual ++ "<lambda>") (hr : RoomG (k + 2) X.A) (L : LamS X.env.scope scope) (hdef : defaultsOf params X.env = ([], []))
    (hbind : ∀ (q : Str) (cl : List (Str × Addr)) (pm cv ctv : Value), bindArgs (PySem.W.kla_fn "<lambda>" q params body scope cl pm cv ctv) ⟨[], []⟩ = pure [])
    (hbody : ∀ (A : Around) (outer : List Env) (s : Shared) (H : Hp) (E : XK) (f c' : Addr), RoomG k (A.deeper (lamEnv X scope s.heap.objs.size f c')) → LE (lamCx X A outer s H E scope f c') (WB E) body fb)
    (hdb : (x == ("__debug__" : Str)) = false := by decide) (hd : (a == ("__debug__" : Str)) = false := by decide) (hcd : (a == ("__classdict__" : Str)) = false := by decide) :
    LE X W (.Call (.Name x p) [.Lambda params body scope lpos] [] pos) (eLamC P q tt H0 fb) :=
  PE.imp (pe_lamP (t := fun E => TEd X.K X.mg (WB E) fb) hg hm hk lk hcg hb Sg hNg hva hG TB hcode hq hr L hdef hbind hbody hdb hd hcd) fun σ H Q ⟨φd, φv, σd, w, qq⟩ => by
    unfold eLamC at qq
    split at qq
    · rename_i e
      obtain ⟨v, f0, ev, rd⟩ := w.slot (sget_some e)
      cases rd with
      | tab hT =>
        refine ⟨hT, fun H1 x1 t1 => ⟨σ, φd, φv, σd, fun E H Q h => h, w.extP e x1 t1, ?_⟩⟩
        revert qq
        cases H0 fb σd with
        | err => exact fun qq => qq.elim
        | exc c ks vs σ' => exact fun qq => qq.elim
        | ok h σ' =>
          cases h with
          | sl i => exact fun qq => qq.elim
          | val d => exact fun qq => ⟨d, σ', rfl, fun y H' w' => qq y H' (WdH.val w')⟩
    · exact qq.elim
end
end DL
namespace PySem.W
open PySem PySem.Spec PySem.Calls PyProof.Rows PySem.SeqAt
section
variable {M : Model} {prog : Program} {w : World} {A : Around} {E : Value → Shared → Prop} {s : Shared} {K : Frag} {x y C f : Addr} {ox : Obj} {od : Option Obj}
theorem ifBound_bi {id : String} {nm : Str} (sl : ∀ v : Value, bindSpecial (.builtin id) v = pure (.builtin id, [v])) {args : List Value} {Q : Option Value → Shared → Prop} (X : K.In s.heap) (I : InstAt s.heap x ox C od) (hs : findIn K (.ref C) nm = some (some (.builtin id)))
    (h : wpAny M A (call (.builtin id) (.ref x :: args)) (fun v => Q (some v)) E s) : wpAny M A (callSpecialIfBound? (.ref x) nm args) Q E s := by
  simp only [callSpecialIfBound?, bindSpecialIfBound?]
  refine wpAny_holding (wpAny_bind (wpAny_bind (wpAny_bind (I.type.here ((looks_findIn X hs).here ?_)))))
  refine wpAny_bind (wpAny_askSetting (wpAny_ite ?_))
  have fin : wpAny M A (call (.builtin id) ([.ref x] ++ args) >>= fun v => pure (some v)) Q E s := wpAny_bind (wpAny_mono h (fun v s' h' => wpAny_pure h') fun _ _ h' => h')
  split
  · exact wpAny_bind (wpAny_of_eq (sl _) (wpAny_pure (by exact fin)))
  · exact wpAny_tryCatch (wpAny_bind (wpAny_of_eq (sl _) (wpAny_pure (by exact fin))))
theorem entry_neK (hu : A.units < cLine) (X : K.In s.heap) (I : InstAt s.heap x ox C od) (he : findIn K (.ref C) "__eq__" = some (some (.ref f))) (hf : isFn K (.ref f) = true) {b : Value} {Q : Fin → Shared → Prop}
    (hcall : wpAny (model prog w) A (call (.ref f) [.ref x, b]) (fun v s' => ∃ k, v = .bool k ∧ Q (.done (.ret (.bool (!k)))) s') E s) :
    wpAny (model prog w) A (Builtin.«object.__ne__» ⟨[.ref x, b], []⟩) Q E s := by
  unfold Builtin.«object.__ne__»
  repeat (first
    | with_reducible refine wpAny_cRoomFor hu ?_
    | (refine wpAny_bind (m := callSpecialIfBound? (.ref x) (Str.ofString "__eq__") [b])
        (ifBound_K X I he hf (wpAny_mono hcall (fun r s' hr => by
          obtain ⟨k, rfl, hq⟩ := hr
          repeat (first | exact hq | exact wpAny_pure hq | exact wpAny_truthy_bool hq | (refine wpAny_bind (m := truthy (.bool _)) (wpAny_truthy_bool ?_)) | wp_step)) fun _ _ e => e)))
    | wp_step)
theorem rc_neK (hu : A.units + 1 < cLine) (X : K.In s.heap) (I : InstAt s.heap x ox C od) {oy : Obj} {od' : Option Obj} (J : InstAt s.heap y oy C od') (hm : mroIn K C (.type "object") = some true) (hs : findIn K (.ref C) "__ne__" = some (some (.builtin "object.__ne__")))
    (he : findIn K (.ref C) "__eq__" = some (some (.ref f))) (hf : isFn K (.ref f) = true) {Q : Value → Shared → Prop}
    (hcall : wpAny (model prog w) A.in1 (call (.ref f) [.ref x, .ref y]) (fun v s' => ∃ b, v = .bool b ∧ Q (.bool (!b)) s') E s) :
    wpAny (model prog w) A (richCompare .NotEq (.ref x) (.ref y)) Q E s := by
  have one : wpAny (model prog w) A (tryCompare (.ref x) "__ne__" (.ref y)) (fun r s' => ∃ b, r = some (.bool b) ∧ Q (.bool b) s') E s := by
    unfold tryCompare
    refine wpAny_bind (ifBound_bi (id := "object.__ne__") (fun v => F.cmp_object.ne.bind v) X I hs (wpAny_call (codeAny_call_builtin F.cmp_object.ne.plain F.cmpEntry_ne (check_slot F.cmpKind_ne F.cmpSplit_ne (I.type.andThen (looks_mroIn X hm)) (F.cmpArgs_ne _ _)
      (entry_neK (A := A.in1) (by simpa using hu) X I he hf (wpAny_mono hcall (fun v s' hv => ?_) fun _ _ e => e))))))
    obtain ⟨b, rfl, hq⟩ := hv
    exact ⟨b, rfl, wpAny_pure ⟨!b, rfl, hq⟩⟩
  unfold richCompare
  simp only [oneThing_ref]
  refine wpAny_holding ?_
  refine wpAny_bind (wpAny_cRoomFor (Nat.lt_of_succ_lt hu) ?_)
  rw [cmpInfo_NotEq]
  dsimp only
  refine wpAny_bind (I.type.here (wpAny_bind (J.type.here ?_)))
  rw [show (Value.ref C != Value.ref C) = false from by simp]
  simp only [Bool.false_eq_true, if_false]
  refine wpAny_bind (wpAny_pure ?_)
  simp only [Bool.false_eq_true, if_false]
  refine wpAny_bind (wpAny_mono one (fun r s' hr => ?_) fun _ _ e => e)
  obtain ⟨b, rfl, hq⟩ := hr
  exact wpAny_pure hq
end
end PySem.W
namespace DL
open PySem PySem.Spec PyProof.Rows L2
/-- how a class of the text has its own == -/
structure EqC (K : PySem.W.Frag) (C f : Addr) : Prop where
  eq : PySem.W.findIn K (.ref C) "__eq__" = some (some (.ref f))
  fn : PySem.W.isFn K (.ref f) = true
  ne : PySem.W.findIn K (.ref C) "__ne__" = some (some (.builtin "object.__ne__"))
  hm : PySem.W.mroIn K C (.type "object") = some true
def rEqI (C : Addr) (sp : Sp) (neg : Bool) : R2 := fun x y H Q => ∃ a b dx dy fs gs, x = .ref a ∧ y = .ref b ∧ Rd H a (.ins C dx fs) ∧ Rd H b (.ins C dy gs) ∧ sp [x, y] H (fun v H' => ∃ k, v = .bl k ∧ Q (.bl (if neg then !k else k)) H') (fun _ _ _ => False)
section
variable {X : Cx} {k : Nat} {C f : Addr} {fd : FuncData} {ps : List Str} {sp : Sp}
theorem inst_of {pins : List (Addr × Obj)} {σ : L2.St} {H : Hp} {s : Shared} {a dx : Addr} {fs : List (Str × V)} (I : Inv X pins σ H s) (h : Rd H a (.ins C dx fs)) : ∃ ox od, PySem.W.InstAt s.heap a ox C od := by
  obtain ⟨mA, O, _⟩ := ins_getR I.hok h
  obtain ⟨od, J, _⟩ := O.look
  exact ⟨_, _, J⟩
theorem run_eq {A : Around} {pins : List (Addr × Obj)} {σ : L2.St} {H : Hp} {s : Shared} {a b : Addr} {Q : V → Hp → Prop} (F : FnG X.prog X.w X.K X.mg X.base (L2.CX X.prog X.w) k f fd ps sp) (hb : Binds X.K fd ps []) (hr : RoomG k A) (hf : A.frames = X.A.frames)
    (I : Inv X pins σ H s) (hs : sp [.ref a, .ref b] H Q (fun _ _ _ => False)) : wpAny (model X.prog X.w) A (call (.ref f) [.ref a, .ref b]) (EP X pins σ Q) X.xe s := by
  have hl := F.len _ _ _ _ hs
  have r2 : Vals [V.ref a, V.ref b] [Value.ref a, Value.ref b] := .cons rfl (.cons rfl .nil)
  have e0 : Env0 X.prog X.w X.K X.mg X.base A X.stack s H := by
    have e := I.env0
    exact ⟨by rw [hf]; exact e.frames, e.mod, e.bs, e.bsz, e.funs, e.frf, e.hok, e.bare⟩
  refine wpAny_call (codeAny_mono (F.run A X.stack s H ⟨[.ref a, .ref b], []⟩ [.ref a, .ref b] [.ref a, .ref b] _ _ hr e0 (by
    have := hb s [.ref a, .ref b] I.kIn (by simpa using hl)
    simpa using this) r2 hs) fun r s' hq => ?_)
  cases r with
  | error e => exact passL pins σ H s e s' I hq
  | ok fl =>
    cases fl with
    | ret w => exact I.after hq
    | next => exact False.elim hq
    | brk => exact False.elim hq
    | cont => exact False.elim hq
theorem op_eqI (T : EqC X.K C f) (F : FnG X.prog X.w X.K X.mg X.base (L2.CX X.prog X.w) k f fd ps sp) (hb : Binds X.K fd ps []) (hr : RoomG k X.A) : OpR X (compareOp .Eq) (rEqI C sp false) := by
  intro pins s σ H x y v u Q I rx ry ⟨a, b, dx, dy, fs, gs, ex, ey, ha, hb', hs⟩
  subst ex ey
  cases rx
  cases ry
  obtain ⟨ox, od, J⟩ := inst_of I ha
  obtain ⟨oy, od', J'⟩ := inst_of I hb'
  obtain ⟨m, hF⟩ := I.fr
  show wpAny (model X.prog X.w) X.A (richCompare .Eq (.ref a) (.ref b)) (EP X pins σ Q) X.xe s
  refine PySem.W.cmp_K (op := .Eq) (tb := .ref C) hr.units0 hF I.ok.mod.kin J J'.type (by simp [PySem.W.notFirst]) T.eq T.fn ?_
  refine wpAny_mono (run_eq F hb hr rfl I hs) (fun r s' hq => ?_) fun _ _ e => e
  obtain ⟨z, H', I', rz, kk, ez, q⟩ := hq
  subst ez
  cases rz
  exact ⟨.bl kk, H', I', rfl, q⟩
theorem op_neI (T : EqC X.K C f) (F : FnG X.prog X.w X.K X.mg X.base (L2.CX X.prog X.w) k f fd ps sp) (hb : Binds X.K fd ps []) (hr : RoomG (k + 1) X.A) : OpR X (compareOp .NotEq) (rEqI C sp true) := by
  intro pins s σ H x y v u Q I rx ry ⟨a, b, dx, dy, fs, gs, ex, ey, ha, hb', hs⟩
  subst ex ey
  cases rx
  cases ry
  obtain ⟨ox, od, J⟩ := inst_of I ha
  obtain ⟨oy, od', J'⟩ := inst_of I hb'
  show wpAny (model X.prog X.w) X.A (richCompare .NotEq (.ref a) (.ref b)) (EP X pins σ Q) X.xe s
  refine PySem.W.rc_neK (hu_of hr.toRoom) I.kIn J J' T.hm T.ne T.eq T.fn ?_
  refine wpAny_mono (run_eq F hb hr.in1 (by simp) I hs) (fun r s' hq => ?_) fun _ _ e => e
  obtain ⟨z, H', I', rz, kk, ez, q⟩ := hq
  subst ez
  cases rz
  exact ⟨kk, rfl, .bl (!kk), H', I', rfl, q⟩
end
def dEqI (c : Str) (m : MF) (neg : Bool) : D → D → Option D
  | .ins o n ks vs, .ins o' n' ks' vs' => if n = c ∧ n' = c ∧ o = false ∧ o' = false then (match m [.ins o n ks vs, .ins o' n' ks' vs'] with
    | .ret (.bl k) _ => some (.bl (if neg then !k else k))
    | _ => none) else none
  | _, _ => none
theorem opd_eqI {K mg} {c : Str} {m : MF} {neg : Bool} {C : Addr} (hc : mg c = some (.ref C)) : OpD K mg (dEqI c m neg) (rEqI C (spM K mg 2 m) neg) := by
  intro H x y a b d f g φd φv σd σv Q ra rb e w k
  unfold dEqI at e
  split at e
  · split at e
    · rename_i hh
      obtain ⟨rfl, rfl, rfl, rfl⟩ := hh
      split at e
      · rename_i ds' em
        cases e
        have hfa := ra.fz rfl
        have hfb := rb.fz rfl
        subst hfa hfb
        obtain ⟨p, C1, dx, fs, _, rfl, r1, c1, q1, _⟩ := id ra.ins_inv
        obtain ⟨p2, C2, dx2, fs2, _, rfl, r2, c2, q2, _⟩ := id rb.ins_inv
        rw [hc] at c1 c2
        cases c1
        cases c2
        refine ⟨p, p2, dx, dx2, fs, fs2, rfl, rfl, r1, r2, rfl, ?_⟩
        -- the two instances as arguments
        obtain ⟨F, G, rr, ss, nd⟩ := id w
        have rl : RepL K mg H [_, _] [_, _] ([] ++ ([] ++ [])) := RepL.cons ra (RepL.cons rb .nil)
        have w2 := w.pushL (ds := [_, _]) (vs := [V.ref p, V.ref p2]) (by simpa using rl)
        obtain ⟨w3, back⟩ := w2.enter rfl
        refine ⟨_, _, _, w3, ?_⟩
        rw [em]
        intro z H' w4
        have w5 := back H' [_] [z] ds' rfl w4
        have l5 : ds'.length = 2 := by have := w4.length.2; simpa using this
        have w6 := w5.drop (by simpa using l5)
        have hz := w6.lastRep rfl
        cases hz
        refine ⟨_, rfl, k _ H' ?_⟩
        exact (w6.drop rfl).push (.bl _)
      · cases e
    · cases e
  · cases e
/-- two ways to reckon one operator -/
def dOr (o1 o2 : D → D → Option D) : D → D → Option D := fun a b => match o1 a b with
  | some d => some d
  | none => o2 a b
theorem opd_orE {K mg} {o1 o2 : D → D → Option D} {r1 r2 : R2} (h1 : OpD K mg o1 r1) (h2 : OpD K mg o2 r2) : OpD K mg (dOr o1 o2) (fun x y H Q => r1 x y H Q ∨ r2 x y H Q) := by
  intro H x y a b d f g φd φv σd σv Q ra rb e w k
  unfold dOr at e
  split at e
  · rename_i d' e1
    cases e
    exact .inl (h1 H x y a b _ f g φd φv σd σv Q ra rb e1 w k)
  · exact .inr (h2 H x y a b d f g φd φv σd σv Q ra rb e w k)
/-! ### {k: v} -/
def keyOf : D → Option Key
  | .int i => some (.inl i)
  | .str s => some (.inr s)
  | _ => none
theorem keyOf_rep {K mg} {H : Hp} {d : D} {v : V} {f : List Addr} {k : Key} (r : RepD K mg H d v f) (e : keyOf d = some k) : v = kV k ∧ f = [] := by
  unfold keyOf at e
  split at e
  · cases e; cases r; exact ⟨rfl, rfl⟩
  · cases e; cases r; exact ⟨rfl, rfl⟩
  · cases e
def eDisp1 (fk fv : EF) : EF := fun σ => (fk σ).bind fun hk σ1 => (fv σ1).bind fun hv σ2 => match hk, hv with
  | .val k, .val v => match keyOf k with
    | some key => .ok (.val (.dct true [key] [v])) σ2
    | none => .err
  | _, _ => .err
section
variable {K : PySem.W.Frag} {mg : Str → Option Value} {H : Hp} {φd : List D} {φv : List V} {σd : En} {σv : L2.St}
theorem Wd.newDct {p : Addr} (w : Wd K mg H φd φv σd σv) (h : H p = none) : Wd K mg (upd H p (.dK [])) (φd ++ [.dct true [] []]) (φv ++ [.ref p]) σd σv := by
  obtain ⟨f, g, r1, s1, nd⟩ := w
  have st : Stp H (upd H p (.dK [])) := Stp.fresh h
  have keep : ∀ b o, H b = some o → upd H p (.dK []) b = H b := fun b o e => upd_ne (ne_of_none e h)
  refine ⟨f ++ [p], g, (r1.mono st _ fun b hb => let ⟨o, e⟩ := r1.there _ b hb; keep b o e).append (.one (.dctO (kvs := []) upd_same .nil)), s1.mono st fun b hb => let ⟨o, e⟩ := s1.there b hb; keep b o e, ?_⟩
  have np : p ∉ f ++ g := fun z => by
    rcases List.mem_append.mp z with z | z
    · obtain ⟨o, e⟩ := r1.there _ p z; rw [h] at e; cases e
    · obtain ⟨o, e⟩ := s1.there p z; rw [h] at e; cases e
  have : (p :: (f ++ g)).Nodup := List.nodup_cons.mpr ⟨np, nd⟩
  refine List.Perm.nodup_iff ?_ |>.mp this
  rw [List.perm_iff_count]
  intro z
  simp only [List.count_append, List.count_cons, List.count_nil]
  omega
end
theorem le_disp1 {X : Cx} {W : WX} {k v : Expr} {fk fv : EF} {pos : Pos} (hk : LE X W k fk) (hv : LE X W v fv) : LE X W (.Dict [some k] [v] pos) (eDisp1 fk fv) :=
  PE.imp (pe_disp (pps_cons hk hv pps_nil) rfl rfl (by simp) (by simp)) fun σ H Q ⟨φd, φv, σd, w, q⟩ => by
    intro p hp
    obtain ⟨φd1, φv1, σd1, w1, q1⟩ := ted_step (hs := [.val (.dct true [] [])]) (xs := [.ref p]) (WdH.val (w.newDct hp)) q
    refine ⟨φd1, φv1, σd1, w1, q1.mono (fun h1 σ1 kk y H1 w1 => ?_) fun _ _ _ _ q => q⟩
    obtain ⟨h', σ', w', q'⟩ := kk y H1 w1
    obtain ⟨φd2, φv2, σd2, w2, q2⟩ := ted_step w' q'
    refine ⟨φd2, φv2, σd2, w2, q2.mono (fun h2 σ2 k2 z H2 w2 => ?_) fun _ _ _ _ q => q⟩
    obtain ⟨h'', σ'', w'', q''⟩ := k2 z H2 w2
    split at q''
    · rename_i kd vd
      split at q''
      · rename_i key ek
        have w3 : Wd X.K X.mg H2 (φd ++ [.dct true [] [], kd, vd]) (φv ++ [.ref p, y, z]) σ'' σ := w''.wd
        obtain ⟨F, t, G, r1, r2, s, nd⟩ := w3.last rfl
        cases r2 with
        | cons ra rb =>
          cases rb with
          | cons rk rc =>
            obtain ⟨vv, evv, rv⟩ := rc.one_inv
            cases evv
            obtain ⟨rfl, rfl⟩ := keyOf_rep rk ek
            generalize ekk : ([] : List Key) = kk0 at ra
            cases ra with
            | dctO h r =>
              rename_i kvs fp
              have ek0 : kvs = [] := List.map_eq_nil_iff.mp ekk.symm
              subst ek0
              cases r
              rename_i gv
              refine ⟨h, [(key, z)], rfl, by simp, q'' _ _ (WdH.val ?_)⟩
              have st : Stp H2 (upd H2 p (.dK (mergeK [] [(key, z)]))) := Stp.dK h
              have nd2 : (p :: (F ++ gv ++ G)).Nodup := by
                refine List.Perm.nodup_iff ?_ |>.mp nd
                rw [List.perm_iff_count]
                intro z
                simp only [List.count_append, List.count_cons, List.count_nil]
                omega
              obtain ⟨np, _⟩ := List.nodup_cons.mp nd2
              have keep : ∀ b, b ∈ F ++ gv ++ G → upd H2 p (.dK (mergeK [] [(key, z)])) b = H2 b := fun b hb => upd_ne fun e => np (e ▸ hb)
              refine Wd.of_last (r1.mono st _ fun b hb => keep b (by simp [hb])) (.one (.dctO (kvs := [(key, z)]) upd_same (.one (rv.mono st _ fun b hb => keep b (by simp [hb]))))) (s.mono st fun b hb => keep b (by simp [hb])) ?_
              refine List.Perm.nodup_iff ?_ |>.mp nd2
              rw [List.perm_iff_count]
              intro z
              simp only [List.count_append, List.count_cons]
              omega
      · exact q''.elim
    · exact q''.elim
end DL
namespace DL
open PySem PySem.Spec PyProof.Rows L2
theorem aLen_nil : ∀ (σ : En) (hs : List Hd) (σ' : En), aNil σ = .ok hs σ' → hs.length = 0 := fun σ hs σ' e => by
  cases e; rfl
theorem aLen_cons {n : Nat} {f : EF} {g : AF} (h : ∀ (σ : En) (hs : List Hd) (σ' : En), g σ = .ok hs σ' → hs.length = n) : ∀ (σ : En) (hs : List Hd) (σ' : En), aCons f g σ = .ok hs σ' → hs.length = n + 1 := fun σ hs σ' e => by
  unfold aCons at e
  cases ef : f σ with
  | err => rw [ef] at e; cases e
  | exc c ks vs σ1 => rw [ef] at e; cases e
  | ok x σ1 =>
    rw [ef] at e
    simp only [Out.bind_ok] at e
    cases eg : g σ1 with
    | err => rw [eg] at e; cases e
    | exc c ks vs σ2 => rw [eg] at e; cases e
    | ok xs σ2 =>
      rw [eg] at e
      simp only [Out.bind_ok] at e
      cases e
      rw [List.length_cons, h _ _ _ eg]
end DL
namespace DL
open PySem PySem.Spec PyProof.Rows L2 LamX

/-- a slot whose name no scope shows holds what one likes -/
theorem pss_dummy {X : Cx} {st : List Stmt} {t : TS} {tt : Nat} {x : Str} (hN : X.N[tt]? = some x) (hv : ¬ Vis X.env.scope x) (v : V) (h : PSs X st t) : PSs X st (fun D σ H => t D (σ.set tt (some v)) H) := by
  refine ⟨fun pins s σ H D I q => h.run pins s _ H D ?_ q⟩
  obtain ⟨m, hm, hl⟩ := I.loc
  refine { I with loc := ⟨m, hm, fun i y u ey eu vis => ?_⟩, len := by rw [List.length_set]; exact I.len }
  by_cases hi : i = tt
  · subst hi
    rw [hN] at ey
    cases ey
    exact absurd vis hv
  · rw [List.getElem?_set_ne (fun z => hi z.symm)] at eu
    exact hl i y u ey eu vis
/-- the law's promise: script, kk further slots, the table -/
def spLaw (K : PySem.W.Frag) (mg : Str → Option Value) (P : Addr) (q : Str) (kk : Nat) (body : SF) : Sp := fun vs H Q _ => ∃ a d, vs = [.ref a] ∧
  Wd K mg H [] [] (some d :: (List.replicate kk none ++ [some (.tab P q)])) (some (.ref a) :: (List.replicate kk none ++ [some (.ref P)])) ∧
  (∃ σ', body (some d :: (List.replicate kk none ++ [some (.tab P q)])) = .rt (.bl true) σ') ∧ ∀ H', Q (.bl true) H'
section
variable {P : Program} {w : World} {K : PySem.W.Frag} {mg : Str → Option Value} {base : Heap}
theorem law_good {x qual : Str} {st : Stmt} {f c T : Addr} {N : List Str} {x1 tn q : Str} {k kk : Nat} {body : SF} {oc kV doc pm ct : Value} {od an : Option Addr} {osl : Array (Option Value)}
    (lk : K.lookup f = some ⟨oc, od, .func (PySem.W.fnOf x qual (defArgs st) (defBody st) (defScope st) .none kV doc pm an (.ref c) ct), osl⟩) (hcd : PySem.W.codeIn K (.ref c) qual = true)
    (S : FnScope N [x1] (defScope st)) (hN : N.length = kk + 2) (ht : N[kk + 1]? = some tn) (hv : ¬ Vis (defScope st) tn)
    (hbody : ∀ (A : Around) (outer : List Env) (s : Shared) (H : Hp) (E : XK), RoomG k (A.deeper (envOfC qual (defScope st) s.heap.objs.size f (.ref c))) →
      LSs (cxOf (L2.CX P w) P w K mg base N qual (defScope st) f (.ref c) A outer s H E) (WB E) (fun _ => false) (defBody st) body) :
    FnG P w K mg base (L2.CX P w) (k + 1) f (PySem.W.fnOf x qual (defArgs st) (defBody st) (defScope st) .none kV doc pm an (.ref c) ct) [x1] (spLaw K mg T q kk body) := by
  refine fn_ofG lk hcd S (fun vs H Q E h => ?_) fun A outer s H vs Q E hr h => ?_
  · obtain ⟨a, d, rfl, _⟩ := h
    rfl
  · obtain ⟨a, d, rfl, w0, ⟨σ', eb⟩, hq⟩ := h
    refine ⟨_, pss_dummy (tt := kk + 1) (x := tn) ht hv (.ref T) (hbody A outer s H E hr), ?_⟩
    have st0 : (L2.start N [V.ref a]).set (kk + 1) (some (.ref T)) = some (.ref a) :: (List.replicate kk none ++ [some (.ref T)]) := by
      unfold L2.start
      rw [hN]
      show ([some (V.ref a)] ++ List.replicate (kk + 2 - 1) none).set (kk + 1) _ = _
      rw [show kk + 2 - 1 = kk + 1 from rfl, List.replicate_succ']
      simp [List.set_append]
    show TSd K mg (WB E) (fun _ => false) body _ ((L2.start N [V.ref a]).set (kk + 1) (some (.ref T))) H
    rw [st0]
    refine ⟨[], [], _, w0, ?_⟩
    rw [eb]
    intro v τ H' _ w'
    obtain ⟨F, t, g, r1, r2, _⟩ := w'.last (φd := []) (φv := []) (ψd := [.bl true]) (ψv := [v]) rfl
    have : v = .bl true := by
      cases r2 with
      | cons h r => cases h; rfl
    subst this
    exact hq H'
/-- how the law begins -/
theorem law_start {H : Hp} {a T : Addr} {ns : List Int} {kk : Nat} {q : Str} (hS : SqL K H a (ns.map V.int)) (hT : H T = some (.tbl #[])) : ∃ d, (d = .scr ns ∨ d = .lst true (ns.map .int)) ∧
    Wd K mg H [] [] (some d :: (List.replicate kk none ++ [some (.tab T q)])) (some (.ref a) :: (List.replicate kk none ++ [some (.ref T)])) := by
  have tb : RepD K mg H (.tab T q) (.ref T) [T] := .tab ⟨#[], hT, by first | exact .nil | trivial | constructor, fun pos cv h => by simp [codeAmong] at h⟩
  have nn : ∀ k, RepS K mg H (List.replicate k none ++ [some (.tab T q)]) (List.replicate k none ++ [some (.ref T)]) [T] := fun k => by
    induction k with
    | zero => exact .som tb .nil
    | succ k ih => exact .non _ ih
  have scr : ScL K H a (ns.map V.int) → ∃ d, (d = .scr ns ∨ d = .lst true (ns.map .int)) ∧
    Wd K mg H [] [] (some d :: (List.replicate kk none ++ [some (.tab T q)])) (some (.ref a) :: (List.replicate kk none ++ [some (.ref T)])) := fun h =>
    ⟨.scr ns, .inl rfl, [], _, .nil, .som (.scr h) (nn kk), by simp⟩
  rcases hS with (h | ⟨o, h⟩) | h
  · refine ⟨.lst true (ns.map .int), .inr rfl, [], _, .nil, .som (.lstO h (RepL.ints _)) (nn kk), ?_⟩
    have ne : a ≠ T := fun z => by rw [z, hT] at h; cases h
    simp [ne]
  · exact scr (.inl ⟨o, h⟩)
  · exact scr (.inr h)
end
end DL
namespace DL
open PySem PySem.Spec PyProof.Rows L2

/-! ### repr of trees -/
def toR : D → Option PyData
  | .dct _ [] [] => some (.dict [])
  | d => toP d
def dRepr (d : D) : Option D := match toR d with
  | some p => if p.showable = true ∧ p.depth ≤ 64 ∧ p.shown.length ≤ 16777216 then some (.str p.shown) else none
  | none => none
mutual
theorem toP_nodict : ∀ (d : D) {p : PyData}, toP d = some p → p.hasDict = false
  | .non, _, e => by simp [toP] at e; subst e; simp [PyData.hasDict]
  | .bl b, _, e => by simp [toP] at e; subst e; simp [PyData.hasDict]
  | .int b, _, e => by simp [toP] at e; subst e; simp [PyData.hasDict]
  | .str b, _, e => by simp [toP] at e; subst e; simp [PyData.hasDict]
  | .ty b, _, e => by simp [toP] at e
  | .fn b, _, e => by simp [toP] at e
  | .dct _ _ _, _, e => by simp [toP] at e
  | .gone, _, e => by simp [toP] at e
  | .exn _ _ _ _ _, _, e => by simp [toP] at e
  | .lam _ _ _ _ _, _, e => by simp [toP] at e
  | .tab _ _, _, e => by simp [toP] at e
  | .scr b, _, e => by simp [toP] at e
  | .ins _ _ _ _, _, e => by simp [toP] at e
  | .tup ds, _, e => by
    simp only [toP, Option.map_eq_some_iff] at e
    obtain ⟨ps, e1, rfl⟩ := e
    rw [PyData.hasDict]
    exact toPL_nodict ds e1
  | .lst o ds, _, e => by
    simp only [toP, Option.map_eq_some_iff] at e
    obtain ⟨ps, e1, rfl⟩ := e
    rw [PyData.hasDict]
    exact toPL_nodict ds e1
theorem toPL_nodict : ∀ (ds : List D) {ps : List PyData}, toPL ds = some ps → PyData.hasDictAll ps = false
  | [], _, e => by simp [toPL] at e; subst e; simp [PyData.hasDictAll]
  | d :: ds, _, e => by
    simp only [toPL] at e
    split at e
    · rename_i p ps e1 e2
      cases e
      rw [PyData.hasDictAll, toP_nodict d e1, toPL_nodict ds e2]; rfl
    · cases e
end
abbrev rReprD (K : PySem.W.Frag) : List V → Hp → VK → Prop := fun xs H Q => ∃ x p, xs = [x] ∧ ((Dp K H x p ∧ p.hasDict = false) ∨ ∃ a, x = .ref a ∧ Rd H a (.dK []) ∧ p = .dict []) ∧ p.showable = true ∧ p.depth ≤ 64 ∧ p.shown.length ≤ sizeLine ∧ Q (.str p.shown) H
section
variable {X : Cx} {W : WX} {a : Expr} {fa : EF} {k : Nat}
theorem rd_dK0 {pins : List (Addr × Obj)} {σ : L2.St} {H : Hp} {s : Shared} {a : Addr} (I : Inv X pins σ H s) (h : Rd H a (.dK [])) : ∃ as, Reads s.heap (.ref a) (.dict []) as ∧ sysModules ∉ as := by
  have key : ObjOk X.prog X.w H s.heap a (.dK []) → ∃ as, Reads s.heap (.ref a) (.dict []) as ∧ sysModules ∉ as := by
    rintro ⟨_, ha, vs, kv, o, es, ep, e, hc, hd, _, he, _⟩
    cases kv
    have hes : es = #[] := by
      generalize eL : es.toList = L at he
      cases he
      exact Array.toList_eq_nil_iff.mp eL
    subst hes
    refine ⟨_, .dict e hc.1 hd (.nil) (.nil), ?_⟩
    simp
    intro z
    rw [z] at ha
    simp at ha
  rcases h with h | ⟨o, h⟩
  · exact key (I.hok a _ h)
  · exact key (I.hok a _ h).2
theorem call_reprD (hr : RoomG k X.A) : CallR X (.builtin "repr") (rReprD X.K) := by
  intro pins s σ H xs us Q I r h
  obtain ⟨x, p, rfl, h, hs, hd, hz, q⟩ := h
  obtain ⟨u, rfl, ru⟩ := vals1 r
  have hu : X.A.units + 200 < cLine := by have := hr.un; omega
  have fin : ∀ a : Addr, u = .ref a → (∃ as, Reads s.heap (.ref a) p as ∧ (p.hasDict = true → sysModules ∉ as)) → wpAny (model X.prog X.w) X.A (call (.builtin "repr") [u]) (EP X pins σ Q) X.xe s := by
    rintro a rfl ⟨as, rd, hsm⟩
    exact repr_of_reads' rd hs hsm hr.gd (by omega) (fun _ _ e => e) (fun h' u tk hk => ⟨.str p.shown, H, I.kept hk, ⟨_, rfl⟩, q⟩) hz
  rcases h with ⟨h, hn⟩ | ⟨a, rfl, h, rfl⟩
  · cases h with
    | non => cases ru; exact PySem.P.repr_of_none ⟨.str "None", H, I.tok _, ⟨_, rfl⟩, q⟩
    | bl b => cases ru; exact PySem.P.repr_of_bool ⟨.str _, H, I.tok _, ⟨_, rfl⟩, by simpa [PyData.shown] using q⟩
    | int i =>
      obtain ⟨t, rfl⟩ := ru
      exact PySem.P.repr_of_int (by simpa [PyData.showable] using hs) ⟨.str _, H, I.tok _, ⟨_, rfl⟩, by simpa [PyData.shown] using q⟩
    | str y =>
      obtain ⟨t, rfl⟩ := ru
      exact PySem.P.repr_of_str ⟨.str _, H, I.tok _, ⟨_, rfl⟩, by simpa [PyData.shown] using q⟩ (by simpa [PyData.shown] using hz)
    | lst h1 h2 =>
      obtain ⟨as, rd⟩ := Dp.reads I _ _ _ (.lst h1 h2) ru
      cases ru
      exact fin _ rfl ⟨as, rd, PyData.noDict_hsm hn⟩
    | tup h1 h2 =>
      obtain ⟨as, rd⟩ := Dp.reads I _ _ _ (.tup h1 h2) ru
      cases ru
      exact fin _ rfl ⟨as, rd, PyData.noDict_hsm hn⟩
  · cases ru
    obtain ⟨as, rd, hsm⟩ := rd_dK0 I h
    exact fin _ rfl ⟨as, rd, fun _ => hsm⟩
theorem und_repr {K mg} : UnD K mg dRepr (fun v H Q => rReprD K [v] H Q) := by
  intro H x d d' f φd φv σd σv Q ra e w k2
  unfold dRepr at e
  split at e
  · rename_i p e1
    split at e
    · rename_i hz
      cases e
      refine ⟨x, p, rfl, ?_, hz.1, hz.2.1, by rw [sizeLine_eq]; exact hz.2.2, k2 _ H (w.push (.str _))⟩
      unfold toR at e1
      split at e1
      · rename_i o
        cases e1
        refine .inr ?_
        cases o with
        | true =>
          generalize ek : ([] : List Key) = ks at ra
          cases ra with
          | dctO h r =>
            rename_i a kvs fp
            have : kvs = [] := by simpa using ek.symm
            subst this
            exact ⟨_, rfl, .inl h, rfl⟩
        | false =>
          generalize ek : ([] : List Key) = ks at ra
          cases ra with
          | dctF h r =>
            rename_i a o kvs
            have : kvs = [] := by simpa using ek.symm
            subst this
            exact ⟨_, rfl, .inr ⟨_, h⟩, rfl⟩
      · exact .inl ⟨ra.dp _ e1, toP_nodict _ e1⟩
    · cases e
  · cases e
end
end DL
namespace DL
open PySem PySem.Spec PyProof.Rows L2

/-! ### while: n turns at most -/
def whileN (t : TF) (b : SF) : Nat → En → Option OutS
  | 0, _ => none
  | n + 1, σ => match t σ with
    | .ok true σ1 => match b σ1 with
      | .nx σ2 => whileN t b n σ2
      | .ct σ2 => whileN t b n σ2
      | .bk σ2 => some (.nx σ2)
      | r => some r
    | .ok false σ1 => some (.nx σ1)
    | .exc c ks vs σ1 => some (.exc c ks vs σ1)
    | .err => some .err
theorem whileN_mono {t : TF} {b : SF} : ∀ {n m : Nat} {σ : En} {r : OutS}, n ≤ m → whileN t b n σ = some r → whileN t b m σ = some r
  | 0, _, _, _, _, e => by simp [whileN] at e
  | n + 1, 0, _, _, h, _ => by omega
  | n + 1, m + 1, σ, r, h, e => by
    unfold whileN at e ⊢
    cases et : t σ with
    | err => rw [et] at e; exact e
    | exc c ks vs σ1 => rw [et] at e; exact e
    | ok c σ1 =>
      rw [et] at e
      cases c with
      | false => exact e
      | true =>
        dsimp only at e ⊢
        cases eb : b σ1 with
        | nx σ2 => rw [eb] at e; exact whileN_mono (by omega) e
        | ct σ2 => rw [eb] at e; exact whileN_mono (by omega) e
        | bk σ2 => rw [eb] at e; exact e
        | err => rw [eb] at e; exact e
        | rt d σ2 => rw [eb] at e; exact e
        | exc c ks vs σ2 => rw [eb] at e; exact e
open Classical in
noncomputable def sWhile (t : TF) (b : SF) : SF := fun σ => if h : ∃ r n, whileN t b n σ = some r then choose h else .err
theorem sWhile_eq {t : TF} {b : SF} {σ : En} {n : Nat} {r : OutS} (e : whileN t b n σ = some r) : sWhile t b σ = r := by
  have h : ∃ r n, whileN t b n σ = some r := ⟨r, n, e⟩
  unfold sWhile
  rw [dif_pos h]
  obtain ⟨m, em⟩ := Classical.choose_spec h
  have e1 := whileN_mono (Nat.le_max_left n m) e
  have e2 := whileN_mono (Nat.le_max_right n m) em
  rw [e1] at e2
  exact (Option.some.inj e2).symm
theorem sWhile_some {t : TF} {b : SF} {σ : En} (h : sWhile t b σ ≠ .err) : ∃ n, whileN t b n σ = some (sWhile t b σ) := by
  unfold sWhile at h ⊢
  by_cases hh : ∃ r n, whileN t b n σ = some r
  · rw [dif_pos hh]
    exact Classical.choose_spec hh
  · rw [dif_neg hh] at h
    exact (h rfl).elim
section
variable {X : Cx} {W : WX} {B : Nat → Bool} {c : Expr} {body : List Stmt} {t : TF} {b : SF} {pos : Pos}
theorem ls_while (hp : PassesOwn (model X.prog X.w) X.A X.env X.xe) (hc : LT X W c t) (hb : LSs X W B body b) : LS X W B (.While c body [] pos) (sWhile t b) := PS.imp (ps_while hp hc hb) fun D σ H ⟨φd, φv, σd, w, q⟩ => by
  have ne : sWhile t b σd ≠ .err := fun z => by rw [z] at q; exact q
  obtain ⟨n, en⟩ := sWhile_some ne
  generalize sWhile t b σd = r at q en
  refine ⟨fun n σv H' => ∃ σd r, Wd X.K X.mg H' φd φv σd σv ∧ whileN t b n σd = some r ∧ GdS X.K X.mg W B D φd φv σv r, ⟨n, σd, r, w, en, q⟩, ?_⟩
  rintro m σv H1 ⟨σd1, r1, w1, e1, q1⟩
  cases m with
  | zero => simp [whileN] at e1
  | succ m =>
    refine ⟨φd, φv, σd1, w1, ?_⟩
    unfold whileN at e1
    cases et : t σd1 with
    | err => rw [et] at e1; cases e1; exact q1.elim
    | exc c ks vs σ2 => rw [et] at e1; cases e1; exact q1 _ SB.refl
    | ok c σ2 =>
      rw [et] at e1
      intro H2 w2
      cases c with
      | false =>
        rw [if_neg Bool.false_ne_true]
        cases e1
        exact q1 _ _ SB.refl w2
      | true =>
        rw [if_pos rfl]
        dsimp only at e1
        refine ⟨fun σ' H' => ∃ σd r, Wd X.K X.mg H' φd φv σd σ' ∧ whileN t b m σd = some r ∧ GdS X.K X.mg W B D φd φv σ' r, fun σ' H' ⟨σ3, r3, w3, e3, q3⟩ => ⟨m, Nat.lt_succ_self m, σ3, r3, w3, e3, q3⟩, φd, φv, σ2, w2, ?_⟩
        cases eb : b σ2 with
        | nx σ3 => rw [eb] at e1; exact fun σv' H' s w' => ⟨σ3, r1, w', e1, q1.sb s⟩
        | ct σ3 => rw [eb] at e1; exact fun σv' H' s w' => ⟨σ3, r1, w', e1, q1.sb s⟩
        | bk σ3 => rw [eb] at e1; cases e1; exact fun σv' H' s w' => q1 σv' H' s w'
        | err => rw [eb] at e1; cases e1; exact q1.elim
        | rt d σ3 => rw [eb] at e1; cases e1; exact fun v σv' H' s w' => q1 v σv' H' s w'
        | exc c ks vs σ3 => rw [eb] at e1; cases e1; exact fun σv' s => q1 σv' s
end
end DL
namespace DL
open PySem PySem.Spec PyProof.Rows L2

/-! ### lists that stand in a field of an own instance -/
section
variable {K : PySem.W.Frag} {mg : Str → Option Value} {H H' : Hp} {φd ψd : List D} {φv ψv : List V} {σd : En} {σv : L2.St}
theorem putDs_rep {f : Str} {d : D} : ∀ {fs : List (Str × V)} {ds : List D} {fl : List Addr}, RepL K mg H ds (fs.map (·.2)) fl → lookK f (fs.map (·.1)) ds = some d →
    ∃ v P m S, fs.lookup f = some v ∧ fl = P ++ m ++ S ∧ RepD K mg H d v m ∧ ∀ (H' : Hp) (d' : D) (m' : List Addr), Stp H H' → (∀ b ∈ P ++ S, H' b = H b) → RepD K mg H' d' v m' → RepL K mg H' (putDs f d' (fs.map (·.1)) ds) (fs.map (·.2)) (P ++ m' ++ S)
  | [], ds, fl, r, e => by cases r; simp [lookK] at e
  | (g, x) :: fs, [], fl, r, e => by simp [lookK] at e
  | (g, x) :: fs, (d0 :: ds : List D), fl, r, e => by
    replace r : RepL K mg H (d0 :: ds) (x :: fs.map (·.2)) fl := r
    cases r with
    | cons h0 h1 =>
      rename_i g0 g1
      simp only [List.map_cons, lookK] at e
      by_cases hg : f = g
      · subst hg
        rw [if_pos rfl] at e
        have e' : d0 = d := Option.some.inj e
        subst e'
        refine ⟨x, [], g0, g1, by simp [List.lookup], by simp, h0, fun H' d' m' st k rd => ?_⟩
        have : putDs f d' (List.map (·.1) ((f, x) :: fs)) (d0 :: ds) = d' :: ds := by simp [putDs]
        rw [this]
        exact .cons rd (h1.mono st _ fun b hb => k b (by simpa using hb))
      · rw [if_neg hg] at e
        obtain ⟨v, P, m, S, e1, e2, rd, k1⟩ := putDs_rep h1 e
        subst e2
        have hb : (f == g) = false := by simpa using hg
        refine ⟨v, g0 ++ P, m, S, by simp [List.lookup, hb, e1], by simp [List.append_assoc], rd, fun H' d' m' st k rd' => ?_⟩
        have : putDs f d' (List.map (·.1) ((g, x) :: fs)) (d0 :: ds) = d0 :: putDs f d' (fs.map (·.1)) ds := by simp [putDs, Ne.symm hg]
        rw [this]
        have q := RepL.cons (h0.mono st _ fun b hb => k b (by simp [hb])) (k1 H' d' m' st (fun b hb => k b (by simp at hb ⊢; rcases hb with hb | hb <;> simp [hb])) rd')
        simpa [List.append_assoc] using q
theorem Wd.fldList (w : Wd K mg H (φd ++ ψd) (φv ++ ψv) σd σv) (l : ψd.length = ψv.length) {i : Nat} {n f : Str} {ks : List Str} {vs ds : List D} (e : σd[i]? = some (some (.ins true n ks vs))) (ef : lookK f ks vs = some (.lst true ds)) :
    ∃ a C dx fs p xs, σv[i]? = some (some (.ref a)) ∧ H a = some (.ins C dx fs) ∧ mg n = some (.ref C) ∧ InsC K C ∧ NoAttr K C f ∧ fs.lookup f = some (.ref p) ∧ H p = some (.lst xs) ∧ (∃ fl, RepL K mg H ds xs fl) ∧ ∀ (ds' : List D) (xs' : List V) (χd : List D) (χv : List V),
      (∀ (fl ft : List Addr), RepL K mg H ds xs fl → RepL K mg H ψd ψv ft → (fl ++ ft).Nodup → ∃ f' g', RepL K mg H ds' xs' f' ∧ RepL K mg H χd χv g' ∧ (f' ++ g').Nodup ∧ ∀ b ∈ f' ++ g', b ∈ fl ++ ft) →
      Wd K mg (upd H p (.lst xs')) (φd ++ χd) (φv ++ χv) (σd.set i (some (.ins true n ks (putDs f (.lst true ds') ks vs)))) σv := by
  obtain ⟨F, t, g, r1, r2, q, nd⟩ := w.last l
  obtain ⟨v0, P, m, S, e1, eg, rd, k1, _⟩ := q.at e
  cases rd with
  | insO h c ic na r =>
    rename_i a C dx fs fa
    obtain ⟨v, P2, m2, S2, f1, f2, rd2, k2⟩ := putDs_rep r ef
    cases rd2 with
    | lstO hp rl =>
      rename_i p xs fl
      subst f2 eg
      have hfk : f ∈ fs.map (·.1) := by
        have key : ∀ l : List (Str × V), l.lookup f = some (.ref p) → f ∈ l.map (·.1) := by
          intro l
          induction l with
          | nil => intro z; simp [List.lookup] at z
          | cons y l ih =>
            intro z
            by_cases hb : f = y.1
            · simp [hb]
            · have hb' : (f == y.1) = false := by simpa using hb
              have : List.lookup f (y :: l) = List.lookup f l := by
                obtain ⟨y1, y2⟩ := y
                simp only [List.lookup]
                rw [hb']
              rw [this] at z
              simp [ih z]
        exact key fs f1
      refine ⟨a, C, dx, fs, p, xs, e1, h, c, ic, na f hfk, f1, hp, ⟨fl, rl⟩, fun ds' xs' χd χv k => ?_⟩
      have st : Stp H (upd H p (.lst xs')) := Stp.lst hp
      have nd2 : (p :: (F ++ (P ++ S) ++ (a :: (P2 ++ S2)) ++ (fl ++ t))).Nodup := by
        refine List.Perm.nodup_iff ?_ |>.mp nd
        rw [List.perm_iff_count]
        intro z
        simp only [List.count_append, List.count_cons]
        omega
      obtain ⟨np, nd3⟩ := List.nodup_cons.mp nd2
      obtain ⟨n1, n2, n3⟩ := List.nodup_append.mp nd3
      obtain ⟨f', g', s1, s2, n4, sub⟩ := k fl t rl r2 n2
      have keep : ∀ b, b ∈ F ++ (P ++ S) ++ (a :: (P2 ++ S2)) ++ (fl ++ t) → upd H p (.lst xs') b = H b := fun b hb => upd_ne fun z => np (z ▸ hb)
      have kF : ∀ b ∈ F, upd H p (.lst xs') b = H b := fun b hb => keep b (by simp [hb])
      have kP : ∀ b ∈ P ++ S, upd H p (.lst xs') b = H b := fun b hb => keep b (by simp at hb ⊢; rcases hb with hb | hb <;> simp [hb])
      have kP2 : ∀ b ∈ P2 ++ S2, upd H p (.lst xs') b = H b := fun b hb => keep b (by simp at hb ⊢; rcases hb with hb | hb <;> simp [hb])
      have kN : ∀ b ∈ f' ++ g', upd H p (.lst xs') b = H b := fun b hb => keep b (List.mem_append_right _ (sub b hb))
      have ka : upd H p (.lst xs') a = H a := keep a (by simp)
      have rl2 : RepD K mg (upd H p (.lst xs')) (.lst true ds') (.ref p) (p :: f') := .lstO upd_same (s1.mono st _ fun b hb => kN b (List.mem_append_left _ hb))
      have ri : RepD K mg (upd H p (.lst xs')) (.ins true n (fs.map (·.1)) (putDs f (.lst true ds') (fs.map (·.1)) vs)) (.ref a) (a :: (P2 ++ (p :: f') ++ S2)) :=
        .insO (ka.trans h) c ic na (k2 _ _ _ st kP2 rl2)
      have q2 := k1 _ _ _ _ st kP ri
      have ev : σv.set i (some (V.ref a)) = σv := by
        obtain ⟨hi, e2⟩ := List.getElem?_eq_some_iff.mp e1
        rw [← e2]; exact List.set_getElem_self hi
      rw [ev] at q2
      refine Wd.of_last (r1.mono st _ kF) (s2.mono st _ fun b hb => kN b (List.mem_append_right _ hb)) q2 ?_
      have nd5 : (p :: (F ++ (P ++ S) ++ (a :: (P2 ++ S2)) ++ (f' ++ g'))).Nodup := by
        refine List.nodup_cons.mpr ⟨fun z => np ?_, List.nodup_append.mpr ⟨n1, n4, fun x hx y hy => n3 x hx y (sub y hy)⟩⟩
        rcases List.mem_append.mp z with z | z
        · exact List.mem_append_left _ z
        · exact List.mem_append_right _ (sub p z)
      refine List.Perm.nodup_iff ?_ |>.mp nd5
      rw [List.perm_iff_count]
      intro z
      simp only [List.count_append, List.count_cons]
      omega
end
/-- what the field f of the instance in the i-th slot holds -/
def fldOf (σ : En) (i : Nat) (f : Str) : Option D := match sget σ i with
  | some (.ins _ _ ks vs) => lookK f ks vs
  | _ => none
/-- an operation on what a field holds, that changes nothing -/
def opKF (op : D → Option D) : Option D → En → Out Hd | some d, σ => (match op d with | some d' => .ok (.val d') σ | none => .err) | none, _ => .err
def eUnF (op : D → Option D) (i : Nat) (f : Str) : EF := fun σ => opKF op (fldOf σ i f) σ
section
variable {X : Cx} {W : WX} {e a o : Expr} {es : List Expr} {fa fo : EF} {fs : AF} {pos p2 p3 apos cpos : Pos} {i : Nat} {x f : Str}
/-- self.f, read exactly -/
abbrev tFldX (K : PySem.W.Frag) (i : Nat) (f : Str) : TE := tFldR K (tVar i) f
theorem pe_fldX (h : PE X e (tVar i)) (hb : attributeBase e f X.env (eval e X.env) = eval e X.env := by rfl) : PE X (.Attribute e f pos) (tFldX X.K i f) := pe_fldR h hb
theorem tFldX_good {op : D → Option D} {r : V → Hp → VK → Prop} (ho : UnD X.K X.mg op r) {σv : L2.St} {H : Hp} {Q : VK} (h : TEd X.K X.mg W (eUnF op i f) σv H Q) : tFldX X.K i f σv H fun x H1 => r x H1 Q := by
  obtain ⟨φd, φv, σd, w, q⟩ := h
  unfold eUnF fldOf at q
  cases e1 : sget σd i with
  | none => rw [e1] at q; exact q.elim
  | some d0 =>
    rw [e1] at q
    match d0, e1, q with
    | .ins o n ks vs, e1, q =>
      dsimp only at q
      cases e2 : lookK f ks vs with
      | none => rw [e2] at q; exact q.elim
      | some d =>
        rw [e2] at q
        unfold opKF at q
        dsimp only at q
        cases e3 : op d with
        | none => rw [e3] at q; exact q.elim
        | some d' =>
          rw [e3] at q
          obtain ⟨v, g, ev, rd⟩ := w.slot (sget_some e1)
          obtain ⟨a, C, dx, fs, g2, rfl, hr, hc, hq, na, hk, rr, hg⟩ := rd.ins_inv
          rw [hk] at e2
          obtain ⟨v2, g3, l2, rd2, _, hm⟩ := lookK_rep rr e2
          exact ⟨_, ev, a, C, dx, fs, v2, rfl, hr, hq.cl, na f (by first | exact hm | (rw [hk]; exact hm)), l2, ho H v2 d d' g3 φd φv σd σv Q rd2 e3 w fun z H' w' => q z H' (WdH.val w')⟩
    | .non, _, q => exact q.elim
    | .bl _, _, q => exact q.elim
    | .int _, _, q => exact q.elim
    | .str _, _, q => exact q.elim
    | .ty _, _, q => exact q.elim
    | .fn _, _, q => exact q.elim
    | .dct _ _ _, _, q => exact q.elim
    | .scr _, _, q => exact q.elim
    | .gone, _, q => exact q.elim
    | .exn _ _ _ _ _, _, q => exact q.elim
    | .lam _ _ _ _ _, _, q => exact q.elim
    | .tab _ _, _, q => exact q.elim
    | .tup _, _, q => exact q.elim
    | .lst _ _, _, q => exact q.elim
/-- a built-in of one argument, of a field -/
theorem le_call1F {y : Str} {p : Pos} {id : String} {op : D → Option D} {r : List V → Hp → VK → Prop} (hc : CallR X (.builtin id) r) (ho : UnD X.K X.mg op (fun v H Q => r [v] H Q)) (hg : Gl X y) (hm : X.mg y = none) (hv : bootBuiltins y = some (.builtin id)) (hx : PE X e (tVar i)) (hb : attributeBase e f X.env (eval e X.env) = eval e X.env := by rfl) (hn : y ≠ "__name__" := by decide) (hdb : (y == ("__debug__" : Str)) = false := by decide)
    (hs : starEach [.Attribute e f p2] X.env = (false, eval (.Attribute e f p2) X.env) :: starEach [] X.env := by rfl) (hpl : (backTo pos (starEach [] X.env)).any (·.1) = false := by rfl) : LE X W (.Call (.Name y p) [.Attribute e f p2] [] pos) (eUnF op i f) :=
  PE.imp (pe_callB hc hg hm hv (pa_cons (pe_fldX hx hb) pa_nil hs) hn hdb hs hpl) fun _ _ _ h => tFldX_good ho h
theorem le_callT1F {y : Str} {p : Pos} {T : String} {op : D → Option D} {r : List V → Hp → VK → Prop} (hc : CallR X (.type T) r) (ho : UnD X.K X.mg op (fun v H Q => r [v] H Q)) (hg : Gl X y) (hm : X.mg y = none) (hv : bootBuiltins y = some (.type T)) (hx : PE X e (tVar i)) (hb : attributeBase e f X.env (eval e X.env) = eval e X.env := by rfl) (hn : y ≠ "__name__" := by decide) (hdb : (y == ("__debug__" : Str)) = false := by decide)
    (hs : starEach [.Attribute e f p2] X.env = (false, eval (.Attribute e f p2) X.env) :: starEach [] X.env := by rfl) (hpl : (backTo pos (starEach [] X.env)).any (·.1) = false := by rfl) : LE X W (.Call (.Name y p) [.Attribute e f p2] [] pos) (eUnF op i f) :=
  PE.imp (pe_callTy hc hg hm hv (pa_cons (pe_fldX hx hb) pa_nil hs) hn hdb hs hpl) fun _ _ _ h => tFldX_good ho h
/-- self.f.pop() -/
def popF (f : Str) (i : Nat) (o : Option D) (σ : En) : Out Hd := match o with
  | some (.ins true n ks vs) => (match lookK f ks vs with
    | some (.lst true ds) => match ds.getLast? with
      | some d => .ok (.val d) (σ.set i (some (.ins true n ks (putDs f (.lst true ds.dropLast) ks vs))))
      | none => .err
    | _ => .err)
  | _ => .err
def ePopF (i : Nat) (f : Str) : EF := fun σ => popF f i (sget σ i) σ
theorem le_popF (hx : PE X e (tVar i)) (hb : attributeBase e f X.env (eval e X.env) = eval e X.env := by rfl) (hbase : attributeBase (.Attribute e f p2) "pop" X.env (eval (.Attribute e f p2) X.env) = eval (.Attribute e f p2) X.env := by rfl) (hline : (apos.endLine == cpos.line) = true := by rfl) :
    LE X W (.Call (.Attribute (.Attribute e f p2) "pop" apos) [] [] cpos) (ePopF i f) :=
  PE.imp (pe_bm0 PySem.F.plainAttrs_list F.slot_list_pop F.type_list_pop mt_pop (pe_fldX hx hb) hbase hline) fun σ H Q h => by
    obtain ⟨φd, φv, σd, w, q⟩ := h
    unfold ePopF popF at q
    split at q
    · rename_i n ks vs e1
      split at q
      · rename_i ds e2
        split at q
        · rename_i d e3
          have w2 : Wd X.K X.mg H (φd ++ []) (φv ++ []) σd σ := by simpa using w
          obtain ⟨a, C, dx, fs, p, xs, ev, ha, hm, ic, na, hf, hp, ⟨fl, rl⟩, mod⟩ := w2.fldList rfl (sget_some e1) e2
          obtain ⟨v, f1, g1, e6, r1, r2, _⟩ := RepL.dropLast_rep rl e3
          refine ⟨_, ev, a, C, dx, fs, .ref p, rfl, .inl ha, ic.cl, na, hf, ?_⟩
          refine ⟨.inl ⟨rfl, xs, .inl (.inl hp)⟩, p, xs, v, rfl, rfl, hp, e6, q _ _ (WdH.val ?_)⟩
          refine mod ds.dropLast xs.dropLast [d] [v] fun fl ft rl' rt' nd' => ?_
          obtain ⟨v2, f2, g2, e7, s1, s2, rfl⟩ := RepL.dropLast_rep rl' e3
          rw [e6] at e7
          cases e7
          cases rt'
          exact ⟨f2, g2, s1, .one s2, by simpa using nd', fun b hb => by simpa using hb⟩
        · exact q.elim
      · exact q.elim
    · exact q.elim
/-! self.f.append(e), e a name (that is given away) or a field that stands -/
/-- e, read exactly: its value at once -/
structure ExX (X : Cx) (e : Expr) (sh : En → En) (g : En → Option D) : Prop where
  run : ∃ t : TE, PE X e t ∧ ∀ (H : Hp) (φd : List D) (φv : List V) (σd : En) (σv : L2.St) (d : D), Wd X.K X.mg H φd φv σd σv → g σd = some d → ∃ v, RepD X.K X.mg H d v [] ∧ ∀ Q : VK, Q v H → t σv H Q
  sh : ∀ {P : Hp → Prop} (H : Hp) (φd : List D) (φv : List V) (σd : En) (σv : L2.St), Wd X.K X.mg H φd φv σd σv → (∀ H', Wd X.K X.mg H' φd φv (sh σd) σv → GT H' P) → GT H P
def shAt (j : Nat) (σ : En) : En := match sget σ j with
  | some d => σ.set j (some (share d))
  | none => σ
def fzG (o : Option D) : Option D := match o with
  | some d => if fz d = true then some d else none
  | none => none
theorem exx_var {j : Nat} (h : PE X e (tVar j)) : ExX X e (shAt j) (fun σ => fzG (sget σ j)) := by
  refine ⟨⟨_, h, fun H φd φv σd σv d w eg => ?_⟩, fun H φd φv σd σv w k => ?_⟩
  · unfold fzG at eg
    split at eg
    · rename_i d0 e0
      split at eg
      · rename_i hz
        cases eg
        obtain ⟨v, g, ev, rd⟩ := w.slot (sget_some e0)
        have := rd.fz hz
        subst this
        exact ⟨v, rd, fun Q q => ⟨v, ev, q⟩⟩
      · cases eg
    · cases eg
  · unfold shAt at k
    cases e0 : sget σd j with
    | none => rw [e0] at k; exact k H w
    | some d =>
      rw [e0] at k
      exact w.shareSlot (sget_some e0) fun H' v ev w' => k H' (w'.drop rfl)
theorem exx_fld {j : Nat} {g : Str} (h : PE X e (tVar j)) (hb : attributeBase e g X.env (eval e X.env) = eval e X.env := by rfl) : ExX X (.Attribute e g pos) id (fun σ => fzG (fldOf σ j g)) := by
  refine ⟨⟨_, pe_fldX h hb, fun H φd φv σd σv d w eg => ?_⟩, fun H φd φv σd σv w k => k H w⟩
  unfold fzG at eg
  split at eg
  · rename_i d0 e0
    split at eg
    · rename_i hz
      cases eg
      unfold fldOf at e0
      split at e0
      · rename_i o n ks vs e1
        obtain ⟨v, g2, ev, rd⟩ := w.slot (sget_some e1)
        obtain ⟨a, C, dx, fs, g3, rfl, hr, hc, hq, na, hk, rr, hg⟩ := rd.ins_inv
        rw [hk] at e0
        obtain ⟨v2, g4, l2, rd2, _, hm⟩ := lookK_rep rr e0
        have := rd2.fz hz
        subst this
        exact ⟨v2, rd2, fun Q q => ⟨_, ev, a, C, dx, fs, v2, rfl, hr, hq.cl, na g (by first | exact hm | (rw [hk]; exact hm)), l2, q⟩⟩
      · cases e0
    · cases eg
  · cases eg
def appF2 (f : Str) (i : Nat) (o x : Option D) (σ : En) : OutS := match o, x with
  | some (.ins true n ks vs), some d => (match lookK f ks vs with
    | some (.lst true ds) => if ds.length < 16777216 then .nx (σ.set i (some (.ins true n ks (putDs f (.lst true (ds ++ [d])) ks vs)))) else .err
    | _ => .err)
  | _, _ => .err
def appF1 (f : Str) (i : Nat) (g : En → Option D) (σ : En) : OutS := appF2 f i (sget σ i) (g σ) σ
def sAppF (i : Nat) (f : Str) (sh : En → En) (g : En → Option D) : SF := fun σ => appF1 f i g (sh σ)
theorem ls_appF {B : Nat → Bool} {sh : En → En} {g : En → Option D} (hx : PE X o (tVar i)) (ha : ExX X e sh g) (hb : attributeBase o f X.env (eval o X.env) = eval o X.env := by rfl) (hbase : attributeBase (.Attribute o f p2) "append" X.env (eval (.Attribute o f p2) X.env) = eval (.Attribute o f p2) X.env := by rfl)
    (hfew : ((backTo cpos (starEach (e :: []) X.env)).all (fun x => !x.1) && (backToKw cpos (keywordEach [] X.env)).all (fun x => x.1.isSome)
      && decide ((e :: []).length + ([] : List Keyword).length + (if ([] : List Keyword).isEmpty then 0 else 1) < 30)) = true := by rfl)
    (hline : (apos.endLine == cpos.line) = true := by rfl) (hs : starEach (e :: []) X.env = (false, eval e X.env) :: starEach [] X.env := by rfl) (hplain : (backTo cpos (starEach [] X.env)).any (·.1) = false := by rfl)
    (hsw : swapsWith (.Call (.Attribute (.Attribute o f p2) "append" apos) [e] [] cpos) none pos.line X.env = pure false := by rfl) :
    LS X W B (.Expr (.Call (.Attribute (.Attribute o f p2) "append" apos) [e] [] cpos) pos) (sAppF i f sh g) := by
  obtain ⟨⟨t, ht, hd⟩, hsh⟩ := ha
  refine PS.imp (PS.gh0 (ps_expr (pe_bm PySem.F.plainAttrs_list F.slot_list_append F.type_list_append mt_append (pe_fldX hx hb) (pa_cons ht pa_nil hs) hbase hfew hline hs hplain) hsw)) fun D σv H ⟨φd, φv, σd, w, q⟩ => ?_
  refine hsh H φd φv σd σv w fun H' w' => .here ?_
  unfold sAppF appF1 appF2 at q
  split at q
  · rename_i n ks vs d eo eg
    split at q
    · rename_i ds e2
      split at q
      · rename_i hz
        obtain ⟨v, rd, run⟩ := hd H' φd φv _ σv d w' eg
        have w2 : Wd X.K X.mg H' (φd ++ [d]) (φv ++ [v]) (sh σd) σv := w'.push rd
        obtain ⟨a, C, dx, fs, p, xs, ev, ha, hm, ic, na, hf, hp, ⟨fl, rl⟩, mod⟩ := w2.fldList rfl (sget_some eo) e2
        refine ⟨_, ev, a, C, dx, fs, .ref p, rfl, .inl ha, ic.cl, na, hf, ?_⟩
        refine ⟨.inl ⟨rfl, xs, .inl (.inl hp)⟩, ?_⟩
        refine run _ ?_
        show rAppend (.ref p) [v] H' fun x H1 => D.nx σv H1
        refine ⟨p, xs, v, rfl, rfl, hp, by rw [sizeLine_eq, ← rl.length]; exact hz, ?_⟩
        refine q σv _ SB.refl ?_
        have := mod (ds ++ [d]) (xs ++ [v]) [] [] fun fl ft rl' rt' nd' => ⟨fl ++ ft, [], rl'.append rt', .nil, by simpa using nd', fun b hb => by simpa using hb⟩
        simpa using this
      · exact q.elim
    · exact q.elim
  · exact q.elim
end

/-! ### methods of own classes, calls without arguments -/
section
variable {X : Cx} {CX : CXT} {k : Nat} {f C : Addr} {fd : FuncData} {ps : List Str} {sp : Sp} {E : L2.St → XK} {x m : Str} {p pos apos : Pos} {o e : Expr} {es : List Expr} {ta : TE} {t : TA}
def tMethG (C : Addr) (m : Str) (sp : Sp) (E : L2.St → XK) (ta : TE) (t : TA) : TE := fun σ H Q => ta σ H fun x H1 => ∃ a dx fs, x = .ref a ∧ H1 a = some (.ins C dx fs) ∧ fs.lookup m = none ∧ t σ H1 fun vs H2 => sp (x :: vs) H2 Q (E σ)
theorem pe_methG {pl : Sem Bool} (he : PE X o ta) (c : Cls X.K C) (hm : Meth X.K C m f) (F : FnG X.prog X.w X.K X.mg X.base CX k f fd ps sp) (hr : RoomG k X.A) (hb : Binds X.K fd ps []) (hx : ∀ σ, PassesAt CX X σ (E σ)) (ha : PA X (e :: es) t)
    (hst : starEach (e :: es) X.env = (false, eval e X.env) :: starEach es X.env := by rfl) (hpl : (backTo pos (starEach es X.env)).any (·.1) = false := by rfl)
    (ht : eval (.Call (.Attribute o m apos) (e :: es) [] pos) X.env = (do
      let ov ← eval o X.env
      standAt apos.atName
      let (f, first) ← holding [ov] (getMethod ov m pl)
      callWith pos f first (backTo pos (starEach (e :: es) X.env)) (backToKw pos (keywordEach [] X.env))) := by rfl) :
    PE X (.Call (.Attribute o m apos) (e :: es) [] pos) (tMethG C m sp E ta t) := ⟨fun pins s σ H Q I h => by
  refine PySem.W.methodCall_KW (pl := pl) (thn (he.run pins s σ H _ I h) fun u s1 ⟨y, H1, I1, rx, a, dx, fs, ex, ea, l, q⟩ => ?_) ht
  subst ex
  obtain rfl : u = Value.ref a := rx
  refine getmeth_ok I1 ea c hm l ?_
  refine PySem.W.callWith_K (first := [.ref a]) (h₀ := X.base) I.ok.mod.kin hm.kp (thn (ha.run pos pins s1 σ H1 _ I1 q) fun us s2 ⟨vs, H2, I2, r, q2⟩ => ⟨I2.kIn, ?_⟩) hst hpl
  exact run_fnG (us := .ref a :: us) (vs := .ref a :: vs) F hr hb (hx σ) I2 (.cons rfl r) q2⟩
theorem pe_methG0 {pl : Sem Bool} (he : PE X o ta) (c : Cls X.K C) (hm : Meth X.K C m f) (F : FnG X.prog X.w X.K X.mg X.base CX k f fd ps sp) (hr : RoomG k X.A) (hb : Binds X.K fd ps []) (hx : ∀ σ, PassesAt CX X σ (E σ))
    (ht : eval (.Call (.Attribute o m apos) [] [] pos) X.env = (do
      let ov ← eval o X.env
      standAt apos.atName
      let (f, first) ← holding [ov] (getMethod ov m pl)
      callWith pos f first (backTo pos (starEach [] X.env)) (backToKw pos (keywordEach [] X.env))) := by rfl) :
    PE X (.Call (.Attribute o m apos) [] [] pos) (tMethG C m sp E ta tNil) := ⟨fun pins s σ H Q I h => by
  refine PySem.W.methodCall_KW (pl := pl) (thn (he.run pins s σ H _ I h) fun u s1 ⟨y, H1, I1, rx, a, dx, fs, ex, ea, l, q⟩ => ?_) ht
  subst ex
  obtain rfl : u = Value.ref a := rx
  refine getmeth_ok I1 ea c hm l ?_
  exact PySem.W.callWith_K0 (first := [.ref a]) I1.kIn hm.kp (run_fnG (us := [.ref a]) (vs := [.ref a]) F hr hb (hx σ) I1 (.cons rfl .nil) q)⟩
theorem pe_callG0 (F : FnG X.prog X.w X.K X.mg X.base CX k f fd ps sp) (hr : RoomG k X.A) (hg : Gl X x) (hm : X.mg x = some (.ref f)) (hk : PySem.W.keepIn X.K (.ref f) = true) (hb : Binds X.K fd ps []) (hx : ∀ σ, PassesAt CX X σ (E σ))
    (hdb : (x == ("__debug__" : Str)) = false := by decide) : PE X (.Call (.Name x p) [] [] pos) (fun σ H Q => sp [] H Q (E σ)) := ⟨fun pins s σ H Q I h => by
  refine wpAny_Call_Name_kw (ld_glob I hg hm ?_ hdb)
  exact PySem.W.callWith_K0 I.kIn hk (run_fnG (us := []) F hr hb (hx σ) I .nil h)⟩
end
/-- the receiver: an own instance of n without an attribute m -/
def methK (n m : Str) : Option D → Bool
  | some (.ins true c ks _) => decide (c = n) && !(ks.contains m)
  | _ => false
def methK2 (mf : MF) : Option (List D × List (Option Nat) × En) → Out Hd | some (ds, ms, σ) => callOut ms σ (mf ds) | none => .err
def methK1 (mf : MF) (ho : Hd) (hs : List Hd) (σ : En) : Out Hd := methK2 mf (argsOf (ho :: hs) σ)
def methK0 (n m : Str) (mf : MF) (fs : AF) (ho : Hd) (σ : En) : Out Hd := if methK n m (deref ho σ) = true then (fs σ).bind (methK1 mf ho) else .err
/-- o.m(e, ..) -/
def eMeth (n m : Str) (mf : MF) (fo : EF) (fs : AF) : EF := fun σ => (fo σ).bind (methK0 n m mf fs)
def eCall0 (mf : MF) : EF := fun σ => callOut [] σ (mf [])
section
variable {X : Cx} {W : WX} {mf : MF} {fo : EF} {fs : AF} {k n : Nat} {f C : Addr} {fd : FuncData} {ps : List Str} {x m c : Str} {p pos apos : Pos} {o e : Expr} {es : List Expr}
theorem lookup_none_of {m : Str} : ∀ {fs : List (Str × V)}, (fs.map (·.1)).contains m = false → fs.lookup m = none
  | [], _ => rfl
  | (g, y) :: fs, h => by
    simp only [List.map_cons, List.contains_cons, Bool.or_eq_false_iff] at h
    simp only [List.lookup]
    rw [h.1]
    exact lookup_none_of h.2
theorem meth_good {C : Addr} {tA : TA} (hc : X.mg c = some (.ref C)) (hn : ∀ σ hs σ', fs σ = .ok hs σ' → hs.length = n) (hA : ∀ σ H Q, TAd X.K X.mg W fs σ H Q → tA σ H Q) {σ : L2.St} {H : Hp} {Q : VK} (h : TEd X.K X.mg W (eMeth c m mf fo fs) σ H Q) : tMethG C m (spM X.K X.mg (n + 1) mf) (WE W) (TEd X.K X.mg W fo) tA σ H Q := by
  obtain ⟨φd, φv, σd, w, q⟩ := h
  obtain ⟨φd1, φv1, σd1, w1, q1⟩ := ted_step (WdH.nil w) q
  refine ⟨φd1, φv1, σd1, w1, q1.mono (fun h1 σ1 kk y H1 w1 => ?_) fun _ _ _ _ q => q⟩
  obtain ⟨h', σ', w', q'⟩ := kk y H1 w1
  unfold methK0 at q'
  split at q'
  · rename_i hk
    cases ed : deref h' σ' with
    | none => rw [ed] at hk; cases hk
    | some d =>
      rw [ed] at hk
      unfold methK at hk
      split at hk
      · rename_i c' ks vs ee
        cases ee
        simp only [Bool.and_eq_true, decide_eq_true_eq, Bool.not_eq_true'] at hk
        obtain ⟨rfl, hno⟩ := hk
        obtain ⟨g, rd⟩ := w'.rep (k := 0) rfl rfl ed
        cases rd with
        | insO hi hmg ic na r =>
          rename_i a C' dx fs' fp
          have eC : C' = C := by rw [hc] at hmg; cases hmg; rfl
          subst eC
          refine ⟨a, dx, fs', rfl, hi, lookup_none_of hno, hA _ _ _ ?_⟩
          obtain ⟨φd2, φv2, σd2, w2, q2⟩ := tad_step w' q'
          have hl := hn σd2
          refine ⟨φd2, φv2, σd2, w2, ?_⟩
          revert q2 hl
          cases fs σd2 with
          | err => exact fun q _ => q
          | exc c ks vs σ1 => exact fun q _ => q
          | ok hs σ3 =>
            intro k2 hl zs H2 w3
            obtain ⟨hs', σ4, w4, q4⟩ := k2 zs H2 w3
            have e1 : hs.length = n := hl hs σ3 rfl
            have hzs : zs.length = n := by rw [← w3.len]; exact e1
            unfold methK1 methK2 at q4
            have := call_good (m := mf) (Q := Q) w4 q4
            have e2 : (([] ++ [V.ref a] ++ zs) : List V).length = n + 1 := by simp [hzs]
            rw [e2] at this
            exact this
      · cases hk
  · exact q'.elim
theorem le_meth {pl : Sem Bool} (ic : InsC X.K C) (hm : Meth X.K C m f) (hc : X.mg c = some (.ref C)) (F : FnG X.prog X.w X.K X.mg X.base (L2.CX X.prog X.w) k f fd ps (spM X.K X.mg (n + 1) mf)) (hr : RoomG k X.A) (hb : Binds X.K fd ps []) (tk : Takes X W)
    (ho : LE X W o fo) (ha : LA X W (e :: es) fs) (hn : ∀ σ hs σ', fs σ = .ok hs σ' → hs.length = n)
    (hst : starEach (e :: es) X.env = (false, eval e X.env) :: starEach es X.env := by rfl) (hpl : (backTo pos (starEach es X.env)).any (·.1) = false := by rfl)
    (ht : eval (.Call (.Attribute o m apos) (e :: es) [] pos) X.env = (do
      let ov ← eval o X.env
      standAt apos.atName
      let (f, first) ← holding [ov] (getMethod ov m pl)
      callWith pos f first (backTo pos (starEach (e :: es) X.env)) (backToKw pos (keywordEach [] X.env))) := by rfl) :
    LE X W (.Call (.Attribute o m apos) (e :: es) [] pos) (eMeth c m mf fo fs) :=
  PE.imp (pe_methG (E := WE W) ho ic.cl hm F hr hb (passAt tk) ha hst hpl ht) fun σ H Q h => meth_good hc hn (fun _ _ _ h => h) h
theorem le_meth0 {pl : Sem Bool} (ic : InsC X.K C) (hm : Meth X.K C m f) (hc : X.mg c = some (.ref C)) (F : FnG X.prog X.w X.K X.mg X.base (L2.CX X.prog X.w) k f fd ps (spM X.K X.mg 1 mf)) (hr : RoomG k X.A) (hb : Binds X.K fd ps []) (tk : Takes X W)
    (ho : LE X W o fo)
    (ht : eval (.Call (.Attribute o m apos) [] [] pos) X.env = (do
      let ov ← eval o X.env
      standAt apos.atName
      let (f, first) ← holding [ov] (getMethod ov m pl)
      callWith pos f first (backTo pos (starEach [] X.env)) (backToKw pos (keywordEach [] X.env))) := by rfl) :
    LE X W (.Call (.Attribute o m apos) [] [] pos) (eMeth c m mf fo aNil) :=
  PE.imp (pe_methG0 (E := WE W) ho ic.cl hm F hr hb (passAt tk) ht) fun σ H Q h => meth_good (n := 0) hc aLen_nil (fun σ H Q ⟨φd, φv, σd, w, q⟩ => q [] H (WdH.nil w)) h
theorem le_call0 (F : FnG X.prog X.w X.K X.mg X.base (L2.CX X.prog X.w) k f fd ps (spM X.K X.mg 0 mf)) (hr : RoomG k X.A) (hg : Gl X x) (hm : X.mg x = some (.ref f)) (hk : PySem.W.keepIn X.K (.ref f) = true) (hb : Binds X.K fd ps []) (tk : Takes X W)
    (hdb : (x == ("__debug__" : Str)) = false := by decide) : LE X W (.Call (.Name x p) [] [] pos) (eCall0 mf) :=
  PE.imp (pe_callG0 (E := WE W) F hr hg hm hk hb (passAt tk) hdb) fun σ H Q ⟨φd, φv, σd, w, q⟩ => by
    have := call_good (m := mf) (Q := Q) (WdH.nil w) q
    simpa using this
end
end DL
namespace DL
open PySem PySem.Spec PyProof.Rows L2 LamX
section
variable {X : Cx} {W : WX} {P : Addr} {q : Str} {H0 : EF → EF} {fb : EF}
theorem le_lamF {x a : Str} {g c : Addr} {k tt : Nat} {st : Stmt} {fd : FuncData} {Ng : List Str}
    {params : Arguments} {body : Expr} {scope : Scope} {p lpos pos : Pos} (hg : Gl X x) (hm : X.mg x = some (.ref g)) (F : Fun X.K x x st g fd)
    (hb : L2.Binds X.K fd [a] []) (Sg : FnScope Ng [a] (defScope st)) (hNg : Ng[0]? = some a) (hva : Vis (defScope st) a)
    (hG : ∀ cdv, GivesP X (k + 1) Ng x (defScope st) g cdv (defBody st) a q (TTd' X.K X.mg H0 fb))
    (TB : TabB X.base X.mg c P) (hcode : X.env.code = .ref c) (hq : q = X.env.qual ++ "<lambda>") (hr : RoomG (k + 2) X.A) (L : LamS X.env.scope scope) (hdef : defaultsOf params X.env = ([], []))
    (hbind : ∀ (q : Str) (cl : List (Str × Addr)) (pm cv ctv : Value), bindArgs (PySem.W.kla_fn "<lambda>" q params body scope cl pm cv ctv) ⟨[], []⟩ = pure [])
    (hbody : ∀ (A : Around) (outer : List Env) (s : Shared) (H : Hp) (E : XK) (f c' : Addr), RoomG k (A.deeper (lamEnv X scope s.heap.objs.size f c')) → LE (lamCx X A outer s H E scope f c') (WB E) body fb)
    (hdb : (x == ("__debug__" : Str)) = false := by decide) (hd : (a == ("__debug__" : Str)) = false := by decide) (hcd : (a == ("__classdict__" : Str)) = false := by decide) :
    LE X W (.Call (.Name x p) [.Lambda params body scope lpos] [] pos) (eLamC P q tt H0 fb) := by
  obtain ⟨oc, od, kV, doc, pm, an, cdv, ct, osl, rfl, lk, hcd2⟩ := F.ex
  exact le_lam (kk := 0) hg hm F.kp lk hcd2 hb Sg hNg hva (hG cdv) TB hcode hq hr L hdef hbind hbody hdb hd hcd
end
end DL
/-! The D layer: texts, in, max of a tuple, count and index of flat items, going through a text, x op= e. -/
namespace DL
open PySem PySem.Spec PyProof.Rows L2
/-! ### flat trees -/
def flatD : D → Bool
  | .non => true
  | .bl _ => true
  | .int _ => true
  | .str _ => true
  | _ => false
def dV : D → V
  | .bl b => .bl b
  | .int i => .int i
  | .str s => .str s
  | _ => .non
section
variable {K : PySem.W.Frag} {mg : Str → Option Value} {H : Hp}
theorem flat_rep {d : D} {v : V} {f : List Addr} (h : flatD d = true) (r : RepD K mg H d v f) : v = dV d ∧ flatV v = true := by
  cases r <;> first | (exact ⟨rfl, rfl⟩) | (simp [flatD] at h)
theorem flatL_rep : ∀ {ds : List D} {vs : List V} {f : List Addr}, ds.all flatD = true → RepL K mg H ds vs f → vs = ds.map dV ∧ vs.all flatV = true
  | [], _, _, _, r => by cases r; exact ⟨rfl, rfl⟩
  | d :: ds, _, _, h, r => by
    cases r with
    | cons h0 h1 =>
      rw [List.all_cons, Bool.and_eq_true] at h
      obtain ⟨e1, e2⟩ := flat_rep h.1 h0
      obtain ⟨e3, e4⟩ := flatL_rep h.2 h1
      exact ⟨by rw [e1, e3]; rfl, by rw [List.all_cons, e2, e4]; rfl⟩
/-- the items of a list or tuple -/
theorem seq_rep {d : D} {v : V} {f : List Addr} {ds : List D} (r : RepD K mg H d v f) (e : (d = .tup ds ∨ ∃ o, d = .lst o ds)) : ∃ p xs g, v = .ref p ∧ (SqL K H p xs ∨ SqT K H p xs) ∧ RepL K mg H ds xs g := by
  rcases e with rfl | ⟨o, rfl⟩
  · cases r with | tup h r => exact ⟨_, _, _, rfl, .inr h, r⟩
  · cases o
    · cases r with | lstF h r => exact ⟨_, _, _, rfl, .inl h.sq, r⟩
    · cases r with | lstO h r => exact ⟨_, _, _, rfl, .inl (.inl (.inl h)), r⟩
end
/-! ### in, not in -/
def dInQ (neg : Bool) (a : D) (ds : List D) : Option D := if (flatD a && ds.all flatD) = true then some (.bl (if neg then !inV (dV a) (ds.map dV) else inV (dV a) (ds.map dV))) else none
def dIn (neg : Bool) : RD := fun a b => match b with
  | .tup ds => dInQ neg a ds
  | .lst _ ds => dInQ neg a ds
  | _ => none
theorem opd_in {K mg} (neg : Bool) : OpD K mg (dIn neg) (rIn K neg) := by
  intro H x y a b d f g φd φv σd σv Q ra rb e w k
  have key : ∀ ds, (b = .tup ds ∨ ∃ o, b = .lst o ds) → dInQ neg a ds = some d → rIn K neg x y H Q := fun ds hb e => by
    obtain ⟨p, xs, g', e1, hq, rl⟩ := seq_rep rb hb
    unfold dInQ at e
    split at e
    · rename_i hz
      cases e
      rw [Bool.and_eq_true] at hz
      obtain ⟨ea, fa⟩ := flat_rep hz.1 ra
      obtain ⟨es, fs⟩ := flatL_rep hz.2 rl
      refine ⟨p, xs, e1, hq, fa, fs, ?_⟩
      rw [ea, es]
      exact k _ H (w.push (.bl _))
    · cases e
  unfold dIn at e
  split at e
  · exact key _ (.inl rfl) e
  · exact key _ (.inr ⟨_, rfl⟩) e
  · cases e
def rSgn (neg : Bool) : R2 := fun x y H Q => ∃ (c : Nat) (z : Str), x = .str ⟨#[c]⟩ ∧ y = .str z ∧ Q (.bl (if neg then !decide (c ∈ z.cps.toList) else decide (c ∈ z.cps.toList))) H
theorem op_sgn {X : Cx} : OpR X (compareOp .In) (rSgn false) := fun pins s σ H x y v u Q I rx ry ⟨c, z, e1, e2, q⟩ => op_in_sign pins s σ H x y v u Q I rx ry ⟨c, z, e1, e2, q⟩
theorem op_nsgn {X : Cx} : OpR X (compareOp .NotIn) (rSgn true) := fun pins s σ H x y v u Q I rx ry ⟨c, z, e1, e2, q⟩ => op_notIn_sign pins s σ H x y v u Q I rx ry ⟨c, z, e1, e2, q⟩
/-- one sign within a text -/
def dSgn (neg : Bool) : RD := fun a b => match a, b with
  | .str x, .str z => match x.cps.toList with
    | [c] => some (.bl (if neg then !decide (c ∈ z.cps.toList) else decide (c ∈ z.cps.toList)))
    | _ => none
  | _, _ => none
theorem opd_sgn {K mg} (neg : Bool) : OpD K mg (dSgn neg) (rSgn neg) := by
  intro H x y a b d f g φd φv σd σv Q ra rb e w k
  unfold dSgn at e
  split at e
  · rename_i p q
    split at e
    · rename_i c hc
      cases e
      cases ra
      cases rb
      refine ⟨c, q, ?_, rfl, k _ H (w.push (.bl _))⟩
      obtain ⟨cps⟩ := p
      have : cps = #[c] := by
        obtain ⟨l⟩ := cps
        simpa using hc
      rw [this]
    · cases e
  · cases e
theorem or_in {X : Cx} : OpR X (compareOp .In) (fun x y H Q => rIn X.K false x y H Q ∨ rSgn false x y H Q) := OpR.or op_in_seq op_sgn
theorem or_nin {X : Cx} : OpR X (compareOp .NotIn) (fun x y H Q => rIn X.K true x y H Q ∨ rSgn true x y H Q) := OpR.or op_notIn_seq op_nsgn
def dInU (neg : Bool) : RD := fun a b => match b with
  | .str _ => dSgn neg a b
  | _ => dIn neg a b
theorem opd_inU {K mg} (neg : Bool) : OpD K mg (dInU neg) (fun x y H Q => rIn K neg x y H Q ∨ rSgn neg x y H Q) := by
  intro H x y a b d f g φd φv σd σv Q ra rb e w k
  unfold dInU at e
  split at e
  · exact .inr (opd_sgn neg H x y a _ d f g φd φv σd σv Q ra rb e w k)
  · exact .inl (opd_in neg H x y a _ d f g φd φv σd σv Q ra rb e w k)
/-! ### a text's methods of one argument -/
def isStrD : Option D → Bool
  | some (.str _) => true
  | _ => false
def eM1 (op : RD) (fa fb : EF) : EF := fun σ => (fa σ).bind fun ha σ1 => if isStrD (deref ha σ1) = true then (fb σ1).bind fun hb σ2 => match deref ha σ2, deref hb σ2 with
  | some x, some y => match op x y with
    | some d => .ok (.val d) σ2
    | none => .err
  | _, _ => .err else .err
def M1D (K : PySem.W.Frag) (mg : Str → Option Value) (op : RD) (r : V → List V → Hp → VK → Prop) : Prop :=
  ∀ (H : Hp) (x y : V) (a b d : D) (f g : List Addr) (φd : List D) (φv : List V) (σd : En) (σv : L2.St) (Q : VK), RepD K mg H a x f → RepD K mg H b y g → op a b = some d → Wd K mg H φd φv σd σv →
    (∀ z H', Wd K mg H' (φd ++ [d]) (φv ++ [z]) σd σv → Q z H') → r x [y] H Q
section
variable {X : Cx} {W : WX} {o e : Expr} {fa fb : EF} {apos pos : Pos}
theorem le_m1 {id : String} {name : Str} {op : RD} {r : V → List V → Hp → VK → Prop} (slot : Slot "str" name id) (ty : typeOf (.builtin id) = pure (.type "method_descriptor")) (rule : MtR X id r) (ho : M1D X.K X.mg op r) (h1 : LE X W o fa) (h2 : LE X W e fb)
    (hs : starEach [e] X.env = [(false, eval e X.env)] := by rfl) (hbase : attributeBase o name X.env (eval o X.env) = eval o X.env := by rfl) (hline : (apos.endLine == pos.line) = true := by rfl) :
    LE X W (.Call (.Attribute o name apos) [e] [] pos) (eM1 op fa fb) := PE.imp (pe_m1 slot ty rule h1 h2 hs hbase hline) fun σv H Q h => by
  obtain ⟨φd, φv, σd, w, q⟩ := h
  obtain ⟨φd1, φv1, σd1, w1, q1⟩ := ted_step (WdH.nil w) q
  refine ⟨φd1, φv1, σd1, w1, q1.mono (fun hh1 σ1 k y H1 w1 => ?_) fun _ _ _ _ q => q⟩
  obtain ⟨h', σ', w', q'⟩ := k y H1 w1
  split at q'
  · rename_i hst
    refine ⟨?_, ?_⟩
    · cases e0 : deref h' σ' with
      | none => rw [e0] at hst; cases hst
      | some d0 =>
        rw [e0] at hst
        obtain ⟨f, r1⟩ := w'.rep (k := 0) rfl rfl e0
        cases d0 <;> first | (cases hst; done) | skip
        cases r1
        exact ⟨_, rfl⟩
    · obtain ⟨φd2, φv2, σd2, w2, q2⟩ := ted_step w' q'
      refine ⟨φd2, φv2, σd2, w2, q2.mono (fun h2 σ2 k2 z H2 w2 => ?_) fun _ _ _ _ q => q⟩
      obtain ⟨h'', σ'', w'', q''⟩ := k2 z H2 w2
      split at q''
      · rename_i x' y' e1 e2
        split at q''
        · rename_i d e3
          obtain ⟨f, r1⟩ := w''.rep (k := 0) rfl rfl e1
          obtain ⟨g, r2⟩ := w''.rep (k := 1) rfl rfl e2
          exact ho H2 y z _ _ d f g φd φv σ'' σv Q r1 r2 e3 w''.out fun z' H' w3 => q'' z' H' (WdH.val w3)
        · exact q''.elim
      · exact q''.elim
  · exact q'.elim
end
/-- the texts of a list -/
def toS : List D → Option (List Str)
  | [] => some []
  | .str z :: r => match toS r with
    | some zs => some (z :: zs)
    | none => none
  | _ => none
theorem toS_rep {K mg} {H : Hp} : ∀ {ds : List D} {zs : List Str} {vs : List V} {f : List Addr}, toS ds = some zs → RepL K mg H ds vs f → vs = zs.map V.str
  | [], _, _, _, e, r => by cases e; cases r; rfl
  | .str z :: ds, _, _, _, e, r => by
    cases r with
    | cons h0 h1 =>
      unfold toS at e
      split at e
      · rename_i zs ez
        cases e
        cases h0
        rw [toS_rep ez h1]; rfl
      · cases e
  | .non :: _, _, _, _, e, _ => by cases e
  | .bl _ :: _, _, _, _, e, _ => by cases e
  | .int _ :: _, _, _, _, e, _ => by cases e
  | .ty _ :: _, _, _, _, e, _ => by cases e
  | .fn _ :: _, _, _, _, e, _ => by cases e
  | .scr _ :: _, _, _, _, e, _ => by cases e
  | .gone :: _, _, _, _, e, _ => by cases e
  | .exn _ _ _ _ _ :: _, _, _, _, e, _ => by cases e
  | .lam _ _ _ _ _ :: _, _, _, _, e, _ => by cases e
  | .tab _ _ :: _, _, _, _, e, _ => by cases e
  | .tup _ :: _, _, _, _, e, _ => by cases e
  | .lst _ _ :: _, _, _, _, e, _ => by cases e
  | .ins _ _ _ _ :: _, _, _, _, e, _ => by cases e
  | .dct _ _ _ :: _, _, _, _, e, _ => by cases e
def joinOk (a : Str) (zs : List Str) : Prop := (zs.map (·.length)).sum + zs.length * a.length ≤ 16777216
instance (a : Str) (zs : List Str) : Decidable (joinOk a zs) := inferInstanceAs (Decidable (_ ≤ _))
def dJoinQ (a : Str) (ds : List D) : Option D := match toS ds with
  | some zs => if joinOk a zs then some (.str (Txt.join a zs)) else none
  | none => none
def dJoin : RD := fun a b => match a, b with
  | .str a, .lst _ ds => dJoinQ a ds
  | .str a, .tup ds => dJoinQ a ds
  | _, _ => none
abbrev rJoin (X : Cx) : V → List V → Hp → VK → Prop := fun x xs H Q => ∃ a p, ∃ ys : List Str, x = .str a ∧ xs = [.ref p] ∧ (SqL X.K H p (ys.map V.str) ∨ SqT X.K H p (ys.map V.str)) ∧ (ys.map (·.length)).sum + ys.length * a.length ≤ 16777216 ∧ Q (.str (Txt.join a ys)) H
theorem m1d_join {X : Cx} : M1D X.K X.mg dJoin (rJoin X) := by
  intro H x y a b d f g φd φv σd σv Q ra rb e w k
  have key : ∀ z ds, a = .str z → (b = .tup ds ∨ ∃ o, b = .lst o ds) → dJoinQ z ds = some d → rJoin X x [y] H Q := fun z ds ha hb e0 => by
    subst ha
    cases ra
    obtain ⟨p, xs, g', e1, hq, rl⟩ := seq_rep rb hb
    unfold dJoinQ at e0
    split at e0
    · rename_i zs ez
      split at e0
      · rename_i hz
        cases e0
        have ex := toS_rep ez rl
        subst ex
        exact ⟨z, p, zs, rfl, by rw [e1], hq, hz, k _ H (w.push (.str _))⟩
      · cases e0
    · cases e0
  unfold dJoin at e
  split at e
  · exact key _ _ rfl (.inr ⟨_, rfl⟩) e
  · exact key _ _ rfl (.inl rfl) e
  · cases e
def splitOk (a b : Str) : Prop := (b.length == 0) = false ∧ a.length + 2 ≤ 16777216
instance (a b : Str) : Decidable (splitOk a b) := inferInstanceAs (Decidable (_ ∧ _))
def dSplit : RD := fun a b => match a, b with
  | .str a, .str b => if splitOk a b then some (.lst true ((Txt.split a b).map .str)) else none
  | _, _ => none
theorem RepL.strs {K mg} {H : Hp} : ∀ zs : List Str, RepL K mg H (zs.map D.str) (zs.map V.str) []
  | [] => .nil
  | z :: zs => .cons (f := []) (.str z) (RepL.strs zs)
theorem m1d_split {K mg} : M1D K mg dSplit (fun x xs H Q => ∃ a b, x = .str a ∧ xs = [.str b] ∧ (b.length == 0) = false ∧ a.length + 2 ≤ sizeLine ∧ rNewStrs (Txt.split a b) H Q) := by
  intro H x y a b d f g φd φv σd σv Q ra rb e w k
  unfold dSplit at e
  split at e
  · split at e
    · rename_i hz
      cases e
      cases ra
      cases rb
      refine ⟨_, _, rfl, rfl, hz.1, by rw [sizeLine_eq]; exact hz.2, fun p hp => k _ _ ?_⟩
      exact (w.pushL (RepL.strs _)).newList (by simp) hp
    · cases e
  · cases e
/-! ### str(i), int(z) -/
def strIOk (i : Int) : Prop := i.natAbs.log2 < 1920
instance (i : Int) : Decidable (strIOk i) := inferInstanceAs (Decidable (_ < _))
def dStrI : D → Option D
  | .int i => if strIOk i then some (.str (toString i)) else none
  | _ => none
theorem und_strI {K mg} : UnD K mg dStrI (fun v H Q => ∃ i, [v] = [V.int i] ∧ i.natAbs.log2 < 1920 ∧ Q (.str (toString i)) H) := by
  intro H x a d f φd φv σd σv Q ra e w k
  unfold dStrI at e
  split at e
  · split at e
    · rename_i hz
      cases e; cases ra
      exact ⟨_, rfl, hz, k _ H (w.push (.str _))⟩
    · cases e
  · cases e
def dIntS : D → Option D
  | .str a => match PySem.intText? a with
    | some n => if a.length ≤ 640 then some (.int n) else none
    | none => none
  | _ => none
theorem und_intS {K mg} : UnD K mg dIntS (fun v H Q => ∃ a n, [v] = [V.str a] ∧ PySem.intText? a = some n ∧ a.length ≤ 640 ∧ Q (.int n) H) := by
  intro H x a d f φd φv σd σv Q ra e w k
  unfold dIntS at e
  split at e
  · split at e
    · rename_i n hn
      split at e
      · rename_i hz
        cases e; cases ra
        exact ⟨_, n, rfl, hn, hz, k _ H (w.push (.int _))⟩
      · cases e
    · cases e
  · cases e
/-! ### max of a tuple or list of ints -/
def rMaxT (K : PySem.W.Frag) : List V → Hp → VK → Prop := fun vs H Q => ∃ (a : Addr) (n : Int) (ns : List Int), vs = [V.ref a] ∧ SqT K H a ((n :: ns).map V.int) ∧ Q (.int (PySem.W.maxOf n ns)) H
theorem holds_ints {h : Heap} : ∀ {its : List Value} {ns : List Int}, Vals (ns.map V.int) its → PySem.W.HoldAll h its ns
  | its, [], r => by cases r; exact ⟨[], .nil⟩
  | _, n :: ns, r => by
    cases r with
    | cons r1 r2 =>
      obtain ⟨t, rfl⟩ := r1
      obtain ⟨as, q⟩ := holds_ints r2
      exact ⟨[] ++ as, .cons (.int n t) q⟩
theorem cr_maxT {X : Cx} (hc : X.calm = true) (hu : X.A.units + 64 < cLine) : CallR X (.builtin "max") (rMaxT X.K) := by
  intro pins s σ H vs us Q I r h
  obtain ⟨a, n, ns, rfl, hs, q⟩ := h
  obtain ⟨its, rv, p, hz⟩ := I.tuple hs
  rw [Vals.ref1 r]
  refine PySem.W.max_tuple_datum (α := Int) (x := n) (xs := ns) (I.ok.hd hc) (show s.heap.IsTuple a its.toArray from p) (holds_ints (by simpa using rv)) (by show X.A.units + 1 + 0 < cLine; omega) fun i v h' tk hv hh hk => ?_
  obtain ⟨as, rd⟩ := hh
  cases rd
  exact ⟨.int _, H, I.kept hk, ⟨_, rfl⟩, q⟩
def dMaxT : D → Option D
  | .tup ds => match toI ds with
    | some (n :: ns) => some (.int (PySem.W.maxOf n ns))
    | _ => none
  | _ => none
theorem und_maxT {K mg} : UnD K mg dMaxT (fun v H Q => rMaxT K [v] H Q) := by
  intro H x a d f φd φv σd σv Q ra e w k
  unfold dMaxT at e
  split at e
  · split at e
    · rename_i n ns en
      cases e
      cases ra with
      | tup h r =>
        have := toI_rep r en
        subst this
        exact ⟨_, n, ns, rfl, h, k _ H (w.push (.int _))⟩
    · cases e
  · cases e
/-! ### count and index of flat items -/
def rCntF (K : PySem.W.Frag) : V → List V → Hp → VK → Prop := fun x xs H Q => ∃ (p : Addr) (ys : List V) (y : V), x = .ref p ∧ xs = [y] ∧ SqL K H p ys ∧ flatV y = true ∧ ys.all flatV = true ∧ Q (.int (ys.countP (fun z => eqV z y) : Nat)) H
theorem count_eqU {x : V} : ∀ {xs : List V} {us : List Value}, Vals xs us → xs.all flatV = true → us.countP (eqU x) = xs.countP fun y => eqV y x
  | _, _, .nil, _ => rfl
  | y :: xs, u :: us, .cons r t, f => by
    rw [List.all_cons, Bool.and_eq_true] at f
    rw [List.countP_cons, List.countP_cons, eqU_of r f.1, count_eqU t f.2]
theorem mt_cntF {X : Cx} : MtR X "list.count" (rCntF X.K) := by
  intro pins s σ H x xs v us Q I rx rxs h
  obtain ⟨p, ys, y, rfl, rfl, hs, fy, fys, q⟩ := h
  cases rx
  obtain ⟨uy, rfl, ry⟩ := rxs.one
  obtain ⟨its, rv, ⟨⟨cls, dd, data, sl⟩, n, ho, hc, hdn, hd⟩, hlen⟩ := I.list hs
  simp only at hc hd
  subst hc hd
  refine call_meets PySem.F.slot_list_count ⟨_, ho, rfl⟩ PySem.F.entry_list_count (PySem.F.args_list_count_2 _ _)
    (SeqAt.list_countAt p its.toArray n dd sl uy (eqU y)) ⟨ho, fun u hu => mem_eqAt ry fy rv fys u (by simpa using hu), ?_⟩
  have ec : its.toArray.toList.countP (eqU y) = ys.countP fun z => eqV z y := count_eqU rv fys
  refine ⟨.int (ys.countP (fun z => eqV z y) : Nat), H, I.tok _, ⟨s.toks, ?_⟩, q⟩
  rw [ec]
def mCnt : List D → List D → Option (D × List D) := fun ds ws => match ws with
  | [d] => if (flatD d && ds.all flatD) = true then some (.int ((ds.map dV).countP (fun z => eqV z (dV d)) : Nat), ds) else none
  | _ => none
def findV (x : V) : List V → Option Nat
  | [] => none
  | y :: ys => if eqV y x = true then some 0 else match findV x ys with
    | some j => some (j + 1)
    | none => none
theorem findV_some {x : V} : ∀ {ys : List V} {j : Nat}, findV x ys = some j → ∃ z, ys[j]? = some z ∧ eqV z x = true ∧ ∀ (m : Nat) (z' : V), m < j → ys[m]? = some z' → eqV z' x = false
  | y :: ys, j, h => by
    unfold findV at h
    split at h
    · rename_i hz
      cases h
      exact ⟨y, rfl, hz, fun m z' hm => by omega⟩
    · rename_i hz
      split at h
      · rename_i j' hj
        cases h
        obtain ⟨z, e1, e2, e3⟩ := findV_some hj
        refine ⟨z, by simpa using e1, e2, fun m z' hm e => ?_⟩
        cases m with
        | zero =>
          simp at e
          subst e
          simpa using hz
        | succ m => exact e3 m z' (by omega) (by simpa using e)
      · cases h
def mIdx : List D → List D → Option (D × List D) := fun ds ws => match ws with
  | [d] => if (flatD d && ds.all flatD) = true then (match findV (dV d) (ds.map dV) with
    | some j => some (.int (j : Nat), ds)
    | none => none) else none
  | _ => none
/-- a question to a list: it stays -/
def MqD (K : PySem.W.Frag) (mg : Str → Option Value) (m : List D → List D → Option (D × List D)) (r : V → List V → Hp → VK → Prop) : Prop :=
  ∀ (H : Hp) (p : Addr) (xs vs : List V) (ds ws ds' : List D) (d : D) (fl ft : List Addr) (Q : VK), SqL K H p xs → RepL K mg H ds xs fl → RepL K mg H ws vs ft → m ds ws = some (d, ds') → ds' = ds ∧ ∃ v, (∀ H', RepD K mg H' d v []) ∧ (Q v H → r (.ref p) vs H Q)
theorem mqd_cnt {K mg} : MqD K mg mCnt (rCntF K) := by
  intro H p xs vs ds ws ds' d fl ft Q hp rl rw_ e
  unfold mCnt at e
  split at e
  · rename_i d0
    split at e
    · rename_i hz
      cases e
      rw [Bool.and_eq_true] at hz
      obtain ⟨v, rfl, rd⟩ := rw_.one_inv
      obtain ⟨e1, f1⟩ := flat_rep hz.1 rd
      obtain ⟨e2, f2⟩ := flatL_rep hz.2 rl
      refine ⟨rfl, _, fun H' => .int _, fun q => ⟨p, xs, v, rfl, rfl, hp, f1, f2, ?_⟩⟩
      rw [e1, e2]; exact q
    · cases e
  · cases e
theorem mqd_idx {K mg} : MqD K mg mIdx (rIndex K) := by
  intro H p xs vs ds ws ds' d fl ft Q hp rl rw_ e
  unfold mIdx at e
  split at e
  · rename_i d0
    split at e
    · rename_i hz
      split at e
      · rename_i j hj
        cases e
        rw [Bool.and_eq_true] at hz
        obtain ⟨v, rfl, rd⟩ := rw_.one_inv
        obtain ⟨e1, f1⟩ := flat_rep hz.1 rd
        obtain ⟨e2, f2⟩ := flatL_rep hz.2 rl
        obtain ⟨z, g1, g2, g3⟩ := findV_some hj
        refine ⟨rfl, _, fun H' => .int _, fun q => ⟨p, xs, v, j, z, rfl, rfl, hp, f1, f2, by rw [e2]; exact g1, by rw [e1]; exact g2, fun m z' hm h => ?_, q⟩⟩
        rw [e1]
        rw [e2] at h
        exact g3 m z' hm h
      · cases e
    · cases e
  · cases e
end DL
namespace DL
open PySem PySem.Spec PyProof.Rows L2
/-! ### going through a text -/
def strItems (z : Str) : List D := z.cps.toList.map fun c => .str ⟨#[c]⟩
def itStrK2 : Option D → En → Out (List D)
  | some (.str z), σ => .ok (strItems z) σ
  | _, _ => .err
def itStrK (h : Hd) (σ : En) : Out (List D) := itStrK2 (deref h σ) σ
def iStrD (f : EF) : IF := fun σ => (f σ).bind itStrK
theorem walk_str {K : PySem.W.Frag} {mg : Str → Option Value} (z : Str) : IterOk K mg (Its z) (strItems z) [] [] := by
  have hl : (strItems z).length = z.cps.size := by simp [strItems]
  refine ⟨⟨fun i H hi r => ?_, fun H r => ?_, fun i H x H' hi r y => ?_⟩⟩
  · show i < z.cps.size
    omega
  · show z.cps.size ≤ (strItems z).length
    omega
  · obtain ⟨e1, c, hc, ev⟩ := y
    subst e1 ev
    refine ⟨Stp.refl _, fun _ _ h => h, .str ⟨#[c]⟩, ?_, .str _⟩
    simp [strItems, hc]
section
variable {X : Cx} {W : WX} {tg e o : Expr} {fa fo : EF} {fs : AF} {es : List Expr} {apos cpos : Pos}
theorem li_str (h : LE X W e fa) : LI X W tg e (iStrD fa) := PI.imp (pi_str h) fun σ H R ⟨φd, φv, σd, w, q⟩ => by
  obtain ⟨φd1, φv1, σd1, w1, q1⟩ := ted_step (WdH.nil w) q
  refine ⟨φd1, φv1, σd1, w1, q1.mono (fun h1 σ1 k y H1 w1 => ?_) fun _ _ _ _ q => q⟩
  obtain ⟨h', σ', w', q'⟩ := k y H1 w1
  unfold itStrK at q'
  generalize e0 : deref h' σ' = oo at q'
  unfold itStrK2 at q'
  split at q'
  · rename_i z
    obtain ⟨f, r⟩ := w'.rep (k := 0) rfl rfl e0
    cases r
    exact ⟨z, rfl, q' _ [] [] H1 rfl .nil (walk_str z) w'.out⟩
  · exact q'.elim
/-! ### questions to a list -/
def eMq (fo : EF) (fs : AF) (m : List D → List D → Option (D × List D)) : EF := fun σ => (fo σ).bind fun ho σ1 => if isLst (deref ho σ1) = true then (fs σ1).bind fun hs σ2 => match hs with
  | [h1] => match deref ho σ2, deref h1 σ2 with
    | some (.lst _ ds), some w => match m ds [w] with
      | some (d, _) => .ok (.val d) σ2
      | none => .err
    | _, _ => .err
  | _ => .err else .err
theorem eMq_good {m : List D → List D → Option (D × List D)} {r : V → List V → Hp → VK → Prop} (hm : MqD X.K X.mg m r) {σ : L2.St} {H : Hp} {Q : VK} (h : TEd X.K X.mg W (eMq fo fs m) σ H Q) :
    tBM X.K "list" r (TEd X.K X.mg W fo) (TAd X.K X.mg W fs) σ H Q := by
  obtain ⟨φd, φv, σd, w, q⟩ := h
  obtain ⟨φd1, φv1, σd1, w1, q1⟩ := ted_step (WdH.nil w) q
  refine ⟨φd1, φv1, σd1, w1, q1.mono (fun h1 σ1 k y H1 w1 => ?_) fun _ _ _ _ q => q⟩
  obtain ⟨h', σ', w', q'⟩ := k y H1 w1
  split at q'
  · rename_i hl
    have ex : ∃ d, deref h' σ' = some d := by
      cases e : deref h' σ' with
      | none => rw [e] at hl; cases hl
      | some d => exact ⟨d, rfl⟩
    obtain ⟨d0, ed0⟩ := ex
    obtain ⟨f0, r0⟩ := w'.rep (k := 0) rfl rfl ed0
    refine ⟨isLst_ty (mg := X.mg) (f := f0) hl (fun d' e => by rw [ed0] at e; cases e; exact r0), ?_⟩
    obtain ⟨φd2, φv2, σd2, w2, q2⟩ := tad_step w' q'
    refine ⟨φd2, φv2, σd2, w2, q2.mono (fun hs σ3 k2 zs H2 w3 => ?_) fun _ _ _ _ q => q⟩
    obtain ⟨hs', σ4, w4, q4⟩ := k2 zs H2 w3
    split at q4
    · rename_i hh
      split at q4
      · rename_i o ds wd e1 e2
        split at q4
        · rename_i d ds' e3
          have l4 := w4.len
          match zs, w4, l4 with
          | [], w4, l4 => exact absurd l4 (by simp)
          | [z], w4, _ =>
            obtain ⟨f, r1⟩ := w4.rep (k := 0) rfl rfl e1
            obtain ⟨g, r2⟩ := w4.rep (k := 1) rfl rfl e2
            obtain ⟨p, xs, g', rfl, hq, rl, _⟩ := r1.lst_inv
            obtain ⟨_, v, hv, kq⟩ := hm H2 p xs [z] ds [wd] ds' d _ _ Q (.inl hq) rl (.one r2) e3
            exact kq (q4 v H2 (WdH.val (w4.out.push (hv H2))))
          | _ :: _ :: _, w4, l4 => exact absurd l4 (by simp)
        · exact q4.elim
      · exact q4.elim
    · exact q4.elim
  · exact q'.elim
theorem le_count (ho : LE X W o fo) (ha : LA X W (e :: es) fs) (hbase : attributeBase o "count" X.env (eval o X.env) = eval o X.env := by rfl)
    (hfew : ((backTo cpos (starEach (e :: es) X.env)).all (fun x => !x.1) && (backToKw cpos (keywordEach [] X.env)).all (fun x => x.1.isSome)
      && decide ((e :: es).length + ([] : List Keyword).length + (if ([] : List Keyword).isEmpty then 0 else 1) < 30)) = true := by rfl)
    (hline : (apos.endLine == cpos.line) = true := by rfl) (hs : starEach (e :: es) X.env = (false, eval e X.env) :: starEach es X.env := by rfl) (hplain : (backTo cpos (starEach es X.env)).any (·.1) = false := by rfl) :
    LE X W (.Call (.Attribute o "count" apos) (e :: es) [] cpos) (eMq fo fs mCnt) :=
  PE.imp (pe_bm PySem.F.plainAttrs_list PySem.F.slot_list_count PySem.F.type_list_count mt_cntF ho ha hbase hfew hline hs hplain) fun _ _ _ => eMq_good mqd_cnt
theorem le_index (ho : LE X W o fo) (ha : LA X W (e :: es) fs) (hbase : attributeBase o "index" X.env (eval o X.env) = eval o X.env := by rfl)
    (hfew : ((backTo cpos (starEach (e :: es) X.env)).all (fun x => !x.1) && (backToKw cpos (keywordEach [] X.env)).all (fun x => x.1.isSome)
      && decide ((e :: es).length + ([] : List Keyword).length + (if ([] : List Keyword).isEmpty then 0 else 1) < 30)) = true := by rfl)
    (hline : (apos.endLine == cpos.line) = true := by rfl) (hs : starEach (e :: es) X.env = (false, eval e X.env) :: starEach es X.env := by rfl) (hplain : (backTo cpos (starEach es X.env)).any (·.1) = false := by rfl) :
    LE X W (.Call (.Attribute o "index" apos) (e :: es) [] cpos) (eMq fo fs mIdx) :=
  PE.imp (pe_bm PySem.F.plainAttrs_list PySem.F.slot_list_index PySem.F.type_list_index mt_index ho ha hbase hfew hline hs hplain) fun _ _ _ => eMq_good mqd_idx
/-! ### a text that the module holds -/
theorem le_globS {x : Str} {z : Str} {t : Tok} {pos : Pos} (hg : Gl X x) (hm : X.mg x = some (.str z t)) (hd : (x == ("__debug__" : Str)) = false := by decide) : LE X W (.Name x pos) (eC (.str z)) :=
  le_const (pe_glob (v := .str z) hg hm ⟨t, rfl⟩ hd) fun _ => .str z
/-- {} -/
theorem le_dict0 {pos : Pos} : LE X W (.Dict [] [] pos) (eC (.dct true [] [])) := PE.imp pe_dnewK fun σ H Q ⟨φd, φv, σd, w, q⟩ p hp => by
  have w2 := w.fresh (o := .dK []) hp
  refine q (.ref p) _ (WdH.val ?_)
  obtain ⟨f, g, r1, r2, nd⟩ := w2
  refine ⟨f ++ [p], g, r1.append (.one (.dctO (kvs := []) upd_same .nil)), r2, ?_⟩
  obtain ⟨f', g', r1', r2', nd'⟩ := w
  have np : p ∉ f' ++ g' := fun z => by
    rcases List.mem_append.mp z with z | z
    · obtain ⟨o, e⟩ := r1'.there _ p z; rw [hp] at e; cases e
    · obtain ⟨o, e⟩ := r2'.there p z; rw [hp] at e; cases e
  have st : Stp H (upd H p (.dK [])) := Stp.fresh hp
  have keep : ∀ b o, H b = some o → upd H p (.dK []) b = H b := fun b o e => upd_ne (fun z => by rw [z, hp] at e; cases e)
  have u1 := RepL.fp_uniq (r1'.mono st _ fun b hb => let ⟨o, e⟩ := r1'.there _ b hb; keep b o e) r1
  have u2 : g' = g := by
    have m := r2'.mono st fun b hb => let ⟨o, e⟩ := r2'.there b hb; keep b o e
    exact RepL.fp_uniq m.toL.1 r2.toL.1
  subst u1 u2
  have := List.nodup_cons.mpr ⟨np, nd'⟩
  refine List.Perm.nodup_iff ?_ |>.mp this
  rw [List.append_assoc]
  exact (List.perm_middle).symm
/-! ### x += e of a name -/
def dAug : RD := fun a b => match a, b with
  | .int i, .int j => some (.int (i + j))
  | .str i, .str j => if i.length + j.length ≤ 16777216 then some (.str (i ++ j)) else none
  | _, _ => none
def tiAug : TIp := fun x y H Q => (∃ i j, x = .int i ∧ y = .int j ∧ Q (.int (i + j)) H) ∨ ∃ i j, x = .str i ∧ y = .str j ∧ i.length + j.length ≤ sizeLine ∧ Q (.str (i ++ j)) H
theorem ip_aug : PIp X .Add tiAug := fun pins s σ H x y v u Q I r1 r2 h => by
  rcases h with ⟨i, j, e1, e2, q⟩ | ⟨i, j, e1, e2, hz, q⟩
  · exact ip_add pins s σ H x y v u Q I r1 r2 ⟨i, j, e1, e2, q⟩
  · exact in_addS pins s σ H x y v u Q I r1 r2 ⟨i, j, e1, e2, hz, q⟩
def augK2 (i : Nat) (op : RD) : Option D → Option D → En → OutS
  | some x, some y, σ => match op x y with
    | some d => if i < σ.length then .nx (σ.set i (some d)) else .err
    | none => .err
  | _, _, _ => .err
def augK (i : Nat) (op : RD) (h : Hd) (σ : En) : OutS := augK2 i op (sget σ i) (deref h σ) σ
def sAug (i : Nat) (op : RD) (f : EF) : SF := fun σ => match sget σ i with
  | some _ => OutS.ofE (f σ) (augK i op)
  | none => .err
section
variable {B : Nat → Bool} {pos' pos : Pos}
theorem ls_aug {i : Nat} {x : Str} (hb : B i = false) (hN : X.N.Nodup) (hi : X.N[i]? = some x) (hx : Loc X.env.scope x) (he : LE X W e fa) (hf : X.fn x = true ∨ X.env.scope.names.lookup x = some .local := by first | exact .inl rfl | exact .inr rfl | assumption) :
    LS X W B (.AugAssign (.Name x pos') .Add e pos) (sAug i dAug fa) := PS.imp (ps_aug hN hi hx he ip_aug hf) fun D σv H h => by
  obtain ⟨φd, φv, σd, w, q⟩ := h
  unfold sAug at q
  split at q
  · rename_i d0 e0
    obtain ⟨v, f, e1, r⟩ := w.slot (sget_some e0)
    refine ⟨v, e1, ?_⟩
    obtain ⟨φd1, φv1, σd1, w1, q1⟩ := ted_stepS (WdH.nil w) q
    refine ⟨φd1, φv1, σd1, w1, q1.mono (fun h1 σ1 k y H1 w1 => ?_) fun _ _ _ _ q => q⟩
    obtain ⟨h', σ', w', q'⟩ := k y H1 w1
    unfold augK at q'
    generalize e2 : sget σ' i = o1 at q'
    generalize e3 : deref h' σ' = o2 at q'
    unfold augK2 at q'
    split at q'
    · rename_i a b _
      split at q'
      · rename_i d ed
        split at q'
        · rename_i hl
          obtain ⟨v2, g, e4, r2⟩ := w'.out.slot (sget_some e2)
          rw [e1] at e4
          cases e4
          obtain ⟨g', r3⟩ := w'.rep (k := 0) rfl rfl e3
          unfold dAug at ed
          split at ed
          · cases ed
            cases r2
            cases r3
            exact .inl ⟨_, _, rfl, rfl, q' _ _ (SB.set hb) ((w'.out.push (.int _)).store hl)⟩
          · split at ed
            · rename_i hz
              cases ed
              cases r2
              cases r3
              exact .inr ⟨_, _, rfl, rfl, by rw [sizeLine_eq]; exact hz, q' _ _ (SB.set hb) ((w'.out.push (.str _)).store hl)⟩
            · cases ed
          · cases ed
        · exact q'.elim
      · exact q'.elim
    · exact q'.elim
  · exact q.elim
end
end
end DL
/-! The D layer: a flat tree within a list of trees; its place; partition, count of a text. -/
namespace DL
open PySem PySem.Spec PyProof.Rows L2
def rInZ (K : PySem.W.Frag) (neg : Bool) : R2 := fun x y H Q => ∃ d ds, Dp K H x d ∧ Dp K H y (.list ds) ∧ d.canLay0 = true ∧ d.depth = 0 ∧ PyData.canLayAll0 ds = true ∧ Q (.bl (if neg then !ds.any fun z => PyData.eqv z d else ds.any fun z => PyData.eqv z d)) H
theorem op_inZ {X : Cx} (hu : X.A.units + 64 < cLine) : OpR X (compareOp .In) (rInZ X.K false) := by
  intro pins s σ H x y v u Q I rx ry h
  obtain ⟨d, ds, hd, he, sd, s0, se, q⟩ := h
  obtain ⟨as, r1⟩ := Dp.reads I d x v hd rx
  obtain ⟨bs, r2⟩ := Dp.reads I (.list ds) y u he ry
  exact SeqAt.in_list_reads r2 r1 se sd (by rw [s0, Nat.min_zero]; omega) ⟨.bl _, H, I, rfl, by simpa using q⟩
theorem op_ninZ {X : Cx} (hu : X.A.units + 64 < cLine) : OpR X (compareOp .NotIn) (rInZ X.K true) := by
  intro pins s σ H x y v u Q I rx ry h
  obtain ⟨d, ds, hd, he, sd, s0, se, q⟩ := h
  obtain ⟨as, r1⟩ := Dp.reads I d x v hd rx
  obtain ⟨bs, r2⟩ := Dp.reads I (.list ds) y u he ry
  exact SeqAt.notIn_list_reads r2 r1 se sd (by rw [s0, Nat.min_zero]; omega) ⟨.bl _, H, I, rfl, by simpa using q⟩
def zOk (p : PyData) (ps : List PyData) : Bool := p.canLay0 && decide (p.depth = 0) && PyData.canLayAll0 ps
def dInZ (neg : Bool) : RD := fun a b => match b with
  | .lst _ ds => match toP a, toPL ds with
    | some p, some ps => if zOk p ps = true then some (.bl (if neg then !ps.any fun z => PyData.eqv z p else ps.any fun z => PyData.eqv z p)) else none
    | _, _ => none
  | _ => none
theorem opd_inZ {K mg} (neg : Bool) : OpD K mg (dInZ neg) (rInZ K neg) := by
  intro H x y a b d f g φd φv σd σv Q ra rb e w k
  unfold dInZ at e
  split at e
  · rename_i o ds
    split at e
    · rename_i p ps e1 e2
      split at e
      · rename_i hz
        cases e
        unfold zOk at hz
        obtain ⟨z1, z2⟩ := Bool.and_eq_true_iff.mp hz
        obtain ⟨z3, z4⟩ := Bool.and_eq_true_iff.mp z1
        obtain ⟨q, xs, g', rfl, hq, rl, _⟩ := rb.lst_inv
        exact ⟨p, ps, ra.dp a e1, .lst (.inl hq) (RepL.dp ds rl e2), z3, by simpa using z4, z2, k _ H (w.push (.bl _))⟩
      · cases e
    · cases e
  · cases e
/-! ### the place of a flat tree -/
def rIndexZ (K : PySem.W.Frag) : V → List V → Hp → VK → Prop := fun x xs H Q => ∃ (a : Addr) (y : V) (d : PyData) (ds : List PyData) (j : Nat) (z : PyData), x = V.ref a ∧ xs = [y] ∧ Dp K H (V.ref a) (.list ds) ∧ Dp K H y d ∧
  PyData.canLayAll0 ds = true ∧ d.canLay0 = true ∧ d.depth = 0 ∧ ds[j]? = some z ∧ PyData.eqv z d = true ∧ (∀ (m : Nat) (z' : PyData), m < j → ds[m]? = some z' → PyData.eqv z' d = false) ∧ Q (.int (j : Nat)) H
theorem mt_indexZ {X : Cx} (hu : X.A.units + 64 < cLine) : MtR X "list.index" (rIndexZ X.K) := by
  intro pins s σ H x xs v us Q I rx rxs h
  obtain ⟨a, y, d, ds, j, z, rfl, rfl, hl, hy, sl, sd, s0, hz, hzj, hno, q⟩ := h
  cases rx
  obtain ⟨uy, rfl, ry⟩ := rxs.one
  obtain ⟨bs, r1⟩ := Dp.reads I d y uy hy ry
  cases hl with
  | lst hs ha =>
    obtain ⟨its, rv, ⟨⟨cls, dd, data, sls⟩, n, ho, hc, hdn, hdt⟩, hlen⟩ := I.list hs
    simp only at hc hdt
    subst hc hdt
    obtain ⟨as, h4⟩ := Dp.readsAll I ds _ its ha rv
    have hn : its.length = ds.length := SeqAt.ReadsAll.length ds its as h4
    have hmap : its.map (SeqAt.readOf s.heap) = ds := SeqAt.readsAll_map ds its as sl h4
    have hvl := rv.length
    have hsl := sizeLine_eq
    obtain ⟨hjd, _⟩ := List.getElem?_eq_some_iff.mp hz
    have hjl : j < its.length := by omega
    have hj : j < its.toArray.size := by simpa using hjl
    have at_ : ∀ (m : Nat) (hm : m < its.toArray.size) (z' : PyData), ds[m]? = some z' → SeqAt.readOf s.heap its.toArray[m] = z' := by
      intro m hm z' hz'
      have hml : m < its.length := by simpa using hm
      rw [← hmap, List.getElem?_map, List.getElem?_eq_getElem hml] at hz'
      simpa using Option.some.inj (show some (SeqAt.readOf s.heap its[m]) = some z' from hz')
    refine call_meets PySem.F.slot_list_index ⟨_, ho, rfl⟩ PySem.F.entry_list_index (PySem.F.args_list_index_2 _ _)
      (SeqAt.list_indexAt a its.toArray n dd sls uy (fun u => PyData.eqv (SeqAt.readOf s.heap u) d) j hj (by omega) ?_ ?_) ⟨ho, SeqAt.items_eqAt (vs := its.toArray) (show ReadsAll s.heap its.toArray.toList ds as from h4) r1 sl sd (by rw [s0, Nat.min_zero]; omega), ?_⟩
    · rw [at_ j hj z hz]
      exact hzj
    · intro m hm hmj
      have hz' : ds[m]? = some (ds[m]'(by omega)) := List.getElem?_eq_getElem (by omega)
      rw [at_ m hm _ hz']
      exact hno m _ hmj hz'
    · exact ⟨.int (j : Nat), H, I.tok _, ⟨_, rfl⟩, q⟩
def findP (x : PyData) : List PyData → Option Nat
  | [] => none
  | y :: ys => if PyData.eqv y x = true then some 0 else match findP x ys with
    | some j => some (j + 1)
    | none => none
theorem findP_some {x : PyData} : ∀ {ys : List PyData} {j : Nat}, findP x ys = some j → ∃ z, ys[j]? = some z ∧ PyData.eqv z x = true ∧ ∀ (m : Nat) (z' : PyData), m < j → ys[m]? = some z' → PyData.eqv z' x = false
  | y :: ys, j, h => by
    unfold findP at h
    split at h
    · rename_i hz
      cases h
      exact ⟨y, rfl, hz, fun m z' hm => by omega⟩
    · rename_i hz
      split at h
      · rename_i j' hj
        cases h
        obtain ⟨z, e1, e2, e3⟩ := findP_some hj
        refine ⟨z, by simpa using e1, e2, fun m z' hm e => ?_⟩
        cases m with
        | zero =>
          simp at e
          subst e
          simpa using hz
        | succ m => exact e3 m z' (by omega) (by simpa using e)
      · cases h
def mIdxZ : List D → List D → Option (D × List D) := fun ds ws => match ws with
  | [d] => match toP d, toPL ds with
    | some p, some ps => if zOk p ps = true then (match findP p ps with
      | some j => some (.int (j : Nat), ds)
      | none => none) else none
    | _, _ => none
  | _ => none
theorem mqd_idxZ {K mg} : MqD K mg mIdxZ (rIndexZ K) := by
  intro H p xs vs ds ws ds' d fl ft Q hp rl rw_ e
  unfold mIdxZ at e
  split at e
  · rename_i d0
    split at e
    · rename_i p0 ps e1 e2
      split at e
      · rename_i hz
        split at e
        · rename_i j hj
          cases e
          unfold zOk at hz
          obtain ⟨z1, z2⟩ := Bool.and_eq_true_iff.mp hz
          obtain ⟨z3, z4⟩ := Bool.and_eq_true_iff.mp z1
          obtain ⟨v, rfl, rd⟩ := rw_.one_inv
          obtain ⟨z, g1, g2, g3⟩ := findP_some hj
          exact ⟨rfl, _, fun H' => .int _, fun q => ⟨p, v, p0, ps, j, z, rfl, rfl, .lst hp (RepL.dp ds rl e2), rd.dp d0 e1, z2, z3, by simpa using z4, g1, g2, g3, q⟩⟩
        · cases e
      · cases e
    · cases e
  · cases e
section
variable {X : Cx} {W : WX} {tg e o : Expr} {fa fo : EF} {fs : AF} {es : List Expr} {apos cpos : Pos}
theorem le_indexZ (hu : X.A.units + 64 < cLine) (ho : LE X W o fo) (ha : LA X W (e :: es) fs) (hbase : attributeBase o "index" X.env (eval o X.env) = eval o X.env := by rfl)
    (hfew : ((backTo cpos (starEach (e :: es) X.env)).all (fun x => !x.1) && (backToKw cpos (keywordEach [] X.env)).all (fun x => x.1.isSome)
      && decide ((e :: es).length + ([] : List Keyword).length + (if ([] : List Keyword).isEmpty then 0 else 1) < 30)) = true := by rfl)
    (hline : (apos.endLine == cpos.line) = true := by rfl) (hs : starEach (e :: es) X.env = (false, eval e X.env) :: starEach es X.env := by rfl) (hplain : (backTo cpos (starEach es X.env)).any (·.1) = false := by rfl) :
    LE X W (.Call (.Attribute o "index" apos) (e :: es) [] cpos) (eMq fo fs mIdxZ) :=
  PE.imp (pe_bm PySem.F.plainAttrs_list PySem.F.slot_list_index PySem.F.type_list_index (mt_indexZ hu) ho ha hbase hfew hline hs hplain) fun _ _ _ => eMq_good mqd_idxZ
end
/-! ### partition, count -/
def partOk (a b : Str) : Prop := (b.length == 0) = false ∧ a.length ≤ 16777216
instance (a b : Str) : Decidable (partOk a b) := inferInstanceAs (Decidable (_ ∧ _))
def dPartition : RD := fun a b => match a, b with
  | .str a, .str b => if partOk a b then some (.tup [.str (Txt.partition a b).1, .str (Txt.partition a b).2.1, .str (Txt.partition a b).2.2]) else none
  | _, _ => none
theorem m1d_partition {K mg} : M1D K mg dPartition (fun x xs H Q => ∃ a b, x = .str a ∧ xs = [.str b] ∧ (b.length == 0) = false ∧ a.length ≤ sizeLine ∧
    ∀ p, H p = none → Q (.ref p) (upd H p (.tup [.str (Txt.partition a b).1, .str (Txt.partition a b).2.1, .str (Txt.partition a b).2.2]))) := by
  intro H x y a b d f g φd φv σd σv Q ra rb e w k
  unfold dPartition at e
  split at e
  · split at e
    · rename_i hz
      cases e
      cases ra
      cases rb
      refine ⟨_, _, rfl, rfl, hz.1, by rw [sizeLine_eq]; exact hz.2, fun p hp => k _ _ ?_⟩
      exact (w.pushL (RepL.strs [_, _, _])).newTup (by simp) rfl hp
    · cases e
  · cases e
def dCount : RD := fun a b => match a, b with
  | .str a, .str b => some (.int (Txt.count a b))
  | _, _ => none
theorem m1d_count {K mg} : M1D K mg dCount (fun x xs H Q => ∃ a b, x = .str a ∧ xs = [.str b] ∧ Q (.int (Txt.count a b)) H) := by
  intro H x y a b d f g φd φv σd σv Q ra rb e w k
  unfold dCount at e
  split at e
  · cases e
    cases ra
    cases rb
    exact ⟨_, _, rfl, rfl, k _ H (w.push (.int _))⟩
  · cases e
end DL
/-! the end of a row for a law that is walked where no repr is under way (one table) -/
namespace DL
open PySem PySem.Spec PyProof.Rows L2 LamX
/-- the tracked things at the start: the table, the script if it is no part of the text -/
def H0s (a T : Addr) (o : Option HO) : Hp := fun b => if b = T then some (.tbl #[]) else if b = a then o else none
section
variable {P : Program} {w : World} {K : PySem.W.Frag} {mg mb : Str → Option Value} {CX : CXT} {k : Nat} {fa a c T : Addr} {fd : FuncData} {x : Str} {sp : Sp} {s₁ : Shared} {vs : List Value} {ns : List Int}
theorem roomG_caller (hr : Room k callerA) : RoomG k callerA := ⟨hr, rfl⟩
theorem law_callG
    (KX : K.In s₁.heap) (hns : s₁.heap.Ns mainGlobals mg) (hb : s₁.heap.Ns builtinsNs mb) (hbb : ∀ x : Str, x ≠ "__name__" → mb x = bootBuiltins x) (hlim : s₁.heap.NoLimit) (hg : s₁.gens = #[])
    (hT : s₁.heap.get? T = some { cls := .none, data := .fields #[] }) (nT : K.lookup T = none) (C : PySem.W.CodeHd s₁.heap c T)
    (hbm : ∃ (bm : Addr) (ob : Obj), mg "__builtins__" = some (.ref bm) ∧ bm ≠ builtinsNs ∧ s₁.heap.get? bm = some ob ∧ ob.cls = .type "module" ∧ ob.dict = some builtinsNs ∧ ob.data = .plain)
    (ha : s₁.heap.get? a = some { cls := .type "list", data := .seq vs.toArray }) (hi : IntsAre vs ns) (hl : ns.length ≤ sizeLine) (hr : Room k callerA)
    (F : ∀ base : Heap, K.In base → base.Ns mainGlobals mg → TabB base mg c T → FnG P w K mg base CX k fa fd [x] sp) (hbind : ∀ (s : Shared) (u : Value), BindsTo s fd ⟨[u], []⟩ [(x, u)])
    (hsp : ∀ H : Hp, H T = some (.tbl #[]) → SqL K H a (ns.map V.int) → sp [.ref a] H (fun v _ => v = .bl true) fun _ _ _ => False)
    (hCX : ∀ H e s', CX [] H s₁ (fun _ _ _ => False) e s' → False) :
    codeAny (model P w) callerA (.call (.ref fa) ⟨[.ref a], []⟩) (fun r s' => r = .ok (.ret (.bool true)) ∧ OldK s₁.heap s'.heap ∧ s'.os = s₁.os ∧ AllBare s'.gens) s₁ := by
  have rv := vals_ints hi
  have lenV := hi.length
  have aT : a ≠ T := fun z => by
    rw [z, hT] at ha
    have := congrArg Obj.data (Option.some.inj ha)
    cases this
  have core : ∀ oh : Option HO, (oh = none ∨ ∃ o xs, oh = some (.frz o (.lst xs))) → SqL K (H0s a T oh) a (ns.map V.int) → HOk P w (H0s a T oh) s₁.heap → (oh ≠ none → K.lookup a = none) →
      codeAny (model P w) callerA (.call (.ref fa) ⟨[.ref a], []⟩) (fun r s' => r = .ok (.ret (.bool true)) ∧ OldK s₁.heap s'.heap ∧ s'.os = s₁.os ∧ AllBare s'.gens) s₁ := by
    intro oh ho hS hok hK
    generalize eH : H0s a T oh = H at hS hok
    have HT : H T = some (.tbl #[]) := by rw [← eH]; unfold H0s; rw [if_pos rfl]
    have Ha : H a = oh := by rw [← eH]; unfold H0s; rw [if_neg aT, if_pos rfl]
    have Hn : ∀ b, b ≠ T → b ≠ a → H b = none := fun b h1 h2 => by rw [← eH]; unfold H0s; rw [if_neg h1, if_neg h2]
    -- what is neither the script nor the table is not tracked
    have free : ∀ {b : Addr} {o : Obj}, s₁.heap.get? b = some o → (∀ ws n, o.data ≠ .seq ws n) → o.data ≠ .fields #[] → H b = none := fun {b o} e h1 h2 => by
      refine Hn b (fun z => ?_) fun z => ?_
      · rw [z, hT] at e; cases e; exact h2 rfl
      · rw [z, ha] at e; cases e; exact h1 _ _ rfl
    have low : ∀ {b : Addr} {o : Obj}, s₁.heap.get? b = some o → H b = none → (hidT s₁.heap H).get? b = some o := fun e n => hidT_get e n
    have nsK : ∀ {b : Addr} {m : Str → Option Value}, s₁.heap.Ns b m → (hidT s₁.heap H).Ns b m := fun {b m} ⟨o, es, ep, e, d, r⟩ =>
      ⟨o, es, ep, low e (free e (fun _ _ z => by rw [d] at z; cases z) fun z => by rw [d] at z; cases z), d, r⟩
    have hKb : K.In (hidT s₁.heap H) := fun b o e => low (KX b o e) (by
      by_cases h1 : b = T
      · rw [h1, nT] at e; cases e
      · by_cases h2 : b = a
        · rw [h2, Ha]
          cases q : oh with
          | none => rfl
          | some u => rw [h2, hK (by rw [q]; simp)] at e; cases e
        · exact Hn b h1 h2)
    have hM : L2.Mod K mg (hidT s₁.heap H) := ⟨hKb, nsK hns, ⟨mb, nsK hb, hbb⟩, let ⟨mc, h1, h2⟩ := hlim; ⟨mc, nsK h1, h2⟩⟩
    have TB : TabB (hidT s₁.heap H) mg c T := by
      refine ⟨?_, ?_, fun z => ?_⟩
      · obtain ⟨o, us, file, tf, flags, tg, inF, text, tt, e1, r1, r2, r3, r⟩ := C
        exact ⟨o, us, file, tf, flags, tg, inF, text, tt, low e1 (free e1 (fun _ _ z => by rw [r2] at z; cases z) fun z => by rw [r2] at z; cases z; simp at r3), r1, r2, r3, r⟩
      · obtain ⟨bm, ob, b1, b2, b3, b4, b5, b6⟩ := hbm
        have nG : bm ≠ mainGlobals := fun q => by
          obtain ⟨o, es, ep, e, hd, _⟩ := hns
          rw [q, e] at b3; cases b3
          rw [hd] at b6; cases b6
        have nP : bm ≠ T := fun q => by rw [q, hT] at b3; cases b3; cases b6
        exact ⟨bm, ob, b1, b2, nG, nP, low b3 (free b3 (fun _ _ z => by rw [b6] at z; cases z) fun z => by rw [b6] at z; cases z), b4, b5, b6⟩
      · obtain ⟨o, es, ep, e, hd, _⟩ := hns
        rw [z, hT] at e; cases e; cases hd
    have e0 : Env0 P w K mg (hidT s₁.heap H) callerA [] s₁ H := ⟨rfl, hM, fun b o e => of_hidT e, Nat.le_of_eq (hidT_size _ _), trivial, fun b hb => absurd (show b ∈ ([] : List Addr) from hb) (by simp), hok, .of_eq hg⟩
    refine codeAny_mono ((F _ hKb (nsK hns) TB).run callerA [] s₁ H ⟨[.ref a], []⟩ [.ref a] [.ref a] _ _ (roomG_caller hr) e0 (hbind s₁ (.ref a)) (.cons rfl .nil) (hsp H HT hS)) fun r s' h => ?_
    cases r with
    | error e => exact (hCX H e s' h).elim
    | ok fl =>
      cases fl with
      | next => exact False.elim h
      | brk => exact False.elim h
      | cont => exact False.elim h
      | ret u =>
        obtain ⟨v, H', os, bare, un, hok', r', q⟩ := h
        obtain rfl : v = .bl true := q
        obtain rfl : u = Value.bool true := r'
        have key : ∀ b o, b ≠ T → s₁.heap.get? b = some o → s'.heap.get? b = some o := fun b o nb e => by
          by_cases h2 : b = a
          · subst h2
            rcases ho with z | ⟨ob, xs, z⟩
            · exact un.keep b o e (Ha.trans z) (by intro z; exact absurd (show b ∈ ([] : List Addr) from z) (by simp)) (by simp)
            · have z1 := Ha.trans z
              obtain ⟨e1, _⟩ := hok b _ z1
              obtain ⟨e2, _⟩ := hok' b _ (un.frzs b ob _ z1)
              rw [e] at e1; cases e1
              exact e2
          · exact un.keep b o e (Hn b nb h2) (by intro z; exact absurd (show b ∈ ([] : List Addr) from z) (by simp)) (by simp)
        obtain ⟨more, z⟩ := un.tbls T #[] HT
        have hm := hok' T _ z
        refine ⟨rfl, ⟨fun b o e => ?_, fun b o e => ?_⟩, os, bare⟩
        · by_cases hb : b = T
          · subst hb
            rw [hT] at e
            cases e
            exact .inr (.inl ⟨(C.tab hT).isCodeTable, rfl, #[], _, rfl, by rw [Array.empty_append]; exact hm⟩)
          · exact .inl (key b o hb e)
        · by_cases hb : b = T
          · subst hb; exact ⟨_, hm⟩
          · exact ⟨o, key b o hb e⟩
  have tab : ∀ oh, H0s a T oh T = some (.tbl #[]) := fun oh => if_pos rfl
  have at_ : ∀ oh, H0s a T oh a = oh := fun oh => (if_neg aT).trans (if_pos rfl)
  cases hk : K.lookup a with
  | some o =>
    have e := KX a o hk
    rw [ha] at e
    cases e
    refine core none (.inl rfl) (.inr ⟨_, vs.toArray, _, hk, rfl, rfl, rfl, by rw [List.size_toArray, lenV]; exact hl, by simpa using rv⟩) (fun b u z => ?_) fun z => (z rfl).elim
    by_cases hb : b = T
    · subst hb; rw [tab] at z; cases z; exact hT
    · by_cases h2 : b = a
      · subst h2; rw [at_] at z; cases z
      · unfold H0s at z; rw [if_neg hb, if_neg h2] at z; cases z
  | none =>
    refine core (some (.frz { cls := .type "list", data := .seq vs.toArray } (.lst (ns.map V.int)))) (.inr ⟨_, _, rfl⟩) (.inl (.inr ⟨_, at_ _⟩)) (fun b u z => ?_) fun _ => hk
    by_cases hb : b = T
    · subst hb; rw [tab] at z; cases z; exact hT
    · by_cases h2 : b = a
      · subst h2; rw [at_] at z; cases z
        exact ⟨ha, by rw [List.length_map]; exact hl, vs, _, rv, ha⟩
      · unfold H0s at z; rw [if_neg hb, if_neg h2] at z; cases z
end
/-- what is known of the law's promise at the head's heap h -/
def LawAtG (l : PySem.W.OpenLaw) (w : World) (K : PySem.W.Frag) (CX : CXT) (k n : Nat) (x : Str) (mg : Str → Option Value) (fa : Addr) (h : Heap) : Prop :=
  ∃ (fd : FuncData) (c T : Addr) (sp : Sp), h.get? T = some { cls := .none, data := .fields #[] } ∧ K.lookup T = none ∧ PySem.W.CodeHd h c T ∧ (∀ (s : Shared) (u : Value), BindsTo s fd ⟨[u], []⟩ [(x, u)]) ∧
    (∀ (H : Hp) (a : Addr) (ns : List Int), ns.length ≤ n → (∀ z ∈ ns, Builtin.Int.intBits z ≤ 1048576) → H T = some (.tbl #[]) → SqL K H a (ns.map V.int) → sp [.ref a] H (fun v _ => v = .bl true) fun _ _ _ => False) ∧
    ∀ base : Heap, K.In base → base.Ns mainGlobals mg → TabB base mg c T → FnG l.prog w K mg base CX k fa fd [x] sp
theorem walk_ofOwnG {l : PySem.W.OpenLaw} {n k : Nat} {q : Program} {loose : List Str} {XP : (Str → Option Value) → Heap → Prop} {YP : World → Heap → Prop} {d : DefRec} {K : Params → PySem.W.Frag} {CX : World → CXT} {x : Str}
    (hn : l.most = some n) (hn2 : n ≤ sizeLine) (hdf : d.params.defaults = []) (hr : Room k callerA) (hrec : ((recsOf q).any fun e => e.name == d.name) = true) (hY : ∀ (w : World) (h : Heap), YP w h → (K w.params).In h)
    (F : ∀ (w : World) (mg : Str → Option Value) (fa : Addr) (h : Heap), YP w h → (K w.params).In h → h.Ns mainGlobals mg → mg d.name = some (.ref fa) → OwnTab (K w.params) fa h → LawAtG l w (K w.params) (CX w) k n x mg fa h)
    (hCX : ∀ (w : World) (H : Hp) (s : Shared) (e : Value) (s' : Shared), CX w [] H s (fun _ _ _ => False) e s' → False) :
    PySem.W.WalkO q loose XP YP l.row.toRowW d [] (fun f vs => PySem.call f vs) := by
  refine Att.attach_callB hn hdf fun w s₀ s₁ mg mb fa o pm cd doc a vs ns G Y ho hd hcd hmg hobj hints hlen hbits hg => ?_
  have KX := hY w _ Y
  have own : OwnTab (K w.params) fa s₁.heap := fun c P o1 fd1 e dd vs1 sl k1 k2 k3 k4 k5 => by
    obtain ⟨dL, hm, hn1⟩ := List.any_eq_true.mp hrec
    have en : dL.name = d.name := beq_iff_eq.mp hn1
    obtain ⟨a', o', fd', c', P', h1, h2, h3, h4, h5, ⟨oc, vc, e1, _, e3, e4⟩, hP⟩ := G.T.tab dL hm
    rw [en, hmg] at h1
    cases h1
    rw [KX _ _ k1] at h2
    cases h2
    rw [k2] at h3
    cases h3
    rw [k3] at h4
    cases h4
    rw [KX _ _ k4] at e1
    cases e1
    cases e3
    rw [k5] at e4
    cases e4
    exact hP
  obtain ⟨fd, c, T, sp, hT, nT, C, hb, hsp, hF⟩ := F w mg fa _ Y KX G.T.g hmg own
  exact law_callG KX G.T.g G.T.b G.T.builtins G.T.nolimit hg hT nT C G.T.bmain hobj hints (Nat.le_trans hlen hn2) hr hF hb (fun H hH hS => hsp H a ns hlen hbits hH hS) fun H e s' => hCX w H s₁ e s'
end DL
namespace DL
open PySem PySem.Spec PyProof.Rows L2
/-! ### sum of a tuple -/
def rSumT (K : PySem.W.Frag) : List V → Hp → VK → Prop := fun vs H Q => ∃ (a : Addr) (ns : List Int), vs = [V.ref a] ∧ SqT K H a (ns.map V.int) ∧ Q (.int ns.sum) H
theorem cr_sumT {X : Cx} (hc : X.calm = true) : CallR X (.builtin "sum") (rSumT X.K) := by
  intro pins s σ H vs us Q I r h
  obtain ⟨a, ns, rfl, hs, q⟩ := h
  obtain ⟨its, rv, hl, _⟩ := I.tuple hs
  rw [Vals.ref1 r]
  have hi := rv.ints
  obtain ⟨xs, e⟩ := hi.allInts.items
  have hn : numsOf (intItems xs).toList = ns := by rw [← e]; exact hi.numsOf
  rw [nums_intItems] at hn
  have hl' : s.heap.IsTuple a its.toArray := hl
  rw [e] at hl'
  refine PySem.W.ktm_sumG (I.ok.hd hc) hl' fun h' tk t' hk => ⟨.int ns.sum, H, I.kept hk, ⟨t', ?_⟩, q⟩
  rw [preSum_eq, List.take_of_length_le (by simp), hn]
def dSumX : D → Option D
  | .tup ds => match toI ds with
    | some bs => some (.int bs.sum)
    | none => none
  | d => dSum d
theorem und_sumX {K mg} : UnD K mg dSumX (fun v H Q => rSum K [v] H Q ∨ rSumT K [v] H Q) := by
  intro H x a d f φd φv σd σv Q ra e w k
  unfold dSumX at e
  split at e
  · split at e
    · rename_i bs e1
      cases e
      obtain ⟨p, xs, rfl, hp, r, _⟩ := ra.tup_inv
      have := toI_rep r e1
      subst this
      exact .inr ⟨p, bs, rfl, hp, k _ H (w.push (.int _))⟩
    · cases e
  · exact .inl (und_sum H x _ d f φd φv σd σv Q ra e w k)
end DL
namespace DL
open PySem PySem.Spec PyProof.Rows L2
theorem fzi (i : Int) : fz (.int i) = true := rfl
theorem fzb (b : Bool) : fz (.bl b) = true := rfl
theorem fzn : fz .non = true := rfl
theorem fzs (s : Str) : fz (.str s) = true := rfl
theorem fzt (ds : List D) : fz (.tup ds) = true := rfl
theorem fzl (ds : List D) : fz (.lst false ds) = true := rfl
theorem fzL (ds : List D) : fz (.lst true ds) = false := rfl
theorem fzd (ks : List Key) (ds : List D) : fz (.dct false ks ds) = true := rfl
theorem fzo (c : Str) (ks : List Str) (ds : List D) : fz (.ins false c ks ds) = true := rfl
theorem fzO (c : Str) (ks : List Str) (ds : List D) : fz (.ins true c ks ds) = false := rfl
theorem set_self {σ : En} {j : Nat} {o : Option D} (h : σ[j]? = some o) : σ.set j o = σ := by
  obtain ⟨h1, h2⟩ := List.getElem?_eq_some_iff.mp h
  rw [← h2]; exact List.set_getElem_self h1
/-- one turn of a list comprehension, from the frame σ back to it: what it adds -/
def LcTurn (vs : List Nat) (g : GF) (t : TF) (f : EF) (σ : En) (d : D) (o : Option D) : Prop :=
  ∃ u σ1, g d σ = .ok u σ1 ∧ match o with
    | none => ∃ σ2, t σ1 = .ok false σ2 ∧ wipeD σ2 vs = σ
    | some y => ∃ σ2 h σ3 σ4, t σ1 = .ok true σ2 ∧ f σ2 = .ok h σ3 ∧ give [h] σ3 = some ([y], σ4) ∧ wipeD σ4 vs = σ
theorem lc_run {vs : List Nat} {g : GF} {t : TF} {f : EF} {σ : En} (F : D → Option D) : ∀ (items acc : List D), (∀ d ∈ items, LcTurn vs g t f σ d (F d)) → acc.length + items.length ≤ 16777216 →
    lcLoop vs g t f items acc σ = .ok (acc ++ items.filterMap F) σ
  | [], acc, _, _ => by simp [lcLoop]
  | d :: ds, acc, h, hl => by
    obtain ⟨u, σ1, e1, e2⟩ := h d (by simp)
    have hl' : acc.length + (ds.length + 1) ≤ 16777216 := by simpa using hl
    unfold lcLoop
    rw [e1]
    cases eF : F d with
    | none =>
      rw [eF] at e2
      obtain ⟨σ2, a1, a2⟩ := e2
      simp only [a1, a2]
      rw [if_neg (by simp), lc_run F ds acc (fun x hx => h x (by simp [hx])) (by omega)]
      simp [eF]
    | some y =>
      rw [eF] at e2
      obtain ⟨σ2, hh, σ3, σ4, a1, a2, a3, a4⟩ := e2
      simp only [a1, a2, a3, a4]
      rw [if_pos trivial, if_pos (by omega), lc_run F ds (acc ++ [y]) (fun x hx => h x (by simp [hx])) (by simp; omega)]
      simp [eF]
end DL
namespace DL
open PySem PySem.Spec PyProof.Rows L2
/-- a for-loop that runs to its end: P by the turn and the frame -/
theorem for_run {g : GF} {b : SF} (P : Nat → En → Prop) : ∀ (items : List D) (k : Nat) (σ : En), P k σ →
    (∀ i d σ, items[i]? = some d → P (k + i) σ → ∃ u σ1 σ2, g d σ = .ok u σ1 ∧ (b σ1 = .nx σ2 ∨ b σ1 = .ct σ2) ∧ P (k + i + 1) σ2) →
    ∃ σ', forL g b items σ = .nx σ' ∧ P (k + items.length) σ'
  | [], k, σ, h0, _ => ⟨σ, rfl, h0⟩
  | d :: ds, k, σ, h0, h => by
    obtain ⟨u, σ1, σ2, e1, e2, p⟩ := h 0 d σ rfl h0
    obtain ⟨σ', e3, p'⟩ := for_run P ds (k + 1) σ2 p (fun i d' σ3 hi hp => by
      have := h (i + 1) d' σ3 (by simpa using hi) (by simpa [Nat.add_assoc, Nat.add_comm 1] using hp)
      simpa [Nat.add_assoc, Nat.add_comm 1] using this)
    refine ⟨σ', ?_, by simpa [Nat.add_assoc, Nat.add_comm 1] using p'⟩
    unfold forL
    rw [e1]
    rcases e2 with e2 | e2 <;> simp [e2, e3, OutS.ofE]
end DL
namespace DL
open PySem PySem.Spec PyProof.Rows L2
/-! how a suite of the plain functions goes on: rows to evaluate them, and where they may end. The ways on are
constants, so that the rows look at nothing ahead of its time, and so that the kernel does not, either. -/
/-- a test that the kernel does not weigh -/
noncomputable def ifp {α : Type} (p : Prop) (a b : α) : α := @ite α p (Classical.propDecidable p) a b
theorem ifp_ite {α : Type} {p : Prop} [Decidable p] (a b : α) : (if p then a else b) = ifp p a b := by
  by_cases h : p <;> simp [ifp, h]
@[simp ↓] theorem ifp_pos {α : Type} {p : Prop} (h : p) (a b : α) : ifp p a b = a := by simp [ifp, h]
theorem ifp_neg {α : Type} {p : Prop} (h : ¬p) (a b : α) : ifp p a b = b := by simp [ifp, h]
@[simp] theorem ifp_true {α : Type} (a b : α) : ifp True a b = a := by simp [ifp]
@[simp] theorem ifp_false {α : Type} (a b : α) : ifp False a b = b := by simp [ifp]
/-- a number up to which a range may go -/
def rngOk (j : Int) : Prop := -(2 ^ 62) ≤ j ∧ j < 2 ^ 62
instance (j : Int) : Decidable (rngOk j) := inferInstanceAs (Decidable (_ ∧ _))
def rngOk2 (i j : Int) : Prop := -(2 ^ 62) ≤ i ∧ i < 2 ^ 62 ∧ -(2 ^ 62) ≤ j ∧ j < 2 ^ 62
instance (i j : Int) : Decidable (rngOk2 i j) := inferInstanceAs (Decidable (_ ∧ _))
theorem rngOk_of {j : Int} (h : -16777216 ≤ j) (h' : j ≤ 16777216) : rngOk j := by unfold rngOk; omega
theorem rngOk2_of {i j : Int} (h : -16777216 ≤ j) (h' : j ≤ 16777216) (h : -16777216 ≤ i) (h' : i ≤ 16777216) : rngOk2 i j := by unfold rngOk2; omega
theorem rngOk_nat {n : Nat} (h' : n ≤ 16777216) : rngOk (n : Int) := by unfold rngOk; omega
/-! ### the ways on -/
def sgetK : Option (Option D) → Option D | some (some d) => some d | _ => none
@[simp] theorem sgetK_some (d : D) : sgetK (some (some d)) = some d := nrfl rfl
@[simp] theorem sgetK_none : sgetK (some none) = none := nrfl rfl
@[simp] theorem sgetK_none' : sgetK none = none := nrfl rfl
@[simp] theorem sget_ap (σ : En) (i : Nat) : sget σ i = sgetK σ[i]? := nrfl rfl
@[simp] theorem deref_val (σ : En) (d : D) : deref (.val d) σ = some d := nrfl rfl
@[simp] theorem deref_sl (σ : En) (i : Nat) : deref (.sl i) σ = sget σ i := nrfl rfl
def opK : Option D → En → Out Hd | some d, σ => .ok (.val d) σ | none, _ => .err
@[simp] theorem opK_some (d : D) (σ : En) : opK (some d) σ = .ok (.val d) σ := nrfl rfl
@[simp] theorem opK_none (σ : En) : opK none σ = .err := nrfl rfl
def dr1 (op : D → Option D) : Option D → En → Out Hd | some x, σ => opK (op x) σ | none, _ => .err
@[simp] theorem dr1_some (op : D → Option D) (x : D) (σ : En) : dr1 op (some x) σ = opK (op x) σ := nrfl rfl
def dr2 (op : D → D → Option D) : Option D → Option D → En → Out Hd | some x, some y, σ => opK (op x y) σ | _, _, _ => .err
@[simp] theorem dr2_some (op : D → D → Option D) (x y : D) (σ : En) : dr2 op (some x) (some y) σ = opK (op x y) σ := nrfl rfl
def blK : Option D → En → Out Bool | some (.bl b), σ => .ok b σ | _, _ => .err
@[simp] theorem blK_bl (b : Bool) (σ : En) : blK (some (.bl b)) σ = .ok b σ := nrfl rfl
@[simp] theorem eC_ap (σ : En) (d : D) : eC d σ = .ok (.val d) σ := nrfl rfl
def eVK (i : Nat) : Option D → En → Out Hd | some _, σ => .ok (.sl i) σ | none, _ => .err
@[simp] theorem eVK_some (i : Nat) (d : D) (σ : En) : eVK i (some d) σ = .ok (.sl i) σ := nrfl rfl
@[simp] theorem eV_ap (σ : En) (i : Nat) : eV i σ = eVK i (sget σ i) σ := by
  unfold eV; generalize sget σ i = o; cases o <;> rfl
def eBinK2 (op : D → D → Option D) (ha hb : Hd) (σ : En) : Out Hd := dr2 op (deref ha σ) (deref hb σ) σ
@[simp] theorem eBinK2_ap (op : D → D → Option D) (ha hb : Hd) (σ : En) : eBinK2 op ha hb σ = dr2 op (deref ha σ) (deref hb σ) σ := nrfl rfl
def eBinK (op : D → D → Option D) (fb : EF) (ha : Hd) (σ : En) : Out Hd := (fb σ).bind (eBinK2 op ha)
@[simp] theorem eBinK_ap (op : D → D → Option D) (fb : EF) (ha : Hd) (σ : En) : eBinK op fb ha σ = (fb σ).bind (eBinK2 op ha) := nrfl rfl
@[simp] theorem eBin_ap (σ : En) (op : D → D → Option D) (fa fb : EF) : eBin op fa fb σ = (fa σ).bind (eBinK op fb) := by
  unfold eBin; congr; funext ha σ1; rw [eBinK_ap]; congr; funext hb σ2; rw [eBinK2_ap]; generalize deref ha σ2 = o; generalize deref hb σ2 = o'
  cases o <;> cases o' <;> try rfl
  rename_i x y; rw [dr2_some]; dsimp only; cases op x y <;> rfl
def tValK (h : Hd) (σ : En) : Out Bool := blK (deref h σ) σ
@[simp] theorem tValK_ap (h : Hd) (σ : En) : tValK h σ = blK (deref h σ) σ := nrfl rfl
@[simp] theorem tVal_ap (σ : En) (f : EF) : tVal f σ = (f σ).bind tValK := by
  unfold tVal; congr; funext h σ1; rw [tValK_ap]; generalize deref h σ1 = o; rcases o with _ | d
  · rfl
  · cases d <;> rfl
def notK (b : Bool) (σ : En) : Out Bool := .ok (!b) σ
@[simp] theorem notK_ap (b : Bool) (σ : En) : notK b σ = .ok (!b) σ := nrfl rfl
@[simp] theorem tNotD_ap (σ : En) (t : TF) : tNotD t σ = (t σ).bind notK := nrfl rfl
def tAndK (u : TF) (b : Bool) (σ : En) : Out Bool := if b = true then u σ else .ok false σ
@[simp] theorem tAndK_t (u : TF) (σ : En) : tAndK u true σ = u σ := nrfl rfl
@[simp] theorem tAndK_f (u : TF) (σ : En) : tAndK u false σ = .ok false σ := nrfl rfl
@[simp] theorem tAndD_ap (σ : En) (t u : TF) : tAndD t u σ = (t σ).bind (tAndK u) := nrfl rfl
def tOrK (u : TF) (b : Bool) (σ : En) : Out Bool := if b = true then .ok true σ else u σ
@[simp] theorem tOrK_t (u : TF) (σ : En) : tOrK u true σ = .ok true σ := nrfl rfl
@[simp] theorem tOrK_f (u : TF) (σ : En) : tOrK u false σ = u σ := nrfl rfl
@[simp] theorem tOrD_ap (σ : En) (t u : TF) : tOrD t u σ = (t σ).bind (tOrK u) := nrfl rfl
@[simp] theorem tYesD_ap (σ : En) : tYesD σ = .ok true σ := nrfl rfl
def eAndK2 (fb : EF) : Option D → En → Out Hd | some (.bl true), σ => fb σ | some (.bl false), σ => .ok (.val (.bl false)) σ | _, _ => .err
@[simp] theorem eAndK2_t (fb : EF) (σ : En) : eAndK2 fb (some (.bl true)) σ = fb σ := nrfl rfl
@[simp] theorem eAndK2_f (fb : EF) (σ : En) : eAndK2 fb (some (.bl false)) σ = .ok (.val (.bl false)) σ := nrfl rfl
def eAndK (fb : EF) (h : Hd) (σ : En) : Out Hd := eAndK2 fb (deref h σ) σ
@[simp] theorem eAndK_ap (fb : EF) (h : Hd) (σ : En) : eAndK fb h σ = eAndK2 fb (deref h σ) σ := nrfl rfl
@[simp] theorem eAnd_ap (σ : En) (fa fb : EF) : eAnd fa fb σ = (fa σ).bind (eAndK fb) := by
  unfold eAnd; congr; funext h σ1; rw [eAndK_ap]; generalize deref h σ1 = o; rcases o with _ | d
  · rfl
  · cases d <;> try rfl
    rename_i b; cases b <;> rfl
def eOrK2 (fb : EF) : Option D → En → Out Hd | some (.bl false), σ => fb σ | some (.bl true), σ => .ok (.val (.bl true)) σ | _, _ => .err
@[simp] theorem eOrK2_t (fb : EF) (σ : En) : eOrK2 fb (some (.bl true)) σ = .ok (.val (.bl true)) σ := nrfl rfl
@[simp] theorem eOrK2_f (fb : EF) (σ : En) : eOrK2 fb (some (.bl false)) σ = fb σ := nrfl rfl
def eOrK (fb : EF) (h : Hd) (σ : En) : Out Hd := eOrK2 fb (deref h σ) σ
@[simp] theorem eOrK_ap (fb : EF) (h : Hd) (σ : En) : eOrK fb h σ = eOrK2 fb (deref h σ) σ := nrfl rfl
@[simp] theorem eOr_ap (σ : En) (fa fb : EF) : eOr fa fb σ = (fa σ).bind (eOrK fb) := by
  unfold eOr; congr; funext h σ1; rw [eOrK_ap]; generalize deref h σ1 = o; rcases o with _ | d
  · rfl
  · cases d <;> try rfl
    rename_i b; cases b <;> rfl
def eNotK2 : Option D → En → Out Hd | some (.bl b), σ => .ok (.val (.bl (!b))) σ | _, _ => .err
@[simp] theorem eNotK2_bl (b : Bool) (σ : En) : eNotK2 (some (.bl b)) σ = .ok (.val (.bl (!b))) σ := nrfl rfl
def eNotK (h : Hd) (σ : En) : Out Hd := eNotK2 (deref h σ) σ
@[simp] theorem eNotK_ap (h : Hd) (σ : En) : eNotK h σ = eNotK2 (deref h σ) σ := nrfl rfl
@[simp] theorem eNot_ap (σ : En) (fa : EF) : eNot fa σ = (fa σ).bind eNotK := by
  unfold eNot; congr; funext h σ1; rw [eNotK_ap]; generalize deref h σ1 = o; rcases o with _ | d
  · rfl
  · cases d <;> rfl
def eIfK (fa fb : EF) (b : Bool) (σ : En) : Out Hd := if b = true then fa σ else fb σ
@[simp] theorem eIfK_t (fa fb : EF) (σ : En) : eIfK fa fb true σ = fa σ := nrfl rfl
@[simp] theorem eIfK_f (fa fb : EF) (σ : En) : eIfK fa fb false σ = fb σ := nrfl rfl
@[simp] theorem eIf_ap (σ : En) (t : TF) (fa fb : EF) : eIf t fa fb σ = (t σ).bind (eIfK fa fb) := nrfl rfl
def chK5 (op' : D → D → Option D) (hb hc : Hd) (σ : En) : Out Hd := dr2 op' (deref hb σ) (deref hc σ) σ
@[simp] theorem chK5_ap (op' : D → D → Option D) (hb hc : Hd) (σ : En) : chK5 op' hb hc σ = dr2 op' (deref hb σ) (deref hc σ) σ := nrfl rfl
def chK4 (op' : D → D → Option D) (fc : EF) (hb : Hd) : Option D → En → Out Hd | some (.bl true), σ => (fc σ).bind (chK5 op' hb) | some (.bl false), σ => .ok (.val (.bl false)) σ | _, _ => .err
@[simp] theorem chK4_t (op' : D → D → Option D) (fc : EF) (hb : Hd) (σ : En) : chK4 op' fc hb (some (.bl true)) σ = (fc σ).bind (chK5 op' hb) := nrfl rfl
@[simp] theorem chK4_f (op' : D → D → Option D) (fc : EF) (hb : Hd) (σ : En) : chK4 op' fc hb (some (.bl false)) σ = .ok (.val (.bl false)) σ := nrfl rfl
def chK3 (op op' : D → D → Option D) (fc : EF) (hb : Hd) : Option D → Option D → En → Out Hd | some x, some y, σ => chK4 op' fc hb (op x y) σ | _, _, _ => .err
@[simp] theorem chK3_some (op op' : D → D → Option D) (fc : EF) (hb : Hd) (x y : D) (σ : En) : chK3 op op' fc hb (some x) (some y) σ = chK4 op' fc hb (op x y) σ := nrfl rfl
def chK2 (op op' : D → D → Option D) (fc : EF) (ha hb : Hd) (σ : En) : Out Hd := chK3 op op' fc hb (deref ha σ) (deref hb σ) σ
@[simp] theorem chK2_ap (op op' : D → D → Option D) (fc : EF) (ha hb : Hd) (σ : En) : chK2 op op' fc ha hb σ = chK3 op op' fc hb (deref ha σ) (deref hb σ) σ := nrfl rfl
def chK1 (op op' : D → D → Option D) (fb fc : EF) (ha : Hd) (σ : En) : Out Hd := (fb σ).bind (chK2 op op' fc ha)
@[simp] theorem chK1_ap (op op' : D → D → Option D) (fb fc : EF) (ha : Hd) (σ : En) : chK1 op op' fb fc ha σ = (fb σ).bind (chK2 op op' fc ha) := nrfl rfl
@[simp] theorem eChain_ap (σ : En) (op op' : D → D → Option D) (fa fb fc : EF) : eChain op op' fa fb fc σ = (fa σ).bind (chK1 op op' fb fc) := by
  unfold eChain; congr; funext ha σ1; rw [chK1_ap]; congr; funext hb σ2; rw [chK2_ap]; generalize deref ha σ2 = o; generalize deref hb σ2 = o'
  cases o <;> cases o' <;> try rfl
  rename_i x y; rw [chK3_some]; dsimp only; generalize op x y = q; rcases q with _ | d
  · rfl
  · cases d <;> try rfl
    rename_i b; cases b
    · rfl
    · rw [chK4_t]; dsimp only; congr; funext hc σ3; rw [chK5_ap]; generalize deref hb σ3 = o; generalize deref hc σ3 = o'
      cases o <;> cases o' <;> try rfl
      rename_i x y; rw [dr2_some]; dsimp only; cases op' x y <;> rfl
def eUnK (op : D → Option D) (h : Hd) (σ : En) : Out Hd := dr1 op (deref h σ) σ
@[simp] theorem eUnK_ap (op : D → Option D) (h : Hd) (σ : En) : eUnK op h σ = dr1 op (deref h σ) σ := nrfl rfl
@[simp] theorem eUn_ap (σ : En) (op : D → Option D) (fa : EF) : eUn op fa σ = (fa σ).bind (eUnK op) := by
  unfold eUn; congr; funext h σ1; rw [eUnK_ap]; generalize deref h σ1 = o
  cases o <;> try rfl
  rename_i x; rw [dr1_some]; dsimp only; cases op x <;> rfl
@[simp] theorem oNone_ap (σ : En) : oNone σ = .ok none σ := nrfl rfl
def oSomeK2 : Option D → En → Out (Option Int) | some (.int i), σ => .ok (some i) σ | _, _ => .err
@[simp] theorem oSomeK2_int (i : Int) (σ : En) : oSomeK2 (some (.int i)) σ = .ok (some i) σ := nrfl rfl
def oSomeK (h : Hd) (σ : En) : Out (Option Int) := oSomeK2 (deref h σ) σ
@[simp] theorem oSomeK_ap (h : Hd) (σ : En) : oSomeK h σ = oSomeK2 (deref h σ) σ := nrfl rfl
@[simp] theorem oSome_ap (σ : En) (f : EF) : oSome f σ = (f σ).bind oSomeK := by
  unfold oSome; congr; funext h σ1; rw [oSomeK_ap]; generalize deref h σ1 = o; rcases o with _ | d
  · rfl
  · cases d <;> rfl
def cutK4 (l u : Option Int) : Option D → En → Out Hd | some x, σ => opK (dCut x l u) σ | none, _ => .err
@[simp] theorem cutK4_some (l u : Option Int) (x : D) (σ : En) : cutK4 l u (some x) σ = opK (dCut x l u) σ := nrfl rfl
def cutK3 (h : Hd) (l u : Option Int) (σ : En) : Out Hd := cutK4 l u (deref h σ) σ
@[simp] theorem cutK3_ap (h : Hd) (l u : Option Int) (σ : En) : cutK3 h l u σ = cutK4 l u (deref h σ) σ := nrfl rfl
def cutK2 (hi : OF) (h : Hd) (l : Option Int) (σ : En) : Out Hd := (hi σ).bind (cutK3 h l)
@[simp] theorem cutK2_ap (hi : OF) (h : Hd) (l : Option Int) (σ : En) : cutK2 hi h l σ = (hi σ).bind (cutK3 h l) := nrfl rfl
def cutK1 (lo hi : OF) (h : Hd) (σ : En) : Out Hd := (lo σ).bind (cutK2 hi h)
@[simp] theorem cutK1_ap (lo hi : OF) (h : Hd) (σ : En) : cutK1 lo hi h σ = (lo σ).bind (cutK2 hi h) := nrfl rfl
@[simp] theorem eCut_ap (σ : En) (f : EF) (lo hi : OF) : eCut f lo hi σ = (f σ).bind (cutK1 lo hi) := by
  unfold eCut; congr; funext h σ1; rw [cutK1_ap]; congr; funext l σ2; rw [cutK2_ap]; congr; funext u σ3; rw [cutK3_ap]; generalize deref h σ3 = o
  cases o <;> try rfl
  rename_i x; rw [cutK4_some]; dsimp only; cases dCut x l u <;> rfl
@[simp] theorem aNil_ap (σ : En) : aNil σ = .ok [] σ := nrfl rfl
def aConsK2 (h : Hd) (hs : List Hd) (σ : En) : Out (List Hd) := .ok (h :: hs) σ
@[simp] theorem aConsK2_ap (h : Hd) (hs : List Hd) (σ : En) : aConsK2 h hs σ = .ok (h :: hs) σ := nrfl rfl
def aConsK (g : AF) (h : Hd) (σ : En) : Out (List Hd) := (g σ).bind (aConsK2 h)
@[simp] theorem aConsK_ap (g : AF) (h : Hd) (σ : En) : aConsK g h σ = (g σ).bind (aConsK2 h) := nrfl rfl
@[simp] theorem aCons_ap (σ : En) (f : EF) (g : AF) : aCons f g σ = (f σ).bind (aConsK g) := nrfl rfl
/-! what is given away -/
def giveK1 (d : D) : Option (List D × En) → Option (List D × En) | some (ds, σ') => some (d :: ds, σ') | none => none
@[simp] theorem giveK1_some (d : D) (ds : List D) (σ' : En) : giveK1 d (some (ds, σ')) = some (d :: ds, σ') := nrfl rfl
def giveK2 (i : Nat) (r : List Hd) (σ : En) : Option D → Option (List D × En) | some d => giveK1 (share d) (give r (σ.set i (some (share d)))) | none => none
@[simp] theorem giveK2_some (i : Nat) (r : List Hd) (σ : En) (d : D) : giveK2 i r σ (some d) = giveK1 (share d) (give r (σ.set i (some (share d)))) := nrfl rfl
@[simp] theorem give_nil (σ : En) : give [] σ = some ([], σ) := nrfl rfl
@[simp] theorem give_val (σ : En) (d : D) (r : List Hd) : give (.val d :: r) σ = giveK1 d (give r σ) := nrfl rfl
@[simp] theorem give_sl (σ : En) (i : Nat) (r : List Hd) : give (.sl i :: r) σ = giveK2 i r σ (sget σ i) := nrfl rfl
def argsK1 (o : Option Nat) (d : D) : Option (List D × List (Option Nat) × En) → Option (List D × List (Option Nat) × En) | some (ds, ms, σ') => some (d :: ds, o :: ms, σ') | none => none
@[simp] theorem argsK1_some (o : Option Nat) (d : D) (ds : List D) (ms : List (Option Nat)) (σ' : En) : argsK1 o d (some (ds, ms, σ')) = some (d :: ds, o :: ms, σ') := nrfl rfl
def argsK3 (i : Nat) (r : List Hd) (σ : En) (d : D) (b : Bool) : Option (List D × List (Option Nat) × En) := if b = true then argsK1 none d (argsOf r σ) else argsK1 (some i) d (argsOf r (σ.set i none))
@[simp] theorem argsK3_t (i : Nat) (r : List Hd) (σ : En) (d : D) : argsK3 i r σ d true = argsK1 none d (argsOf r σ) := nrfl rfl
@[simp] theorem argsK3_f (i : Nat) (r : List Hd) (σ : En) (d : D) : argsK3 i r σ d false = argsK1 (some i) d (argsOf r (σ.set i none)) := nrfl rfl
def argsK2 (i : Nat) (r : List Hd) (σ : En) : Option D → Option (List D × List (Option Nat) × En) | some d => argsK3 i r σ d (fz d) | none => none
@[simp] theorem argsK2_some (i : Nat) (r : List Hd) (σ : En) (d : D) : argsK2 i r σ (some d) = argsK3 i r σ d (fz d) := nrfl rfl
@[simp] theorem argsOf_nil (σ : En) : argsOf [] σ = some ([], [], σ) := nrfl rfl
@[simp] theorem argsOf_val (σ : En) (d : D) (r : List Hd) : argsOf (.val d :: r) σ = argsK1 none d (argsOf r σ) := nrfl rfl
@[simp] theorem argsOf_sl (σ : En) (i : Nat) (r : List Hd) : argsOf (.sl i :: r) σ = argsK2 i r σ (sget σ i) := nrfl rfl
@[simp] theorem putB_nil (σ : En) (ms : List (Option Nat)) : putB ms [] σ = σ := by cases ms with | nil => rfl | cons a r => cases a <;> rfl
@[simp] theorem putB_nil' (σ : En) (ds : List D) : putB [] ds σ = σ := by cases ds <;> rfl
@[simp] theorem putB_some (σ : En) (i : Nat) (ms : List (Option Nat)) (d : D) (ds : List D) : putB (some i :: ms) (d :: ds) σ = putB ms ds (σ.set i (some d)) := nrfl rfl
@[simp] theorem putB_none (σ : En) (ms : List (Option Nat)) (d : D) (ds : List D) : putB (none :: ms) (d :: ds) σ = putB ms ds σ := nrfl rfl
@[simp] theorem callOut_err (σ : En) (ms : List (Option Nat)) : callOut ms σ .err = .err := nrfl rfl
@[simp] theorem callOut_ret (σ : En) (ms : List (Option Nat)) (d : D) (ds' : List D) : callOut ms σ (.ret d ds') = .ok (.val d) (putB ms ds' σ) := nrfl rfl
@[simp] theorem callOut_exc (σ : En) (ms : List (Option Nat)) (c ks xs) (ds' : List D) : callOut ms σ (.exc c ks xs ds') = .exc c ks xs (putB ms ds' σ) := nrfl rfl
@[simp] theorem makeOut_ret (σ : En) (ms : List (Option Nat)) (self : D) (ds' : List D) : makeOut ms σ (.ret .non (self :: ds')) = .ok (.val self) (putB ms ds' σ) := nrfl rfl
@[simp] theorem makeOut_exc (σ : En) (ms : List (Option Nat)) (c ks xs) (self : D) (ds' : List D) : makeOut ms σ (.exc c ks xs (self :: ds')) = .exc c ks xs (putB ms ds' σ) := nrfl rfl
@[simp] theorem wipeD_nil (σ : En) : wipeD σ [] = σ := nrfl rfl
@[simp] theorem wipeD_cons (σ : En) (v : Nat) (vs : List Nat) : wipeD σ (v :: vs) = (wipeD σ vs).set v none := nrfl rfl
noncomputable def tupK2 : Option (List D × En) → Out Hd | some (ds, σ) => ifp (ds.length ≤ 16777216) (.ok (.val (.tup (shareL ds))) σ) .err | none => .err
@[simp] theorem tupK2_some (ds : List D) (σ : En) : tupK2 (some (ds, σ)) = ifp (ds.length ≤ 16777216) (.ok (.val (.tup (shareL ds))) σ) .err := nrfl rfl
noncomputable def tupK (hs : List Hd) (σ : En) : Out Hd := tupK2 (give hs σ)
@[simp] theorem tupK_ap (hs : List Hd) (σ : En) : tupK hs σ = tupK2 (give hs σ) := nrfl rfl
@[simp] theorem eTup_ap (σ : En) (f : AF) : eTup f σ = (f σ).bind tupK := by
  unfold eTup; congr; funext hs σ1; unfold tupK; cases give hs σ1 with | none => rfl | some p => obtain ⟨ds, σ2⟩ := p; simp only [tupK2_some, ifp_ite]
noncomputable def lstK2 : Option (List D × En) → Out Hd | some (ds, σ) => ifp (ds.length ≤ 16777216) (.ok (.val (.lst true ds)) σ) .err | none => .err
@[simp] theorem lstK2_some (ds : List D) (σ : En) : lstK2 (some (ds, σ)) = ifp (ds.length ≤ 16777216) (.ok (.val (.lst true ds)) σ) .err := nrfl rfl
noncomputable def lstK (hs : List Hd) (σ : En) : Out Hd := lstK2 (give hs σ)
@[simp] theorem lstK_ap (hs : List Hd) (σ : En) : lstK hs σ = lstK2 (give hs σ) := nrfl rfl
@[simp] theorem eLst_ap (σ : En) (f : AF) : eLst f σ = (f σ).bind lstK := by
  unfold eLst; congr; funext hs σ1; unfold lstK; cases give hs σ1 with | none => rfl | some p => obtain ⟨ds, σ2⟩ := p; simp only [lstK2_some, ifp_ite]
def oneK : Option (List D × En) → Out Hd | some ([d], σ) => .ok (.val d) σ | _ => .err
@[simp] theorem oneK_some (d : D) (σ : En) : oneK (some ([d], σ)) = .ok (.val d) σ := nrfl rfl
def eGiveK (h : Hd) (σ : En) : Out Hd := oneK (give [h] σ)
@[simp] theorem eGiveK_ap (h : Hd) (σ : En) : eGiveK h σ = oneK (give [h] σ) := nrfl rfl
@[simp] theorem eGive_ap (σ : En) (f : EF) : eGive f σ = (f σ).bind eGiveK := by
  unfold eGive; congr
def shrK2 : Option (List D × En) → Out Hd | some ([d], σ) => .ok (.val (share d)) σ | _ => .err
@[simp] theorem shrK2_some (d : D) (σ : En) : shrK2 (some ([d], σ)) = .ok (.val (share d)) σ := nrfl rfl
def shrK (h : Hd) (σ : En) : Out Hd := shrK2 (give [h] σ)
@[simp] theorem shrK_ap (h : Hd) (σ : En) : shrK h σ = shrK2 (give [h] σ) := nrfl rfl
@[simp] theorem eShr_ap (σ : En) (f : EF) : eShr f σ = (f σ).bind shrK := by
  unfold eShr; congr
abbrev MtF := List D → List D → Option (D × List D)
def mtK6 (j : Nat) : Option (D × List D) → En → Out Hd | some (d, ds'), σ => .ok (.val d) (σ.set j (some (.lst true ds'))) | none, _ => .err
@[simp] theorem mtK6_some (j : Nat) (d : D) (ds' : List D) (σ : En) : mtK6 j (some (d, ds')) σ = .ok (.val d) (σ.set j (some (.lst true ds'))) := nrfl rfl
def mtK5 (m : MtF) (j : Nat) (ws : List D) : Option D → En → Out Hd | some (.lst true ds), σ => mtK6 j (m ds ws) σ | _, _ => .err
@[simp] theorem mtK5_some (m : MtF) (j : Nat) (ws : List D) (ds : List D) (σ : En) : mtK5 m j ws (some (.lst true ds)) σ = mtK6 j (m ds ws) σ := nrfl rfl
def mtK4 (m : MtF) : Hd → Option (List D × En) → Out Hd | .sl j, some (ws, σ) => mtK5 m j ws (sget σ j) σ | _, _ => .err
@[simp] theorem mtK4_some (m : MtF) (j : Nat) (ws : List D) (σ : En) : mtK4 m (.sl j) (some (ws, σ)) = mtK5 m j ws (sget σ j) σ := nrfl rfl
def mtK3 (m : MtF) (ho : Hd) (hs : List Hd) (σ : En) : Out Hd := mtK4 m ho (give hs σ)
@[simp] theorem mtK3_ap (m : MtF) (ho : Hd) (hs : List Hd) (σ : En) : mtK3 m ho hs σ = mtK4 m ho (give hs σ) := nrfl rfl
def mtK2 (fs : AF) (m : MtF) (ho : Hd) (b : Bool) (σ : En) : Out Hd := if b = true then (fs σ).bind (mtK3 m ho) else .err
@[simp] theorem mtK2_t (fs : AF) (m : MtF) (ho : Hd) (σ : En) : mtK2 fs m ho true σ = (fs σ).bind (mtK3 m ho) := nrfl rfl
def mtK1 (fs : AF) (m : MtF) (ho : Hd) (σ : En) : Out Hd := mtK2 fs m ho (isLst (deref ho σ)) σ
@[simp] theorem mtK1_ap (fs : AF) (m : MtF) (ho : Hd) (σ : En) : mtK1 fs m ho σ = mtK2 fs m ho (isLst (deref ho σ)) σ := nrfl rfl
@[simp] theorem eMt_ap (σ : En) (fo : EF) (fs : AF) (m : MtF) : eMt fo fs m σ = (fo σ).bind (mtK1 fs m) := by
  unfold eMt; congr; funext ho σ1; rw [mtK1_ap]; cases isLst (deref ho σ1)
  · rfl
  · rw [mtK2_t, if_pos rfl]; congr; funext hs σ2; unfold mtK3
    cases give hs σ2 with
    | none => cases ho <;> rfl
    | some p =>
      obtain ⟨ws, σ3⟩ := p
      cases ho with
      | val d => rfl
      | sl j =>
        simp only [mtK4_some]
        cases sget σ3 j with
        | none => rfl
        | some d =>
          cases d <;> first | rfl | skip
          rename_i o ds
          cases o
          · rfl
          · simp only [mtK5_some]
            cases m ds ws <;> rfl
def mt0K3 (j : Nat) : Option (D × List D) → En → Out Hd | some (d, ds'), σ => .ok (.val d) (σ.set j (some (.lst true ds'))) | none, _ => .err
@[simp] theorem mt0K3_some (j : Nat) (d : D) (ds' : List D) (σ : En) : mt0K3 j (some (d, ds')) σ = .ok (.val d) (σ.set j (some (.lst true ds'))) := nrfl rfl
def mt0K2 (m : List D → Option (D × List D)) (j : Nat) : Option D → En → Out Hd | some (.lst true ds), σ => mt0K3 j (m ds) σ | _, _ => .err
@[simp] theorem mt0K2_some (m : List D → Option (D × List D)) (j : Nat) (ds : List D) (σ : En) : mt0K2 m j (some (.lst true ds)) σ = mt0K3 j (m ds) σ := nrfl rfl
def mt0K (m : List D → Option (D × List D)) : Hd → En → Out Hd | .sl j, σ => mt0K2 m j (sget σ j) σ | .val _, _ => .err
@[simp] theorem mt0K_sl (m : List D → Option (D × List D)) (j : Nat) (σ : En) : mt0K m (.sl j) σ = mt0K2 m j (sget σ j) σ := nrfl rfl
@[simp] theorem eMt0_ap (σ : En) (fo : EF) (m : List D → Option (D × List D)) : eMt0 fo m σ = (fo σ).bind (mt0K m) := by
  unfold eMt0; congr; funext ho σ1
  cases ho with
  | val d => rfl
  | sl j =>
    simp only [mt0K_sl]
    cases sget σ1 j with
    | none => rfl
    | some d =>
      cases d <;> first | rfl | skip
      rename_i o ds
      cases o
      · rfl
      · simp only [mt0K2_some]
        cases m ds <;> rfl
/-! what is gone through -/
def itK : Option (List D) → En → Out (List D) | some ds, σ => .ok ds σ | none, _ => .err
@[simp] theorem itK_some (ds : List D) (σ : En) : itK (some ds) σ = .ok ds σ := nrfl rfl
def seqK1 : Hd → En → Out (List D) | .val d, σ => itK (seqItems d) σ | .sl _, _ => .err
@[simp] theorem seqK1_val (d : D) (σ : En) : seqK1 (.val d) σ = itK (seqItems d) σ := nrfl rfl
@[simp] theorem iSeqD_ap (σ : En) (f : EF) : iSeqD f σ = (eShr f σ).bind seqK1 := by
  unfold iSeqD; congr; funext h σ1
  cases h with
  | sl i => rfl
  | val d => simp only [seqK1_val]; cases seqItems d <;> rfl
noncomputable def rngK2 : Option D → En → Out (List D) | some (.int j), σ => ifp (rngOk j) (.ok ((List.range j.toNat).map fun k : Nat => D.int (k : Int)) σ) .err | _, _ => .err
@[simp] theorem rngK2_int (j : Int) (σ : En) : rngK2 (some (.int j)) σ = ifp (rngOk j) (.ok ((List.range j.toNat).map fun k : Nat => D.int (k : Int)) σ) .err := nrfl rfl
noncomputable def rngK : List Hd → En → Out (List D) | [h], σ => rngK2 (deref h σ) σ | _, _ => .err
@[simp] theorem rngK_one (h : Hd) (σ : En) : rngK [h] σ = rngK2 (deref h σ) σ := nrfl rfl
@[simp] theorem iRng1D_ap (σ : En) (fs : AF) : iRng1D fs σ = (fs σ).bind rngK := by
  unfold iRng1D; congr; funext hs σ1
  match hs with
  | [] => rfl
  | [h] =>
    simp only [rngK_one]
    cases deref h σ1 with
    | none => rfl
    | some d =>
      cases d <;> first | rfl | skip
      simp only [rngK2_int, ← ifp_ite]; rfl
  | _ :: _ :: _ => rfl
noncomputable def rng2K2 : Option D → Option D → En → Out (List D) | some (.int i), some (.int j), σ => ifp (rngOk2 i j) (.ok ((List.range (j - i).toNat).map fun k : Nat => D.int (i + (k : Int))) σ) .err | _, _, _ => .err
@[simp] theorem rng2K2_int (i j : Int) (σ : En) : rng2K2 (some (.int i)) (some (.int j)) σ = ifp (rngOk2 i j) (.ok ((List.range (j - i).toNat).map fun k : Nat => D.int (i + (k : Int))) σ) .err := nrfl rfl
noncomputable def rng2K : List Hd → En → Out (List D) | [h, h'], σ => rng2K2 (deref h σ) (deref h' σ) σ | _, _ => .err
@[simp] theorem rng2K_two (h h' : Hd) (σ : En) : rng2K [h, h'] σ = rng2K2 (deref h σ) (deref h' σ) σ := nrfl rfl
@[simp] theorem iRng2D_ap (σ : En) (fs : AF) : iRng2D fs σ = (fs σ).bind rng2K := by
  unfold iRng2D; congr; funext hs σ1
  match hs with
  | [] => rfl
  | [h] => rfl
  | [h, h'] =>
    simp only [rng2K_two]
    cases deref h σ1 with
    | none => rfl
    | some d =>
      cases d <;> first | rfl | skip
      cases deref h' σ1 with
      | none => rfl
      | some d =>
        cases d <;> first | rfl | skip
        simp only [rng2K2_int, ← ifp_ite]; rfl
  | _ :: _ :: _ :: _ => rfl
def enK2 : Option (List D) → En → Out (List D) | some ds, σ => .ok (enumItems ds) σ | none, _ => .err
@[simp] theorem enK2_some (ds : List D) (σ : En) : enK2 (some ds) σ = .ok (enumItems ds) σ := nrfl rfl
def enK : List Hd → En → Out (List D) | [.val d], σ => enK2 (seqItems d) σ | _, _ => .err
@[simp] theorem enK_one (d : D) (σ : En) : enK [.val d] σ = enK2 (seqItems d) σ := nrfl rfl
@[simp] theorem iEnumD_ap (σ : En) (fs : AF) : iEnumD fs σ = (fs σ).bind enK := by
  unfold iEnumD; congr; funext hs σ1
  match hs with
  | [] => rfl
  | [.val d] => simp only [enK_one]; cases seqItems d <;> rfl
  | [.sl _] => rfl
  | .val _ :: _ :: _ => rfl
  | .sl _ :: _ :: _ => rfl
def z2K2 : Option (List D) → Option (List D) → En → Out (List D) | some ds, some es, σ => .ok (zip2Items ds es) σ | _, _, _ => .err
@[simp] theorem z2K2_some (ds es : List D) (σ : En) : z2K2 (some ds) (some es) σ = .ok (zip2Items ds es) σ := nrfl rfl
def z2K : List Hd → En → Out (List D) | [.val d, .val e], σ => z2K2 (seqItems d) (seqItems e) σ | _, _ => .err
@[simp] theorem z2K_two (d e : D) (σ : En) : z2K [.val d, .val e] σ = z2K2 (seqItems d) (seqItems e) σ := nrfl rfl
@[simp] theorem iZip2D_ap (σ : En) (fs : AF) : iZip2D fs σ = (fs σ).bind z2K := by
  unfold iZip2D; congr; funext hs σ1
  match hs with
  | [] => rfl
  | [.val _] => rfl
  | [.val d, .val e] => simp only [z2K_two]; cases seqItems d <;> cases seqItems e <;> rfl
  | [.val _, .sl _] => rfl
  | .sl _ :: _ => rfl
  | .val _ :: .sl _ :: _ :: _ => rfl
  | .val _ :: .val _ :: _ :: _ => rfl
def z3K2 : Option (List D) → Option (List D) → Option (List D) → En → Out (List D) | some ds, some es, some fs, σ => .ok (zip3Items ds es fs) σ | _, _, _, _ => .err
@[simp] theorem z3K2_some (ds es fs : List D) (σ : En) : z3K2 (some ds) (some es) (some fs) σ = .ok (zip3Items ds es fs) σ := nrfl rfl
def z3K : List Hd → En → Out (List D) | [.val d, .val e, .val f], σ => z3K2 (seqItems d) (seqItems e) (seqItems f) σ | _, _ => .err
@[simp] theorem z3K_three (d e f : D) (σ : En) : z3K [.val d, .val e, .val f] σ = z3K2 (seqItems d) (seqItems e) (seqItems f) σ := nrfl rfl
@[simp] theorem iZip3D_ap (σ : En) (fs : AF) : iZip3D fs σ = (fs σ).bind z3K := by
  unfold iZip3D; congr; funext hs σ1
  match hs with
  | [] => rfl
  | [.val _] => rfl
  | [.val _, .val _] => rfl
  | [.val d, .val e, .val f] => simp only [z3K_three]; cases seqItems d <;> cases seqItems e <;> cases seqItems f <;> rfl
  | [.val _, .val _, .sl _] => rfl
  | [.val _, .sl _] => rfl
  | .sl _ :: _ => rfl
  | .val _ :: .sl _ :: _ :: _ => rfl
  | .val _ :: .val _ :: .sl _ :: _ :: _ => rfl
  | .val _ :: .val _ :: .val _ :: _ :: _ => rfl
def lcK (acc : List D) (σ : En) : Out Hd := .ok (.val (.lst true acc)) σ
@[simp] theorem lcK_ap (acc : List D) (σ : En) : lcK acc σ = .ok (.val (.lst true acc)) σ := nrfl rfl
def eLcK (vs : List Nat) (g : GF) (t : TF) (f : EF) (items : List D) (σ : En) : Out Hd := (lcLoop vs g t f items [] (wipeD σ vs)).bind lcK
@[simp] theorem eLcK_ap (vs : List Nat) (g : GF) (t : TF) (f : EF) (items : List D) (σ : En) : eLcK vs g t f items σ = (lcLoop vs g t f items [] (wipeD σ vs)).bind lcK := nrfl rfl
@[simp] theorem eLc_ap (σ : En) (vs : List Nat) (it : IF) (g : GF) (t : TF) (f : EF) : eLc vs it g t f σ = (it σ).bind (eLcK vs g t f) := nrfl rfl
def callK2 (m : MF) : Option (List D × List (Option Nat) × En) → Out Hd | some (ds, ms, σ) => callOut ms σ (m ds) | none => .err
@[simp] theorem callK2_some (m : MF) (ds : List D) (ms : List (Option Nat)) (σ : En) : callK2 m (some (ds, ms, σ)) = callOut ms σ (m ds) := nrfl rfl
def callK (m : MF) (hs : List Hd) (σ : En) : Out Hd := callK2 m (argsOf hs σ)
@[simp] theorem callK_ap (m : MF) (hs : List Hd) (σ : En) : callK m hs σ = callK2 m (argsOf hs σ) := nrfl rfl
@[simp] theorem eCall_ap (σ : En) (m : MF) (fs : AF) : eCall m fs σ = (fs σ).bind (callK m) := nrfl rfl
def makeK2 (c : Str) (m : MF) : Option (List D × List (Option Nat) × En) → Out Hd | some (ds, ms, σ) => makeOut ms σ (m (.ins true c [] [] :: ds)) | none => .err
@[simp] theorem makeK2_some (c : Str) (m : MF) (ds : List D) (ms : List (Option Nat)) (σ : En) : makeK2 c m (some (ds, ms, σ)) = makeOut ms σ (m (.ins true c [] [] :: ds)) := nrfl rfl
def makeK (c : Str) (m : MF) (hs : List Hd) (σ : En) : Out Hd := makeK2 c m (argsOf hs σ)
@[simp] theorem makeK_ap (c : Str) (m : MF) (hs : List Hd) (σ : En) : makeK c m hs σ = makeK2 c m (argsOf hs σ) := nrfl rfl
@[simp] theorem eMake_ap (σ : En) (c : Str) (m : MF) (fs : AF) : eMake c m fs σ = (fs σ).bind (makeK c m) := nrfl rfl
def dispK3 (v : D) : Option Key → En → Out Hd | some key, σ => .ok (.val (.dct true [key] [v])) σ | none, _ => .err
@[simp] theorem dispK3_some (v : D) (key : Key) (σ : En) : dispK3 v (some key) σ = .ok (.val (.dct true [key] [v])) σ := nrfl rfl
def dispK2 : Hd → Hd → En → Out Hd | .val k, .val v, σ => dispK3 v (keyOf k) σ | _, _, _ => .err
@[simp] theorem dispK2_val (k v : D) (σ : En) : dispK2 (.val k) (.val v) σ = dispK3 v (keyOf k) σ := nrfl rfl
def dispK1 (fv : EF) (hk : Hd) (σ : En) : Out Hd := (fv σ).bind (dispK2 hk)
@[simp] theorem dispK1_ap (fv : EF) (hk : Hd) (σ : En) : dispK1 fv hk σ = (fv σ).bind (dispK2 hk) := nrfl rfl
@[simp] theorem eDisp1_ap (σ : En) (fk fv : EF) : eDisp1 fk fv σ = (fk σ).bind (dispK1 fv) := by
  unfold eDisp1; congr; funext hk σ1; unfold dispK1; congr; funext hv σ2
  cases hk <;> cases hv <;> first | rfl | skip
  rename_i k v
  simp only [dispK2_val]; cases keyOf k <;> rfl
@[simp] theorem keyOf_int (i : Int) : keyOf (.int i) = some (.inl i) := nrfl rfl
@[simp] theorem keyOf_str (i : Str) : keyOf (.str i) = some (.inr i) := nrfl rfl
/-! targets and statements -/
@[simp] theorem gdName_ap (σ : En) (d : D) (i : Nat) : gdName i d σ = if i < σ.length then .ok () (σ.set i (some d)) else .err := nrfl rfl
@[simp] theorem gsNil_ap (σ : En) : gsNil [] σ = .ok () σ := nrfl rfl
def gsK (gs : GsF) (r : List D) (_u : Unit) (σ : En) : Out Unit := gs r σ
@[simp] theorem gsK_ap (gs : GsF) (r : List D) (u : Unit) (σ : En) : gsK gs r u σ = gs r σ := nrfl rfl
@[simp] theorem gsCons_ap (σ : En) (g : GF) (gs : GsF) (d : D) (r : List D) : gsCons g gs (d :: r) σ = (g d σ).bind (gsK gs r) := nrfl rfl
@[simp] theorem gdTup_ap (σ : En) (n : Nat) (gs : GsF) (ds : List D) : gdTup n gs (.tup ds) σ = if ds.length = n then gs ds σ else .err := nrfl rfl
@[simp] theorem gsNames_nil : gsNames [] = gsNil := nrfl rfl
@[simp] theorem gsNames_cons (i : Nat) (is : List Nat) : gsNames (i :: is) = gsCons (gdName i) (gsNames is) := nrfl rfl
def subK5 (d : D) (j : Nat) (ds : List D) : Option Nat → En → Out Unit | some n, σ => .ok () (σ.set j (some (.lst true (ds.set n d)))) | none, _ => .err
@[simp] theorem subK5_some (d : D) (j : Nat) (ds : List D) (n : Nat) (σ : En) : subK5 d j ds (some n) σ = .ok () (σ.set j (some (.lst true (ds.set n d)))) := nrfl rfl
def subK4 (d : D) (j : Nat) (k : Int) : Option D → En → Out Unit | some (.lst true ds), σ => subK5 d j ds (ixN ds.length k) σ | _, _ => .err
@[simp] theorem subK4_some (d : D) (j : Nat) (k : Int) (ds : List D) (σ : En) : subK4 d j k (some (.lst true ds)) σ = subK5 d j ds (ixN ds.length k) σ := nrfl rfl
def subK3 (d : D) (j : Nat) : Option D → En → Out Unit | some (.int k), σ => subK4 d j k (sget σ j) σ | _, _ => .err
@[simp] theorem subK3_some (d : D) (j : Nat) (k : Int) (σ : En) : subK3 d j (some (.int k)) σ = subK4 d j k (sget σ j) σ := nrfl rfl
def subK2 (d : D) : Hd → Hd → En → Out Unit | .sl j, hi, σ => subK3 d j (deref hi σ) σ | .val _, _, _ => .err
@[simp] theorem subK2_sl (d : D) (j : Nat) (hi : Hd) (σ : En) : subK2 d (.sl j) hi σ = subK3 d j (deref hi σ) σ := nrfl rfl
def subK1 (fi : EF) (d : D) (ho : Hd) (σ : En) : Out Unit := (fi σ).bind (subK2 d ho)
@[simp] theorem subK1_ap (fi : EF) (d : D) (ho : Hd) (σ : En) : subK1 fi d ho σ = (fi σ).bind (subK2 d ho) := nrfl rfl
@[simp] theorem gdSub_ap (σ : En) (fo fi : EF) (d : D) : gdSub fo fi d σ = (fo σ).bind (subK1 fi d) := by
  unfold gdSub; congr; funext ho σ1; unfold subK1; congr; funext hi σ2
  cases ho with
  | val d => rfl
  | sl j =>
    simp only [subK2_sl]
    cases deref hi σ2 with
    | none => rfl
    | some e =>
      cases e <;> first | rfl | skip
      rename_i k
      simp only [subK3_some]
      cases sget σ2 j with
      | none => rfl
      | some e =>
        cases e <;> first | rfl | skip
        rename_i o ds
        cases o
        · rfl
        · simp only [subK4_some]; cases ixN ds.length k <;> rfl
@[simp] theorem sDone_ap (σ : En) : sDone σ = .nx σ := nrfl rfl
@[simp] theorem sBrk_ap (σ : En) : sBrk σ = .bk σ := nrfl rfl
@[simp] theorem sCont_ap (σ : En) : sCont σ = .ct σ := nrfl rfl
def sIfK (f g : SF) (b : Bool) (σ : En) : OutS := if b = true then f σ else g σ
@[simp] theorem sIfK_t (f g : SF) (σ : En) : sIfK f g true σ = f σ := nrfl rfl
@[simp] theorem sIfK_f (f g : SF) (σ : En) : sIfK f g false σ = g σ := nrfl rfl
@[simp] theorem sIf_ap (σ : En) (t : TF) (f g : SF) : sIf t f g σ = OutS.ofE (t σ) (sIfK f g) := nrfl rfl
def exprK (_h : Hd) (σ : En) : OutS := .nx σ
@[simp] theorem exprK_ap (h : Hd) (σ : En) : exprK h σ = .nx σ := nrfl rfl
@[simp] theorem sExpr_ap (σ : En) (f : EF) : sExpr f σ = OutS.ofE (f σ) exprK := nrfl rfl
def retK3 (i : Nat) (d : D) (b : Bool) (σ : En) : OutS := if b = true then .rt d σ else .rt d (σ.set i none)
@[simp] theorem retK3_t (i : Nat) (d : D) (σ : En) : retK3 i d true σ = .rt d σ := nrfl rfl
@[simp] theorem retK3_f (i : Nat) (d : D) (σ : En) : retK3 i d false σ = .rt d (σ.set i none) := nrfl rfl
def retK2 (i : Nat) : Option D → En → OutS | some d, σ => retK3 i d (fz d) σ | none, _ => .err
@[simp] theorem retK2_some (i : Nat) (d : D) (σ : En) : retK2 i (some d) σ = retK3 i d (fz d) σ := nrfl rfl
def retK : Hd → En → OutS | .val d, σ => .rt d σ | .sl i, σ => retK2 i (sget σ i) σ
@[simp] theorem retK_val (d : D) (σ : En) : retK (.val d) σ = .rt d σ := nrfl rfl
@[simp] theorem retK_sl (i : Nat) (σ : En) : retK (.sl i) σ = retK2 i (sget σ i) σ := nrfl rfl
@[simp] theorem sRet_ap (σ : En) (f : EF) : sRet f σ = OutS.ofE (f σ) retK := by
  unfold sRet; congr; funext h σ1
  cases h with
  | val d => rfl
  | sl i => simp only [retK_sl]; cases sget σ1 i <;> rfl
@[simp] theorem sRetN_ap (σ : En) : sRetN σ = .rt .non σ := nrfl rfl
def setK2 (i : Nat) : Option (List D × En) → OutS | some ([d], σ) => if i < σ.length then .nx (σ.set i (some d)) else .err | _ => .err
@[simp] theorem setK2_some (i : Nat) (d : D) (σ : En) : setK2 i (some ([d], σ)) = if i < σ.length then .nx (σ.set i (some d)) else .err := nrfl rfl
def setK (i : Nat) (h : Hd) (σ : En) : OutS := setK2 i (give [h] σ)
@[simp] theorem setK_ap (i : Nat) (h : Hd) (σ : En) : setK i h σ = setK2 i (give [h] σ) := nrfl rfl
theorem one_cases {α : Type} (o : Option (List D × En)) (f : D → En → α) (z : α) (k : Option (List D × En) → α) (h1 : ∀ d σ, k (some ([d], σ)) = f d σ) (h2 : ∀ o, (∀ d σ, o ≠ some ([d], σ)) → k o = z) :
    (match o with | some ([d], σ) => f d σ | _ => z) = k o := by
  match o with
  | none => exact (h2 _ (fun _ _ e => by cases e)).symm
  | some ([], σ) => exact (h2 _ (fun _ _ e => by cases e)).symm
  | some ([d], σ) => exact (h1 d σ).symm
  | some (_ :: _ :: _, σ) => exact (h2 _ (fun _ _ e => by cases e)).symm
@[simp] theorem sSet_ap (σ : En) (i : Nat) (f : EF) : sSet i f σ = OutS.ofE (f σ) (setK i) := by
  unfold sSet; congr

def nxK (_u : Unit) (σ : En) : OutS := .nx σ
@[simp] theorem nxK_ap (u : Unit) (σ : En) : nxK u σ = .nx σ := nrfl rfl
def asgK2 (g : GF) : Option (List D × En) → OutS | some ([d], σ) => OutS.ofE (g d σ) nxK | _ => .err
@[simp] theorem asgK2_some (g : GF) (d : D) (σ : En) : asgK2 g (some ([d], σ)) = OutS.ofE (g d σ) nxK := nrfl rfl
def asgK (g : GF) (h : Hd) (σ : En) : OutS := asgK2 g (give [h] σ)
@[simp] theorem asgK_ap (g : GF) (h : Hd) (σ : En) : asgK g h σ = asgK2 g (give [h] σ) := nrfl rfl
@[simp] theorem sAsg_ap (σ : En) (f : EF) (g : GF) : sAsg f g σ = OutS.ofE (f σ) (asgK g) := by
  unfold sAsg; congr

noncomputable def parK2 (gs : GsF) : Option (List D × En) → OutS | some (ds, σ) => ifp (ds.length ≤ 16777216) (OutS.ofE (gs ds σ) nxK) .err | none => .err
@[simp] theorem parK2_some (gs : GsF) (ds : List D) (σ : En) : parK2 gs (some (ds, σ)) = ifp (ds.length ≤ 16777216) (OutS.ofE (gs ds σ) nxK) .err := nrfl rfl
noncomputable def parK (gs : GsF) (hs : List Hd) (σ : En) : OutS := parK2 gs (give hs σ)
@[simp] theorem parK_ap (gs : GsF) (hs : List Hd) (σ : En) : parK gs hs σ = parK2 gs (give hs σ) := nrfl rfl
@[simp] theorem sPar_ap (σ : En) (fs : AF) (gs : GsF) : sPar fs gs σ = OutS.ofE (fs σ) (parK gs) := by
  unfold sPar; congr; funext hs σ1; unfold parK
  cases give hs σ1 with | none => rfl | some p => obtain ⟨ds, σ2⟩ := p; simp only [parK2_some, ifp_ite]; rfl
def fldK4 (n f : Str) (d : D) (j : Nat) : Option D → En → OutS | some (.ins true c ks ds), σ => if c = n ∧ ks.length < 1000 then .nx (σ.set j (some (.ins true c (putKs f ks) (putDs f d ks ds)))) else .err | _, _ => .err
@[simp] theorem fldK4_some (n f : Str) (d : D) (j : Nat) (c : Str) (ks : List Str) (ds : List D) (σ : En) : fldK4 n f d j (some (.ins true c ks ds)) σ = if c = n ∧ ks.length < 1000 then .nx (σ.set j (some (.ins true c (putKs f ks) (putDs f d ks ds)))) else .err := nrfl rfl
def fldK3 (n f : Str) (d : D) : Hd → En → OutS | .sl j, σ => fldK4 n f d j (sget σ j) σ | .val _, _ => .err
@[simp] theorem fldK3_sl (n f : Str) (d : D) (j : Nat) (σ : En) : fldK3 n f d (.sl j) σ = fldK4 n f d j (sget σ j) σ := nrfl rfl
def fldK2 (n f : Str) (fo : EF) : Option (List D × En) → OutS | some ([d], σ) => OutS.ofE (fo σ) (fldK3 n f d) | _ => .err
@[simp] theorem fldK2_some (n f : Str) (fo : EF) (d : D) (σ : En) : fldK2 n f fo (some ([d], σ)) = OutS.ofE (fo σ) (fldK3 n f d) := nrfl rfl
def fldK (n f : Str) (fo : EF) (h : Hd) (σ : En) : OutS := fldK2 n f fo (give [h] σ)
@[simp] theorem fldK_ap (n f : Str) (fo : EF) (h : Hd) (σ : En) : fldK n f fo h σ = fldK2 n f fo (give [h] σ) := nrfl rfl
@[simp] theorem sFldD_ap (σ : En) (n f : Str) (fo fv : EF) : sFldD n f fo fv σ = OutS.ofE (fv σ) (fldK n f fo) := by
  unfold sFldD; congr; funext h σ1; unfold fldK
  cases give [h] σ1 with
  | none => rfl
  | some p =>
    obtain ⟨ds, σ2⟩ := p
    match ds with
    | [] => rfl
    | _ :: _ :: _ => rfl
    | [d] =>
      simp only [fldK2_some]
      congr; funext ho σ3
      cases ho with
      | val d => rfl
      | sl j =>
        simp only [fldK3_sl]
        cases sget σ3 j with
        | none => rfl
        | some e =>
          cases e <;> first | rfl | skip
          rename_i o c ks vs
          cases o <;> rfl
@[simp] theorem sFor_ap (σ : En) (it : IF) (g : GF) (b : SF) : sFor it g b σ = OutS.ofE (it σ) (forL g b) := nrfl rfl
@[simp] theorem sRaise0_ap (σ : En) (c : Str) : sRaise0 c σ = .exc c [] [] σ := nrfl rfl
def raiseK2 (c f : Str) : Option (List D × En) → OutS | some ([d], σ) => .exc c [f] [share d] σ | _ => .err
@[simp] theorem raiseK2_some (c f : Str) (d : D) (σ : En) : raiseK2 c f (some ([d], σ)) = .exc c [f] [share d] σ := nrfl rfl
def raiseK (c f : Str) (hs : List Hd) (σ : En) : OutS := raiseK2 c f (give hs σ)
@[simp] theorem raiseK_ap (c f : Str) (hs : List Hd) (σ : En) : raiseK c f hs σ = raiseK2 c f (give hs σ) := nrfl rfl
@[simp] theorem sRaise1_ap (σ : En) (c f : Str) (fs : AF) : sRaise1 c f fs σ = OutS.ofE (fs σ) (raiseK c f) := by
  unfold sRaise1; congr

def seqK (g : SF) : OutS → OutS | .nx σ => g σ | r => r
@[simp] theorem seqK_nx (g : SF) (σ : En) : seqK g (.nx σ) = g σ := nrfl rfl
@[simp] theorem seqK_rt (g : SF) (d : D) (σ : En) : seqK g (.rt d σ) = .rt d σ := nrfl rfl
@[simp] theorem seqK_bk (g : SF) (σ : En) : seqK g (.bk σ) = .bk σ := nrfl rfl
@[simp] theorem seqK_ct (g : SF) (σ : En) : seqK g (.ct σ) = .ct σ := nrfl rfl
@[simp] theorem seqK_err (g : SF) : seqK g .err = .err := nrfl rfl
@[simp] theorem seqK_exc (g : SF) (c ks vs) (σ : En) : seqK g (.exc c ks vs σ) = .exc c ks vs σ := nrfl rfl
theorem sSeq_ap (σ : En) (f g : SF) : sSeq f g σ = seqK g (f σ) := by unfold sSeq; cases f σ <;> rfl
/-! a def's call -/
def finK (d : D) : Option (List D) → OutC | some ds' => .ret d ds' | none => .err
@[simp] theorem finK_some (d : D) (ds : List D) : finK d (some ds) = .ret d ds := nrfl rfl
def finX (c : Str) (ks : List Str) (xs : List D) : Option (List D) → OutC | some ds' => .exc c ks xs ds' | none => .err
@[simp] theorem finX_some (c : Str) (ks : List Str) (xs : List D) (ds : List D) : finX c ks xs (some ds) = .exc c ks xs ds := nrfl rfl
def finM (rb : List Bool) (ds : List D) : OutS → OutC | .nx σ => finK .non (finD rb ds σ) | .rt d σ => finK d (finD rb ds σ) | .exc c ks xs σ => finX c ks xs (finD rb ds σ) | _ => .err
@[simp] theorem finM_nx (rb : List Bool) (ds : List D) (σ : En) : finM rb ds (.nx σ) = finK .non (finD rb ds σ) := nrfl rfl
@[simp] theorem finM_rt (rb : List Bool) (ds : List D) (d : D) (σ : En) : finM rb ds (.rt d σ) = finK d (finD rb ds σ) := nrfl rfl
@[simp] theorem finM_exc (rb : List Bool) (ds : List D) (c ks xs) (σ : En) : finM rb ds (.exc c ks xs σ) = finX c ks xs (finD rb ds σ) := nrfl rfl
theorem mDef_ap (rb : List Bool) (k : Nat) (f : SF) (ds : List D) (hl : ds.length = rb.length) : mDef rb k f ds = finM rb ds (f (ds.map some ++ List.replicate k none)) := by
  unfold mDef; rw [if_pos hl]; cases f (ds.map some ++ List.replicate k none) <;> rfl
def finT (d : D) : Option (List D) → Option (List D) | some r => some (d :: r) | none => none
@[simp] theorem finT_some (d : D) (r : List D) : finT d (some r) = some (d :: r) := nrfl rfl
def finF (d : D) (b : Bool) (o : Option (List D)) : Option (List D) := if b = true then finT d o else none
@[simp] theorem finF_t (d : D) (o : Option (List D)) : finF d true o = finT d o := nrfl rfl
@[simp] theorem finD_nil (σ : En) : finD [] [] σ = some [] := nrfl rfl
@[simp] theorem finD_true (rb : List Bool) (d : D) (ds : List D) (o : Option D) (σ : En) : finD (true :: rb) (d :: ds) (o :: σ) = finF d (fz d) (finD rb ds σ) := nrfl rfl
@[simp] theorem finD_false (rb : List Bool) (d : D) (ds : List D) (o : D) (σ : En) : finD (false :: rb) (d :: ds) (some o :: σ) = finT o (finD rb ds σ) := nrfl rfl
@[simp] theorem share_int (i : Int) : share (.int i) = .int i := nrfl rfl
@[simp] theorem share_bl (i : Bool) : share (.bl i) = .bl i := nrfl rfl
@[simp] theorem share_non : share .non = .non := nrfl rfl
@[simp] theorem share_str (i : Str) : share (.str i) = .str i := nrfl rfl
@[simp] theorem share_tup (ds : List D) : share (.tup ds) = .tup ds := nrfl rfl
@[simp] theorem share_lstF (ds : List D) : share (.lst false ds) = .lst false ds := nrfl rfl
@[simp] theorem share_lst (ds : List D) : share (.lst true ds) = .lst false (shareL ds) := nrfl rfl
@[simp] theorem share_insF (c : Str) (ks : List Str) (ds : List D) : share (.ins false c ks ds) = .ins false c ks ds := nrfl rfl
@[simp] theorem share_ins (c : Str) (ks : List Str) (ds : List D) : share (.ins true c ks ds) = .ins false c ks (shareL ds) := nrfl rfl
@[simp] theorem share_dctF (ks : List Key) (ds : List D) : share (.dct false ks ds) = .dct false ks ds := nrfl rfl
@[simp] theorem share_dct (ks : List Key) (ds : List D) : share (.dct true ks ds) = .dct false ks (shareL ds) := nrfl rfl
@[simp] theorem share_scr (ns : List Int) : share (.scr ns) = .scr ns := nrfl rfl
@[simp] theorem share_exn (a od c ks vs) : share (.exn a od c ks vs) = .exn a od c ks vs := nrfl rfl
@[simp] theorem shareL_nil : shareL [] = [] := nrfl rfl
@[simp] theorem shareL_cons (d : D) (ds : List D) : shareL (d :: ds) = share d :: shareL ds := nrfl rfl
@[simp] theorem fz_int (i : Int) : fz (.int i) = true := nrfl rfl
@[simp] theorem fz_bl (i : Bool) : fz (.bl i) = true := nrfl rfl
@[simp] theorem fz_non : fz .non = true := nrfl rfl
@[simp] theorem fz_str (i : Str) : fz (.str i) = true := nrfl rfl
@[simp] theorem fz_tup (ds : List D) : fz (.tup ds) = true := nrfl rfl
@[simp] theorem fz_lstF (ds : List D) : fz (.lst false ds) = true := nrfl rfl
@[simp] theorem fz_lst (ds : List D) : fz (.lst true ds) = false := nrfl rfl
@[simp] theorem fz_insF (c : Str) (ks : List Str) (ds : List D) : fz (.ins false c ks ds) = true := nrfl rfl
@[simp] theorem fz_ins (c : Str) (ks : List Str) (ds : List D) : fz (.ins true c ks ds) = false := nrfl rfl
@[simp] theorem fz_dctF (ks : List Key) (ds : List D) : fz (.dct false ks ds) = true := nrfl rfl
@[simp] theorem fz_dct (ks : List Key) (ds : List D) : fz (.dct true ks ds) = false := nrfl rfl
@[simp] theorem fz_scr (ns : List Int) : fz (.scr ns) = true := nrfl rfl
@[simp] theorem fz_exn (a od c ks vs) : fz (.exn a od c ks vs) = true := nrfl rfl
theorem shareL_map {α : Type} (f : α → D) (hf : ∀ x, fz (f x) = true) (xs : List α) : shareL (xs.map f) = xs.map f := shareL_fz (by simp [hf])
@[simp] theorem shareL_ints {α : Type} (f : α → Int) (xs : List α) : shareL (xs.map fun x => D.int (f x)) = xs.map fun x => D.int (f x) := shareL_map _ (fun _ => rfl) _
@[simp] theorem shareL_int (xs : List Int) : shareL (xs.map D.int) = xs.map D.int := shareL_map _ (fun _ => rfl) _
@[simp] theorem shareL_tups {α : Type} (f : α → List D) (xs : List α) : shareL (xs.map fun x => D.tup (f x)) = xs.map fun x => D.tup (f x) := shareL_map _ (fun _ => rfl) _
theorem fzAll_map {α : Type} (f : α → D) (hf : ∀ x, fz (f x) = true) (xs : List α) : (xs.map f).all fz = true := by simp [hf]
@[simp] theorem isLst_lst (o : Bool) (ds : List D) : isLst (some (.lst o ds)) = true := nrfl rfl
@[simp] theorem dAdd_int (i j : Int) : dAdd (.int i) (.int j) = some (.int (i + j)) := nrfl rfl
@[simp] theorem dAdd_tup (a b : List D) : dAdd (.tup a) (.tup b) = ifp (a.length + b.length ≤ 16777216) (some (.tup (a ++ b))) none := by
  simp only [← ifp_ite]; rfl
@[simp] theorem dSub_int (i j : Int) : dSub (.int i) (.int j) = some (.int (i - j)) := nrfl rfl
@[simp] theorem dMul_int (i j : Int) : dMul (.int i) (.int j) = ifp (CMul i j) (some (.int (i * j))) none := by
  simp only [← ifp_ite]; rfl
@[simp] theorem dMul_lst (a : List D) (k : Int) : dMul (.lst true a) (.int k) = ifp (a.all fz ∧ -1000 ≤ k ∧ k ≤ 1000 ∧ a.length ≤ 1000) (some (.lst true (List.replicate k.toNat a).flatten)) none := by
  simp only [← ifp_ite]; rfl
@[simp] theorem dMul_tup (a : List D) (k : Int) : dMul (.tup a) (.int k) = ifp (-1000 ≤ k ∧ k ≤ 1000 ∧ a.length ≤ 1000) (some (.tup (List.replicate k.toNat a).flatten)) none := by
  simp only [← ifp_ite]; rfl
@[simp] theorem dFdiv_int (i j : Int) : dFdiv (.int i) (.int j) = ifp (CDivN i j) (some (.int (i.fdiv j))) none := by
  simp only [← ifp_ite]; rfl
@[simp] theorem dMod_int (i j : Int) : dMod (.int i) (.int j) = if j ≠ 0 then some (.int (i.fmod j)) else none := nrfl rfl
@[simp] theorem dPow_int (i j : Int) : dPow (.int i) (.int j) = ifp (CPow i j) (some (.int (i ^ j.toNat))) none := by
  simp only [← ifp_ite]; rfl
@[simp] theorem dCmp_int (p : Int → Int → Bool) (i j : Int) : dCmp p (.int i) (.int j) = some (.bl (p i j)) := nrfl rfl
@[simp] theorem dLen_tup (ds : List D) : dLen (.tup ds) = some (.int ds.length) := nrfl rfl
@[simp] theorem dLen_lst (o : Bool) (ds : List D) : dLen (.lst o ds) = some (.int ds.length) := nrfl rfl
@[simp] theorem dLen_scr (ds : List Int) : dLen (.scr ds) = some (.int ds.length) := nrfl rfl
@[simp] theorem dInt_int (i : Int) : dInt (.int i) = some (.int i) := nrfl rfl
@[simp] theorem dInt_bl (b : Bool) : dInt (.bl b) = some (.int (if b then 1 else 0)) := nrfl rfl
@[simp] theorem dAbs_int (i : Int) : dAbs (.int i) = some (.int (if i < 0 then -i else i)) := nrfl rfl
@[simp] theorem dNeg_int (i : Int) : dNeg (.int i) = some (.int (-i)) := nrfl rfl
@[simp] theorem dIx_tup (ds : List D) (i : Int) : dIx (.tup ds) (.int i) = atI ds i := nrfl rfl
@[simp] theorem dIx_lst (o : Bool) (ds : List D) (i : Int) : dIx (.lst o ds) (.int i) = match atI ds i with
    | some d => if fz d then some d else none
    | none => none := nrfl rfl
@[simp] theorem dTuple_tup (ds : List D) : dTuple (.tup ds) = some (.tup ds) := nrfl rfl
@[simp] theorem dTuple_lst (o : Bool) (ds : List D) : dTuple (.lst o ds) = if ds.all fz then some (.tup ds) else none := nrfl rfl
@[simp] theorem dNotB_bl (a b : Bool) : dNotB (.bl a) (.bl b) = some (.bl (!decide (a = b))) := nrfl rfl
@[simp] theorem dIsB_bl (a b : Bool) : dIsB (.bl a) (.bl b) = some (.bl (decide (a = b))) := nrfl rfl
@[simp] theorem seqItems_tup (ds : List D) : seqItems (.tup ds) = some ds := nrfl rfl
@[simp] theorem seqItems_lst (ds : List D) : seqItems (.lst false ds) = some ds := nrfl rfl
@[simp] theorem seqItems_scr (ds : List Int) : seqItems (.scr ds) = some (ds.map .int) := nrfl rfl
@[simp] theorem mApp_one (ds : List D) (d : D) : mApp ds [d] = ifp (ds.length < 16777216) (some (.non, ds ++ [d])) none := by
  simp only [← ifp_ite]; rfl
theorem atI_ofNat {α : Type} (xs : List α) (j : Nat) : atI xs (j : Int) = xs[j]? := by
  by_cases h : j < xs.length
  · rw [atI_nat (List.getElem?_eq_getElem h), List.getElem?_eq_getElem h]
  · unfold atI ixN
    rw [if_pos (by omega), if_neg (by omega), List.getElem?_eq_none (by omega)]; rfl
@[simp] theorem atI_zero {α : Type} (xs : List α) : atI xs 0 = xs[0]? := atI_ofNat xs 0
@[simp] theorem atI_one {α : Type} (xs : List α) : atI xs 1 = xs[1]? := atI_ofNat xs 1
@[simp] theorem atI_lit {α : Type} (xs : List α) (n : Nat) : atI xs (no_index (OfNat.ofNat n : Int)) = xs[(OfNat.ofNat n : Nat)]? := atI_ofNat xs n
@[simp] theorem atI_cast {α : Type} (xs : List α) (n : Nat) : atI xs (n : Int) = xs[n]? := atI_ofNat xs n
theorem ixN_ofNat {n j : Nat} (h : j < n) : ixN n (j : Int) = some j := by
  unfold ixN; rw [if_pos (by omega), if_pos (by omega)]; simp
@[simp] theorem ixN_zero (n : Nat) : ixN n 0 = if 0 < n then some 0 else none := by
  unfold ixN; rw [if_pos (by omega)]; by_cases h : 0 < n
  · rw [if_pos (by omega), if_pos h]; rfl
  · rw [if_neg (by omega), if_neg h]
@[simp] theorem ixN_one (n : Nat) : ixN n 1 = if 1 < n then some 1 else none := by
  unfold ixN; rw [if_pos (by omega)]; by_cases h : 1 < n
  · rw [if_pos (by omega), if_pos h]; rfl
  · rw [if_neg (by omega), if_neg h]
theorem ixN_cast (n k : Nat) : ixN n (k : Int) = if k < n then some k else none := by
  unfold ixN; rw [if_pos (by omega)]; by_cases h : k < n
  · rw [if_pos (by omega), if_pos h]; simp
  · rw [if_neg (by omega), if_neg h]
@[simp] theorem ixN_lit (n k : Nat) : ixN n (no_index (OfNat.ofNat k : Int)) = if (OfNat.ofNat k : Nat) < n then some (OfNat.ofNat k : Nat) else none := ixN_cast n k
theorem atI_last {α : Type} (xs : List α) (x : α) : atI (xs ++ [x]) (-1) = some x := by
  unfold atI ixN
  rw [if_neg (by omega), if_pos (by simp; omega)]
  have : (-1 + ((xs ++ [x]).length : Int)).toNat = xs.length := by simp; omega
  rw [this]
  simp
/-- where a suite may end -/
structure Tgt where
  nx : En → Prop
  bk : En → Prop := fun _ => False
  ct : En → Prop := fun _ => False
  rt : D → En → Prop := fun _ _ => False
  xc : Str → List Str → List D → En → Prop := fun _ _ _ _ => False
def GoD (r : OutS) (T : Tgt) : Prop := match r with
  | .err => False
  | .nx σ => T.nx σ
  | .bk σ => T.bk σ
  | .ct σ => T.ct σ
  | .rt d σ => T.rt d σ
  | .exc c ks vs σ => T.xc c ks vs σ
structure Go (r : OutS) (T : Tgt) : Prop where
  out : GoD r T
theorem go_eq (r : OutS) (T : Tgt) : Go r T = GoD r T := propext ⟨Go.out, Go.mk⟩
@[simp] theorem go_nx (σ : En) (T : Tgt) : Go (.nx σ) T = T.nx σ := go_eq _ _
@[simp] theorem go_bk (σ : En) (T : Tgt) : Go (.bk σ) T = T.bk σ := go_eq _ _
@[simp] theorem go_ct (σ : En) (T : Tgt) : Go (.ct σ) T = T.ct σ := go_eq _ _
@[simp] theorem go_rt (d : D) (σ : En) (T : Tgt) : Go (.rt d σ) T = T.rt d σ := go_eq _ _
@[simp] theorem go_exc (c ks vs) (σ : En) (T : Tgt) : Go (.exc c ks vs σ) T = T.xc c ks vs σ := go_eq _ _
@[simp] theorem go_err (T : Tgt) : Go .err T = False := go_eq _ _
theorem go_seq (f g : SF) (σ : En) (T : Tgt) : Go (sSeq f g σ) T = Go (f σ) { nx := fun σ1 => Go (g σ1) T, bk := T.bk, ct := T.ct, rt := T.rt, xc := T.xc } := by
  rw [sSeq_ap]
  cases f σ <;> simp
theorem go_imp {r : OutS} {S T : Tgt} (h : Go r S) (n : ∀ σ, S.nx σ → T.nx σ) (b : ∀ σ, S.bk σ → T.bk σ) (c : ∀ σ, S.ct σ → T.ct σ) (t : ∀ d σ, S.rt d σ → T.rt d σ) (x : ∀ a k v σ, S.xc a k v σ → T.xc a k v σ) : Go r T := by
  cases r with
  | err => rw [go_err] at h; exact h.elim
  | nx σ => rw [go_nx] at h ⊢; exact n _ h
  | bk σ => rw [go_bk] at h ⊢; exact b _ h
  | ct σ => rw [go_ct] at h ⊢; exact c _ h
  | rt d σ => rw [go_rt] at h ⊢; exact t _ _ h
  | exc a k v σ => rw [go_exc] at h ⊢; exact x _ _ _ _ h
theorem go_seqI {f g : SF} {σ : En} {T : Tgt} (M : En → Prop) (h : Go (f σ) { nx := M, bk := T.bk, ct := T.ct, rt := T.rt, xc := T.xc }) (k : ∀ σ1, M σ1 → Go (g σ1) T) : Go (sSeq f g σ) T := by
  rw [go_seq]
  exact go_imp h k (fun _ h => h) (fun _ h => h) (fun _ _ h => h) (fun _ _ _ _ h => h)
theorem go_step {f g : SF} {σ : En} {T : Tgt} (σ' : En) (e : f σ = .nx σ') (k : Go (g σ') T) : Go (sSeq f g σ) T := by
  rw [go_seq, e, go_nx]; exact k
theorem go_last {f : SF} {σ : En} {T : Tgt} (σ' : En) (e : f σ = .nx σ') (k : T.nx σ') : Go (f σ) T := by rw [e, go_nx]; exact k
theorem go_ret {f : SF} {σ : En} {T : Tgt} (d : D) (σ' : En) (e : f σ = .rt d σ') (k : T.rt d σ') : Go (f σ) T := by rw [e, go_rt]; exact k
theorem go_xc {f : SF} {σ : En} {T : Tgt} (c ks vs) (σ' : En) (e : f σ = .exc c ks vs σ') (k : T.xc c ks vs σ') : Go (f σ) T := by rw [e, go_exc]; exact k
theorem go_seq_rt {f g : SF} {σ : En} {T : Tgt} (d : D) (σ' : En) (e : f σ = .rt d σ') (k : T.rt d σ') : Go (sSeq f g σ) T := by rw [go_seq, e, go_rt]; exact k
theorem go_seq_xc {f g : SF} {σ : En} {T : Tgt} (c ks vs) (σ' : En) (e : f σ = .exc c ks vs σ') (k : T.xc c ks vs σ') : Go (sSeq f g σ) T := by rw [go_seq, e, go_exc]; exact k
/-- a for-loop by its invariant: I by the turn and the frame -/
theorem go_forL {g : GF} {b : SF} {T : Tgt} (I : Nat → En → Prop) : ∀ (items : List D) (k : Nat) (σ : En), I k σ →
    (∀ i d σ, items[i]? = some d → I (k + i) σ → ∃ σ1, g d σ = .ok () σ1 ∧ Go (b σ1) { nx := I (k + i + 1), bk := T.nx, ct := I (k + i + 1), rt := T.rt, xc := T.xc }) →
    (∀ σ, I (k + items.length) σ → T.nx σ) → Go (forL g b items σ) T
  | [], k, σ, h0, _, he => by
    show Go (.nx σ) T
    rw [go_nx]; exact he σ h0
  | d :: ds, k, σ, h0, h, he => by
    obtain ⟨σ1, e1, q⟩ := h 0 d σ rfl h0
    unfold forL
    rw [e1]
    dsimp only
    have rest : ∀ σ2, I (k + 1) σ2 → Go (forL g b ds σ2) T := fun σ2 p => go_forL I ds (k + 1) σ2 p (fun i d' σ3 hi hp => by
      have := h (i + 1) d' σ3 (by simpa using hi) (by simpa [Nat.add_assoc, Nat.add_comm 1] using hp)
      simpa [Nat.add_assoc, Nat.add_comm 1] using this) (fun σ3 hp => he σ3 (by simpa [Nat.add_assoc, Nat.add_comm 1] using hp))
    cases e2 : b σ1 with
    | err => rw [e2, go_err] at q; exact q.elim
    | nx σ2 => rw [e2, go_nx] at q; exact rest σ2 q
    | ct σ2 => rw [e2, go_ct] at q; exact rest σ2 q
    | bk σ2 => rw [e2, go_bk] at q; dsimp only; rw [go_nx]; exact q
    | rt d σ2 => rw [e2, go_rt] at q; dsimp only; rw [go_rt]; exact q
    | exc c ks vs σ2 => rw [e2, go_exc] at q; dsimp only; rw [go_exc]; exact q
/-- a for-loop over numbers, by its invariant -/
theorem go_rng {g : GF} {b : SF} {T : Tgt} (I : Nat → En → Prop) (n : Nat) (σ : En) (h0 : I 0 σ)
    (h : ∀ i σ, i < n → I i σ → ∃ σ1, g (.int i) σ = .ok () σ1 ∧ Go (b σ1) { nx := I (i + 1), bk := T.nx, ct := I (i + 1), rt := T.rt, xc := T.xc })
    (he : ∀ σ, I n σ → T.nx σ) : Go (forL g b ((List.range n).map fun k : Nat => D.int (k : Int)) σ) T := by
  refine go_forL I _ 0 σ h0 (fun i d σ hi hp => ?_) (fun σ hp => he σ (by simpa using hp))
  rw [List.getElem?_map] at hi
  by_cases hn : i < n
  · rw [List.getElem?_range hn] at hi
    cases hi
    simpa using h i σ hn (by simpa using hp)
  · rw [List.getElem?_eq_none (by simpa using hn)] at hi; cases hi
theorem go_for {it : IF} {g : GF} {b : SF} {σ σ1 : En} {T : Tgt} {items : List D} (I : Nat → En → Prop) (hit : it σ = .ok items σ1) (h0 : I 0 σ1)
    (h : ∀ i d σ, items[i]? = some d → I i σ → ∃ σ1, g d σ = .ok () σ1 ∧ Go (b σ1) { nx := I (i + 1), bk := T.nx, ct := I (i + 1), rt := T.rt, xc := T.xc })
    (he : ∀ σ, I items.length σ → T.nx σ) : Go (sFor it g b σ) T := by
  unfold sFor
  rw [hit]
  exact go_forL I items 0 σ1 h0 (fun i d σ hi hp => by simpa only [Nat.zero_add] using h i d σ hi (by simpa using hp)) (fun σ hp => he σ (by simpa using hp))
theorem go_forR {it : IF} {g : GF} {b : SF} {σ σ1 : En} {T : Tgt} (n : Nat) (I : Nat → En → Prop) (hit : it σ = .ok ((List.range n).map fun k : Nat => D.int (k : Int)) σ1) (h0 : I 0 σ1)
    (h : ∀ i σ, i < n → I i σ → ∃ σ1, g (.int i) σ = .ok () σ1 ∧ Go (b σ1) { nx := I (i + 1), bk := T.nx, ct := I (i + 1), rt := T.rt, xc := T.xc })
    (he : ∀ σ, I n σ → T.nx σ) : Go (sFor it g b σ) T := by
  unfold sFor
  rw [hit]
  exact go_rng I n σ1 h0 h he
/-- a for-loop over what is made from L -/
theorem go_forM {α : Type} {it : IF} {g : GF} {b : SF} {σ σ1 : En} {T : Tgt} (q : α → D) (L : List α) (I : Nat → En → Prop) (hit : it σ = .ok (L.map q) σ1) (h0 : I 0 σ1)
    (h : ∀ i x σ, L[i]? = some x → I i σ → ∃ σ1, g (q x) σ = .ok () σ1 ∧ Go (b σ1) { nx := I (i + 1), bk := T.nx, ct := I (i + 1), rt := T.rt, xc := T.xc })
    (he : ∀ σ, I L.length σ → T.nx σ) : Go (sFor it g b σ) T := by
  refine go_for I hit h0 (fun i d σ hi hp => ?_) (fun σ hp => he σ (by simpa using hp))
  rw [List.getElem?_map] at hi
  cases hx : L[i]? with
  | none => rw [hx] at hi; cases hi
  | some x => rw [hx] at hi; cases hi; exact h i x σ hx hp
/-- a def's call, by where its suite may end -/
theorem mdef_go {rb : List Bool} {k : Nat} {f : SF} {ds : List D} {R : OutC → Prop} (hl : ds.length = rb.length)
    (h : Go (f (ds.map some ++ List.replicate k none)) { nx := fun σ => ∃ ds', finD rb ds σ = some ds' ∧ R (.ret .non ds'), rt := fun d σ => ∃ ds', finD rb ds σ = some ds' ∧ R (.ret d ds'), xc := fun c ks vs σ => ∃ ds', finD rb ds σ = some ds' ∧ R (.exc c ks vs ds') }) : R (mDef rb k f ds) := by
  unfold mDef
  rw [if_pos hl]
  cases e : f (ds.map some ++ List.replicate k none) with
  | err => rw [e, go_err] at h; exact h.elim
  | bk σ => rw [e, go_bk] at h; exact h.elim
  | ct σ => rw [e, go_ct] at h; exact h.elim
  | nx σ => rw [e, go_nx] at h; obtain ⟨ds', e1, e2⟩ := h; simp only [e1]; exact e2
  | rt d σ => rw [e, go_rt] at h; obtain ⟨ds', e1, e2⟩ := h; simp only [e1]; exact e2
  | exc c ks vs σ => rw [e, go_exc] at h; obtain ⟨ds', e1, e2⟩ := h; simp only [e1]; exact e2
theorem mdef_eq {rb : List Bool} {k : Nat} {f : SF} {ds : List D} {o : OutC} (hl : ds.length = rb.length)
    (h : Go (f (ds.map some ++ List.replicate k none)) { nx := fun σ => ∃ ds', finD rb ds σ = some ds' ∧ .ret .non ds' = o, rt := fun d σ => ∃ ds', finD rb ds σ = some ds' ∧ .ret d ds' = o, xc := fun c ks vs σ => ∃ ds', finD rb ds σ = some ds' ∧ .exc c ks vs ds' = o }) : mDef rb k f ds = o :=
  mdef_go (R := fun r => r = o) hl h
/-- one turn of a list comprehension -/
def stpK3 (vs : List Nat) : Option (List D × En) → Option (Option D × En) | some ([y], σ) => some (some y, wipeD σ vs) | _ => none
@[simp] theorem stpK3_some (vs : List Nat) (y : D) (σ : En) : stpK3 vs (some ([y], σ)) = some (some y, wipeD σ vs) := nrfl rfl
def stpK2 (vs : List Nat) : Out Hd → Option (Option D × En) | .ok h σ => stpK3 vs (give [h] σ) | _ => none
@[simp] theorem stpK2_ok (vs : List Nat) (h : Hd) (σ : En) : stpK2 vs (.ok h σ) = stpK3 vs (give [h] σ) := nrfl rfl
def stpK1 (vs : List Nat) (f : EF) : Out Bool → Option (Option D × En) | .ok true σ => stpK2 vs (f σ) | .ok false σ => some (none, wipeD σ vs) | _ => none
@[simp] theorem stpK1_t (vs : List Nat) (f : EF) (σ : En) : stpK1 vs f (.ok true σ) = stpK2 vs (f σ) := nrfl rfl
@[simp] theorem stpK1_f (vs : List Nat) (f : EF) (σ : En) : stpK1 vs f (.ok false σ) = some (none, wipeD σ vs) := nrfl rfl
def stpK0 (vs : List Nat) (t : TF) (f : EF) : Out Unit → Option (Option D × En) | .ok _ σ => stpK1 vs f (t σ) | _ => none
@[simp] theorem stpK0_ok (vs : List Nat) (t : TF) (f : EF) (u : Unit) (σ : En) : stpK0 vs t f (.ok u σ) = stpK1 vs f (t σ) := nrfl rfl
def lcStep (vs : List Nat) (g : GF) (t : TF) (f : EF) (d : D) (σ : En) : Option (Option D × En) := stpK0 vs t f (g d σ)
theorem lc_go {vs : List Nat} {g : GF} {t : TF} {f : EF} (I : Nat → List D → En → Prop) : ∀ (items : List D) (k : Nat) (acc : List D) (σ : En), I k acc σ → acc.length + items.length ≤ 16777216 →
    (∀ i d acc σ, items[i]? = some d → I (k + i) acc σ → ∃ o σ', lcStep vs g t f d σ = some (o, σ') ∧ I (k + i + 1) (acc ++ o.toList) σ') →
    ∃ acc' σ', lcLoop vs g t f items acc σ = .ok acc' σ' ∧ I (k + items.length) acc' σ'
  | [], k, acc, σ, h0, _, _ => ⟨acc, σ, rfl, h0⟩
  | d :: ds, k, acc, σ, h0, hl, h => by
    obtain ⟨o, σ', e, q⟩ := h 0 d acc σ rfl h0
    have hl' : acc.length + (ds.length + 1) ≤ 16777216 := by simpa using hl
    have rest := lc_go (vs := vs) (g := g) (t := t) (f := f) I ds (k + 1) (acc ++ o.toList) σ' q (by cases o <;> simp <;> omega) (fun i d' a' σ3 hi hp => by
      have := h (i + 1) d' a' σ3 (by simpa using hi) (by simpa [Nat.add_assoc, Nat.add_comm 1] using hp)
      simpa [Nat.add_assoc, Nat.add_comm 1] using this)
    obtain ⟨acc', σ2, e2, q2⟩ := rest
    refine ⟨acc', σ2, ?_, by simpa [Nat.add_assoc, Nat.add_comm 1] using q2⟩
    unfold lcStep at e
    unfold lcLoop
    revert e
    cases g d σ with
    | err => intro e; cases e
    | exc c ks vs σ1 => intro e; cases e
    | ok u σ1 =>
      rw [stpK0_ok]
      dsimp only
      cases t σ1 with
      | err => intro e; cases e
      | exc c ks vs σ1 => intro e; cases e
      | ok b σ2 =>
        cases b with
        | false =>
          intro e
          cases e
          simpa using e2
        | true =>
          rw [stpK1_t]
          dsimp only
          cases f σ2 with
          | err => intro e; cases e
          | exc c ks vs σ1 => intro e; cases e
          | ok h σ3 =>
            rw [stpK2_ok]
            dsimp only
            cases give [h] σ3 with
            | none => intro e; cases e
            | some p =>
              obtain ⟨ys, σ4⟩ := p
              match ys with
              | [] => intro e; cases e
              | [y] =>
                intro e
                cases e
                simp only [if_true]
                rw [if_pos (by omega)]
                simpa using e2
              | _ :: _ :: _ => intro e; cases e
/-- a comprehension that leaves the frame: what each item adds -/
theorem lc_map {vs : List Nat} {g : GF} {t : TF} {f : EF} {σ : En} (F : D → Option D) (items : List D) (hl : items.length ≤ 16777216) (h : ∀ d ∈ items, lcStep vs g t f d σ = some (F d, σ)) :
    lcLoop vs g t f items [] σ = .ok (items.filterMap F) σ := by
  obtain ⟨acc', σ', e, e1, e2⟩ := lc_go (vs := vs) (g := g) (t := t) (f := f) (fun k acc σ' => acc = (items.take k).filterMap F ∧ σ' = σ) items 0 [] σ ⟨by simp, rfl⟩ (by simpa using hl) (fun i d acc σ1 hi ⟨h1, h2⟩ => by
    subst h1 h2
    refine ⟨F d, σ1, h d (List.mem_of_getElem? hi), ?_, rfl⟩
    obtain ⟨hi1, hi2⟩ := List.getElem?_eq_some_iff.mp hi
    rw [Nat.zero_add, List.take_add_one, hi, List.filterMap_append]
    cases hF : F d <;> simp [hF])
  rw [e, e1, e2]; simp
/-- a comprehension that leaves the frame, its items made from L -/
theorem lc_mapL {α : Type} {vs : List Nat} {g : GF} {t : TF} {f : EF} {σ : En} {items : List D} (q : α → D) (F : α → Option D) (L : List α) (hi : items = L.map q) (hl : L.length ≤ 16777216) (h : ∀ x ∈ L, lcStep vs g t f (q x) σ = some (F x, σ)) :
    lcLoop vs g t f items [] σ = .ok (L.filterMap F) σ := by
  subst hi
  obtain ⟨acc', σ', e, e1, e2⟩ := lc_go (vs := vs) (g := g) (t := t) (f := f) (fun k acc σ' => acc = (L.take k).filterMap F ∧ σ' = σ) (L.map q) 0 [] σ ⟨by simp, rfl⟩ (by simpa using hl) (fun i d acc σ1 hi ⟨h1, h2⟩ => by
    subst h1 h2
    rw [List.getElem?_map] at hi
    cases hx : L[i]? with
    | none => rw [hx] at hi; cases hi
    | some x =>
      rw [hx] at hi
      cases hi
      refine ⟨F x, σ1, h x (List.mem_of_getElem? hx), ?_, rfl⟩
      rw [Nat.zero_add, List.take_add_one, hx, List.filterMap_append]
      cases hF : F x <;> simp [hF])
  rw [e, e1, e2]; simp
theorem lc_mapA {α : Type} {vs : List Nat} {g : GF} {t : TF} {f : EF} {σ : En} {items : List D} (q : α → D) (F : α → D) (L : List α) (hi : items = L.map q) (hl : L.length ≤ 16777216) (h : ∀ x ∈ L, lcStep vs g t f (q x) σ = some (some (F x), σ)) :
    lcLoop vs g t f items [] σ = .ok (L.map F) σ := by
  rw [lc_mapL q (fun x => some (F x)) L hi hl h]; simp
theorem zip2_map {α β : Type} (f : α → D) (g : β → D) : ∀ (xs : List α) (ys : List β), zip2Items (xs.map f) (ys.map g) = (List.zip xs ys).map fun p => .tup [f p.1, g p.2]
  | [], _ => by simp [zip2Items]
  | _ :: _, [] => by simp [zip2Items]
  | x :: xs, y :: ys => by
    have := zip2_map f g xs ys
    simp only [zip2Items] at this ⊢
    simp [this]
theorem zip3_map {α β γ : Type} (f : α → D) (g : β → D) (h : γ → D) : ∀ (xs : List α) (ys : List β) (zs : List γ), zip3Items (xs.map f) (ys.map g) (zs.map h) = (List.zip xs (List.zip ys zs)).map fun p => .tup [f p.1, g p.2.1, h p.2.2]
  | [], _, _ => by simp [zip3Items]
  | _ :: _, [], _ => by simp [zip3Items]
  | _ :: _, _ :: _, [] => by simp [zip3Items]
  | x :: xs, y :: ys, z :: zs => by
    have := zip3_map f g h xs ys zs
    simp only [zip3Items] at this ⊢
    simp [this]
theorem enum_map {α : Type} (f : α → D) (xs : List α) : enumItems (xs.map f) = xs.zipIdx.map fun p => .tup [.int (p.2 : Nat), f p.1] := by
  unfold enumItems
  apply List.ext_getElem?
  intro i
  by_cases h : i < xs.length
  · simp [List.getElem?_range, h]
  · simp [List.getElem?_eq_none, Nat.le_of_not_lt h]
theorem dAll_bl (o : Bool) (bs : List Bool) : dAll (.lst o (bs.map .bl)) = some (.bl (bs.all id)) := by
  simp only [dAll, toB_map]
theorem dAny_bl (o : Bool) (bs : List Bool) : dAny (.lst o (bs.map .bl)) = some (.bl (bs.any id)) := by
  simp only [dAny, toB_map]
theorem dAll_map {α : Type} (o : Bool) (F : α → Bool) (L : List α) : dAll (.lst o (L.map fun x => .bl (F x))) = some (.bl (L.all F)) := by
  have := dAll_bl o (L.map F)
  rw [List.map_map] at this
  simpa [Function.comp_def] using this
theorem dAny_map {α : Type} (o : Bool) (F : α → Bool) (L : List α) : dAny (.lst o (L.map fun x => .bl (F x))) = some (.bl (L.any F)) := by
  have := dAny_bl o (L.map F)
  rw [List.map_map] at this
  simpa [Function.comp_def] using this
end DL
/-! rows to evaluate what DStr, DStr2, DTry, DLam2 add -/
namespace DL
open PySem PySem.Spec PyProof.Rows L2
def m1K3 (op : RD) (ha hb : Hd) (σ : En) : Out Hd := dr2 op (deref ha σ) (deref hb σ) σ
@[simp] theorem m1K3_ap (op : RD) (ha hb : Hd) (σ : En) : m1K3 op ha hb σ = dr2 op (deref ha σ) (deref hb σ) σ := nrfl rfl
def m1K2 (op : RD) (fb : EF) (ha : Hd) (b : Bool) (σ : En) : Out Hd := if b = true then (fb σ).bind (m1K3 op ha) else .err
@[simp] theorem m1K2_t (op : RD) (fb : EF) (ha : Hd) (σ : En) : m1K2 op fb ha true σ = (fb σ).bind (m1K3 op ha) := nrfl rfl
def m1K (op : RD) (fb : EF) (ha : Hd) (σ : En) : Out Hd := m1K2 op fb ha (isStrD (deref ha σ)) σ
@[simp] theorem m1K_ap (op : RD) (fb : EF) (ha : Hd) (σ : En) : m1K op fb ha σ = m1K2 op fb ha (isStrD (deref ha σ)) σ := nrfl rfl
@[simp] theorem isStrD_str (z : Str) : isStrD (some (.str z)) = true := nrfl rfl
@[simp] theorem eM1_ap (σ : En) (op : RD) (fa fb : EF) : eM1 op fa fb σ = (fa σ).bind (m1K op fb) := by
  unfold eM1; congr; funext ha σ1; rw [m1K_ap]; cases isStrD (deref ha σ1)
  · rfl
  · rw [m1K2_t, if_pos rfl]; congr; funext hb σ2; rw [m1K3_ap]; generalize deref ha σ2 = o; generalize deref hb σ2 = o'
    cases o <;> cases o' <;> try rfl
    rename_i x y; rw [dr2_some]; dsimp only; cases op x y <;> rfl
@[simp] theorem itStrK_ap (h : Hd) (σ : En) : itStrK h σ = itStrK2 (deref h σ) σ := nrfl rfl
@[simp] theorem itStrK2_str (z : Str) (σ : En) : itStrK2 (some (.str z)) σ = .ok (strItems z) σ := nrfl rfl
@[simp] theorem iStrD_ap (σ : En) (f : EF) : iStrD f σ = (f σ).bind itStrK := nrfl rfl
@[simp] theorem augK_ap (i : Nat) (op : RD) (h : Hd) (σ : En) : augK i op h σ = augK2 i op (sget σ i) (deref h σ) σ := nrfl rfl
def augK3 (i : Nat) : Option D → En → OutS | some d, σ => if i < σ.length then .nx (σ.set i (some d)) else .err | none, _ => .err
@[simp] theorem augK3_some (i : Nat) (d : D) (σ : En) : augK3 i (some d) σ = if i < σ.length then .nx (σ.set i (some d)) else .err := nrfl rfl
@[simp] theorem augK2_some (i : Nat) (op : RD) (x y : D) (σ : En) : augK2 i op (some x) (some y) σ = augK3 i (op x y) σ := by
  unfold augK2; dsimp only; cases op x y <;> rfl
def augK0 (i : Nat) (op : RD) (f : EF) : Option D → En → OutS | some _, σ => OutS.ofE (f σ) (augK i op) | none, _ => .err
@[simp] theorem augK0_some (i : Nat) (op : RD) (f : EF) (d : D) (σ : En) : augK0 i op f (some d) σ = OutS.ofE (f σ) (augK i op) := nrfl rfl
@[simp] theorem sAug_ap (σ : En) (i : Nat) (op : RD) (f : EF) : sAug i op f σ = augK0 i op f (sget σ i) σ := by
  unfold sAug; cases sget σ i <;> rfl
@[simp] theorem dAug_int (i j : Int) : dAug (.int i) (.int j) = some (.int (i + j)) := nrfl rfl
@[simp] theorem dAug_str (i j : Str) : dAug (.str i) (.str j) = ifp (i.length + j.length ≤ 16777216) (some (.str (i ++ j))) none := by
  simp only [← ifp_ite]; rfl
@[simp] theorem dAdd_str (i j : Str) : dAdd (.str i) (.str j) = ifp (i.length + j.length ≤ 16777216) (some (.str (i ++ j))) none := by
  simp only [← ifp_ite]; rfl
@[simp] theorem dLen_str (z : Str) : dLen (.str z) = ifp (z.length ≤ 16777216) (some (.int z.length)) none := by
  simp only [← ifp_ite]; rfl
@[simp] theorem dSplit_str (a b : Str) : dSplit (.str a) (.str b) = ifp (splitOk a b) (some (.lst true ((Txt.split a b).map .str))) none := by
  simp only [← ifp_ite]; rfl
/-- a number's text -/
def numS (n : Int) : Str := Str.ofString (toString n)
@[simp] theorem dStrI_int (i : Int) : dStrI (.int i) = ifp (strIOk i) (some (.str (numS i))) none := by
  simp only [← ifp_ite]; rfl
/-! questions to a list -/
def mqK5 : Option (D × List D) → En → Out Hd | some (d, _), σ => .ok (.val d) σ | none, _ => .err
@[simp] theorem mqK5_some (d : D) (ds : List D) (σ : En) : mqK5 (some (d, ds)) σ = .ok (.val d) σ := nrfl rfl
def mqK4 (m : MtF) : Option D → Option D → En → Out Hd | some (.lst _ ds), some w, σ => mqK5 (m ds [w]) σ | _, _, _ => .err
@[simp] theorem mqK4_some (m : MtF) (o : Bool) (ds : List D) (w : D) (σ : En) : mqK4 m (some (.lst o ds)) (some w) σ = mqK5 (m ds [w]) σ := nrfl rfl
def mqK3 (m : MtF) (ho : Hd) : List Hd → En → Out Hd | [h1], σ => mqK4 m (deref ho σ) (deref h1 σ) σ | _, _ => .err
@[simp] theorem mqK3_one (m : MtF) (ho h1 : Hd) (σ : En) : mqK3 m ho [h1] σ = mqK4 m (deref ho σ) (deref h1 σ) σ := nrfl rfl
def mqK2 (fs : AF) (m : MtF) (ho : Hd) (b : Bool) (σ : En) : Out Hd := if b = true then (fs σ).bind (mqK3 m ho) else .err
@[simp] theorem mqK2_t (fs : AF) (m : MtF) (ho : Hd) (σ : En) : mqK2 fs m ho true σ = (fs σ).bind (mqK3 m ho) := nrfl rfl
def mqK (fs : AF) (m : MtF) (ho : Hd) (σ : En) : Out Hd := mqK2 fs m ho (isLst (deref ho σ)) σ
@[simp] theorem mqK_ap (fs : AF) (m : MtF) (ho : Hd) (σ : En) : mqK fs m ho σ = mqK2 fs m ho (isLst (deref ho σ)) σ := nrfl rfl
@[simp] theorem eMq_ap (σ : En) (fo : EF) (fs : AF) (m : MtF) : eMq fo fs m σ = (fo σ).bind (mqK fs m) := by
  unfold eMq; congr; funext ho σ1; rw [mqK_ap]; cases isLst (deref ho σ1)
  · rfl
  · rw [mqK2_t, if_pos rfl]; congr; funext hs σ2
    match hs with
    | [] => rfl
    | _ :: _ :: _ => rfl
    | [h1] =>
      rw [mqK3_one]; dsimp only; generalize deref ho σ2 = o; generalize deref h1 σ2 = o'
      rcases o with _ | d
      · rfl
      · cases d <;> try (cases o' <;> rfl)
        rename_i oo ds
        rcases o' with _ | w
        · rfl
        · rw [mqK4_some]; dsimp only; cases m ds [w] <;> rfl
/-! try -/
def tryK2 (i : Nat) (ok : En → Bool) (hf : Addr → Option Addr → Str → SF) (c : Str) (ks : List Str) (vs : List D) (σ : En) : Option Bool → OutS
  | some true => if ok σ = true ∧ i < σ.length then unsetR i (hf 0 (odOf 0 ks) c (σ.set i (some (exnOf 0 0 c ks vs)))) else .err
  | some false => .exc c ks vs σ
  | none => .err
@[simp] theorem tryK2_t (i : Nat) (ok : En → Bool) (hf : Addr → Option Addr → Str → SF) (c : Str) (ks : List Str) (vs : List D) (σ : En) : tryK2 i ok hf c ks vs σ (some true) = if ok σ = true ∧ i < σ.length then unsetR i (hf 0 (odOf 0 ks) c (σ.set i (some (exnOf 0 0 c ks vs)))) else .err := nrfl rfl
@[simp] theorem tryK2_f (i : Nat) (ok : En → Bool) (hf : Addr → Option Addr → Str → SF) (c : Str) (ks : List Str) (vs : List D) (σ : En) : tryK2 i ok hf c ks vs σ (some false) = .exc c ks vs σ := nrfl rfl
@[simp] theorem tryK2_n (i : Nat) (ok : En → Bool) (hf : Addr → Option Addr → Str → SF) (c : Str) (ks : List Str) (vs : List D) (σ : En) : tryK2 i ok hf c ks vs σ none = .err := nrfl rfl
def tryK (i : Nat) (ok : En → Bool) (isx : Str → Option Bool) (hf : Addr → Option Addr → Str → SF) : OutS → OutS
  | .exc c ks vs σ1 => tryK2 i ok hf c ks vs σ1 (isx c)
  | r => r
@[simp] theorem tryK_nx (i : Nat) (ok : En → Bool) (isx : Str → Option Bool) (hf : Addr → Option Addr → Str → SF) (σ : En) : tryK i ok isx hf (.nx σ) = .nx σ := nrfl rfl
@[simp] theorem tryK_rt (i : Nat) (ok : En → Bool) (isx : Str → Option Bool) (hf : Addr → Option Addr → Str → SF) (d : D) (σ : En) : tryK i ok isx hf (.rt d σ) = .rt d σ := nrfl rfl
@[simp] theorem tryK_exc (i : Nat) (ok : En → Bool) (isx : Str → Option Bool) (hf : Addr → Option Addr → Str → SF) (c ks vs) (σ : En) : tryK i ok isx hf (.exc c ks vs σ) = tryK2 i ok hf c ks vs σ (isx c) := nrfl rfl
@[simp] theorem sTry_ap (σ : En) (i : Nat) (ok : En → Bool) (isx : Str → Option Bool) (f : SF) (hf : Addr → Option Addr → Str → SF) : sTry i ok isx f hf σ = tryK i ok isx hf (f σ) := by
  unfold sTry; cases f σ <;> try rfl
  rename_i c ks vs σ1
  rw [tryK_exc]; dsimp only; cases isx c with
  | none => rfl
  | some b => cases b <;> rfl
@[simp] theorem unsetR_nx (i : Nat) (σ : En) : unsetR i (.nx σ) = .nx (σ.set i none) := nrfl rfl
@[simp] theorem unsetR_bk (i : Nat) (σ : En) : unsetR i (.bk σ) = .bk (σ.set i none) := nrfl rfl
@[simp] theorem unsetR_ct (i : Nat) (σ : En) : unsetR i (.ct σ) = .ct (σ.set i none) := nrfl rfl
@[simp] theorem unsetR_rt (i : Nat) (d : D) (σ : En) : unsetR i (.rt d σ) = .rt d (σ.set i none) := nrfl rfl
@[simp] theorem unsetR_err (i : Nat) : unsetR i .err = .err := nrfl rfl
/-! the caught exception -/
theorem dIsXd_own (a dd : Addr) (c : Str) (ks : List Str) (vs : List D) (yes : Str → Option Bool) : dIsXd a (odOf dd ks) c yes (exnOf a dd c ks vs) = (yes c).map .bl := by
  unfold exnOf odOf dIsXd
  by_cases h : ks = [] <;> simp [h] <;> cases yes c <;> rfl
theorem dXf_own (a dd : Addr) (c f : Str) (ks : List Str) (vs : List D) : dXf a (odOf dd ks) c f (exnOf a dd c ks vs) = if ks = [] then none else lookK f ks vs := by
  unfold exnOf odOf dXf
  by_cases h : ks = [] <;> simp [h, lookK]
@[simp] theorem fz_exnOf (a dd : Addr) (c : Str) (ks : List Str) (vs : List D) : fz (exnOf a dd c ks vs) = true := by
  unfold exnOf; by_cases h : ks = [] <;> simp [h]
@[simp] theorem share_exnOf (a dd : Addr) (c : Str) (ks : List Str) (vs : List D) : share (exnOf a dd c ks vs) = exnOf a dd c ks vs := by
  unfold exnOf; by_cases h : ks = [] <;> simp [h]
/-! a lambda's call, from the helper's side -/
theorem eLam_ok {f c' : Addr} {q : Str} {τ : L2.St} {σ0 σ' : En} {r : List (Option D)} {fb : EF} {d : D} (e : fb σ0 = .ok (.val d) σ') : eLam f c' q τ σ0 fb (some (.lam f c' q (sV σ0 τ) (sD σ0)) :: r) = .ok (.val d) (some (.lam f c' q (sV σ' τ) (sD σ')) :: r) := by
  have h : sget (some (.lam f c' q (sV σ0 τ) (sD σ0)) :: r) 0 = some (.lam f c' q (sV σ0 τ) (sD σ0)) := rfl
  unfold eLam; rw [if_pos h, e]; rfl
theorem eLam_exc {f c' : Addr} {q : Str} {τ : L2.St} {σ0 σ' : En} {r : List (Option D)} {fb : EF} {c ks vs} (e : fb σ0 = .exc c ks vs σ') : eLam f c' q τ σ0 fb (some (.lam f c' q (sV σ0 τ) (sD σ0)) :: r) = .exc c ks vs (some (.lam f c' q (sV σ' τ) (sD σ')) :: r) := by
  have h : sget (some (.lam f c' q (sV σ0 τ) (sD σ0)) :: r) 0 = some (.lam f c' q (sV σ0 τ) (sD σ0)) := rfl
  unfold eLam; rw [if_pos h, e]; rfl
/-- the value that a suite returns, in another frame -/
def valR : OutS → En → Out Hd
  | .rt d _, σ => .ok (.val d) σ
  | _, _ => .err
@[simp] theorem valR_rt (d : D) (σ σ' : En) : valR (.rt d σ) σ' = .ok (.val d) σ' := nrfl rfl
@[simp] theorem valR_err (σ' : En) : valR .err σ' = .err := nrfl rfl
/-- a helper that is handed a lambda: what it makes of the lambda's outcome -/
def H0of (bq : EF → SF) (kk : Nat) (fb : EF) : EF := fun σ0 => match fb σ0 with
  | .ok (.val d) σ' => if patB σ' σ0 = true then valR (bq (fun σ => .ok (.val d) σ) (some .non :: List.replicate kk none)) σ' else .err
  | .exc c ks vs σ' => if patB σ' σ0 = true then valR (bq (fun σ => .exc c ks vs σ) (some .non :: List.replicate kk none)) σ' else .err
  | _ => .err
theorem H0of_ok {bq : EF → SF} {kk : Nat} {fb : EF} {σ0 σ' : En} {d : D} (e : fb σ0 = .ok (.val d) σ') (p : patB σ' σ0 = true) : H0of bq kk fb σ0 = valR (bq (fun σ => .ok (.val d) σ) (some .non :: List.replicate kk none)) σ' := by
  unfold H0of; rw [e]; simp [p]
theorem H0of_exc {bq : EF → SF} {kk : Nat} {fb : EF} {σ0 σ' : En} {c ks vs} (e : fb σ0 = .exc c ks vs σ') (p : patB σ' σ0 = true) : H0of bq kk fb σ0 = valR (bq (fun σ => .exc c ks vs σ) (some .non :: List.replicate kk none)) σ' := by
  unfold H0of; rw [e]; simp [p]
theorem eLamC_val {P : Addr} {q : Str} {tt : Nat} {H0 : EF → EF} {fb : EF} {σ σ' : En} {d : D} (h : sget σ tt = some (.tab P q)) (e : H0 fb σ = .ok (.val d) σ') : eLamC P q tt H0 fb σ = .ok (.val d) σ' := by
  unfold eLamC; rw [if_pos h, e]
theorem patB_refl : ∀ σ : En, patB σ σ = true
  | [] => rfl
  | none :: σ => by simp [patB, patB_refl σ]
  | some _ :: σ => by simp [patB, patB_refl σ]
end DL
/-! rows to evaluate what DRepr, DWhile, DMethI, DB1 add -/
namespace DL
open PySem PySem.Spec PyProof.Rows L2
def fldV (f : Str) : Option D → Option D | some (.ins _ _ ks vs) => lookK f ks vs | _ => none
@[simp] theorem fldV_ins (f : Str) (o : Bool) (n : Str) (ks : List Str) (vs : List D) : fldV f (some (.ins o n ks vs)) = lookK f ks vs := nrfl rfl
@[simp] theorem fldOf_ap (σ : En) (i : Nat) (f : Str) : fldOf σ i f = fldV f (sget σ i) := nrfl rfl
@[simp] theorem fzG_ap (d : D) : fzG (some d) = (if fz d = true then some d else none) := nrfl rfl
@[simp] theorem opKF_some (op : D → Option D) (d : D) (σ : En) : opKF op (some d) σ = opK (op d) σ := by
  unfold opKF; dsimp only; cases op d <;> rfl
@[simp] theorem eUnF_ap (σ : En) (op : D → Option D) (i : Nat) (f : Str) : eUnF op i f σ = opKF op (fldOf σ i f) σ := nrfl rfl
@[simp] theorem methK1_ap (mf : MF) (ho : Hd) (hs : List Hd) (σ : En) : methK1 mf ho hs σ = methK2 mf (argsOf (ho :: hs) σ) := nrfl rfl
@[simp] theorem methK2_some (mf : MF) (ds : List D) (ms : List (Option Nat)) (σ : En) : methK2 mf (some (ds, ms, σ)) = callOut ms σ (mf ds) := nrfl rfl
def methK00 (mf : MF) (fs : AF) (ho : Hd) (b : Bool) (σ : En) : Out Hd := if b = true then (fs σ).bind (methK1 mf ho) else .err
@[simp] theorem methK00_t (mf : MF) (fs : AF) (ho : Hd) (σ : En) : methK00 mf fs ho true σ = (fs σ).bind (methK1 mf ho) := nrfl rfl
@[simp] theorem methK0_ap (n m : Str) (mf : MF) (fs : AF) (ho : Hd) (σ : En) : methK0 n m mf fs ho σ = methK00 mf fs ho (methK n m (deref ho σ)) σ := nrfl rfl
@[simp] theorem eMeth_ap (σ : En) (n m : Str) (mf : MF) (fo : EF) (fs : AF) : eMeth n m mf fo fs σ = (fo σ).bind (methK0 n m mf fs) := nrfl rfl
@[simp] theorem eCall0_ap (σ : En) (mf : MF) : eCall0 mf σ = callOut [] σ (mf []) := nrfl rfl
@[simp] theorem ePopF_ap (σ : En) (i : Nat) (f : Str) : ePopF i f σ = popF f i (sget σ i) σ := nrfl rfl
@[simp] theorem sAppF_ap (σ : En) (i : Nat) (f : Str) (sh : En → En) (g : En → Option D) : sAppF i f sh g σ = appF1 f i g (sh σ) := nrfl rfl
@[simp] theorem appF1_ap (f : Str) (i : Nat) (g : En → Option D) (σ : En) : appF1 f i g σ = appF2 f i (sget σ i) (g σ) σ := nrfl rfl
@[simp] theorem dAdd_lst (o p : Bool) (a b : List D) : dAdd (.lst o a) (.lst p b) = ifp (a.all fz = true ∧ b.all fz = true ∧ a.length + b.length ≤ 16777216) (some (.lst true (a ++ b))) none := by
  rw [← ifp_ite]; unfold dAdd; simp only [Bool.and_eq_true, decide_eq_true_eq, and_assoc]
@[simp] theorem dSumX_tup (ds : List D) : dSumX (.tup ds) = dSum (.lst false ds) := by unfold dSumX dSum; rfl
@[simp] theorem dSumX_lst (o : Bool) (ds : List D) : dSumX (.lst o ds) = dSum (.lst o ds) := nrfl rfl
@[simp] theorem dList_lst (o : Bool) (ds : List D) : dList (.lst o ds) = ifp (ds.all fz = true) (some (.lst true ds)) none := by
  rw [← ifp_ite]; unfold dList; rfl
@[simp] theorem dList_tup (ds : List D) : dList (.tup ds) = ifp (ds.all fz = true) (some (.lst true ds)) none := by
  rw [← ifp_ite]; unfold dList; rfl
theorem go_while {t : TF} {b : SF} {σ : En} {T : Tgt} (I : Nat → En → Prop) (m : Nat) (h0 : I m σ)
    (h : ∀ n σ, I n σ → (∃ σ1, t σ = .ok false σ1 ∧ T.nx σ1) ∨ (∃ σ1, t σ = .ok true σ1 ∧ Go (b σ1) { nx := fun σ2 => ∃ k, k < n ∧ I k σ2, bk := T.nx, ct := fun σ2 => ∃ k, k < n ∧ I k σ2, rt := T.rt, xc := T.xc }) ∨ (∃ c ks vs σ1, t σ = .exc c ks vs σ1 ∧ T.xc c ks vs σ1)) : Go (sWhile t b σ) T := by
  have key : ∀ n σ, I n σ → ∃ r, whileN t b (n + 1) σ = some r ∧ Go r T := by
    intro n
    induction n using Nat.strongRecOn with
    | ind n ih =>
      intro σ hi
      rcases h n σ hi with ⟨σ1, e, q⟩ | ⟨σ1, e, q⟩ | ⟨c, ks, vs, σ1, e, q⟩
      · exact ⟨.nx σ1, by unfold whileN; rw [e], by rw [go_nx]; exact q⟩
      · have on : ∀ σ2 k, k < n → I k σ2 → ∃ r, whileN t b n σ2 = some r ∧ Go r T := fun σ2 k hk hi2 => by
          obtain ⟨r, e1, q1⟩ := ih k hk σ2 hi2
          exact ⟨r, whileN_mono hk e1, q1⟩
        unfold whileN
        rw [e]
        dsimp only
        cases eb : b σ1 with
        | err => rw [eb, go_err] at q; exact q.elim
        | nx σ2 => rw [eb, go_nx] at q; obtain ⟨k, hk, hi2⟩ := q; exact on σ2 k hk hi2
        | ct σ2 => rw [eb, go_ct] at q; obtain ⟨k, hk, hi2⟩ := q; exact on σ2 k hk hi2
        | bk σ2 => rw [eb, go_bk] at q; exact ⟨_, rfl, by rw [go_nx]; exact q⟩
        | rt d σ2 => rw [eb, go_rt] at q; exact ⟨_, rfl, by rw [go_rt]; exact q⟩
        | exc c ks vs σ2 => rw [eb, go_exc] at q; exact ⟨_, rfl, by rw [go_exc]; exact q⟩
      · exact ⟨.exc c ks vs σ1, by unfold whileN; rw [e], by rw [go_exc]; exact q⟩
  obtain ⟨r, e, q⟩ := key m σ h0
  rw [sWhile_eq e]
  exact q
end DL
/-! plain facts of texts: numbers' figures, rows with commas -/
namespace DL
open PySem PySem.Spec PySem.PyData PyProof.Rows L2 TL
theorem strOk_iff (z : Str) : strOk z = true ↔ ∀ c ∈ tl z, c < 1114112 := by
  unfold strOk
  rw [← Array.all_toList]
  rw [List.all_eq_true]
  exact ⟨fun h c hc => of_decide_eq_true (h c hc), fun h c hc => decide_eq_true (h c hc)⟩
theorem strBeq (a b : Str) : (a == b) = decide (a = b) := by
  by_cases h : a = b
  · subst h; simp
  · simp [h]
theorem dEq_str {a b : Str} (ha : strOk a = true) (hb : strOk b = true) : dEq (.str a) (.str b) = some (.bl (decide (a = b))) := by
  simp [dEq, toP, SeqAt.shaped, PyData.canLay0, PyData.depth, PyData.eqv, ha, hb, strBeq]
theorem dNe_str {a b : Str} (ha : strOk a = true) (hb : strOk b = true) : dNe (.str a) (.str b) = some (.bl (!decide (a = b))) := by
  simp [dNe, toP, SeqAt.shaped, PyData.canLay0, PyData.depth, PyData.eqv, ha, hb, strBeq]
theorem dInU_sign (neg : Bool) (c : Nat) (z : Str) : dInU neg (.str ⟨#[c]⟩) (.str z) = some (.bl (if neg then !decide (c ∈ tl z) else decide (c ∈ tl z))) := rfl
/-! splitting -/
theorem spl_mem (S : List Nat) : ∀ (l : List Nat) (k : Nat) (acc : List Nat), ∀ p ∈ spl S k acc l, ∀ c ∈ p, c ∈ acc ∨ c ∈ l
  | [], k, acc, p, hp, c, hc => by
    rw [spl_nil] at hp
    simp at hp
    subst hp
    exact .inl hc
  | x :: l, k + 1, acc, p, hp, c, hc => by
    have hp' : p ∈ spl S k acc l := hp
    rcases spl_mem S l k acc p hp' c hc with h | h
    · exact .inl h
    · exact .inr (List.mem_cons_of_mem _ h)
  | x :: l, 0, acc, p, hp, c, hc => by
    by_cases h : pre S (x :: l) = true
    · rw [spl_hit h] at hp
      rcases List.mem_cons.mp hp with rfl | hp
      · exact .inl hc
      · rcases spl_mem S l _ [] p hp c hc with h | h
        · cases h
        · exact .inr (List.mem_cons_of_mem _ h)
    · rw [spl_miss (by simpa using h)] at hp
      rcases spl_mem S l 0 _ p hp c hc with h | h
      · rcases List.mem_append.mp h with h | h
        · exact .inl h
        · simp at h; subst h; exact .inr List.mem_cons_self
      · exact .inr (List.mem_cons_of_mem _ h)
theorem spl_len (S : List Nat) : ∀ (l : List Nat) (k : Nat) (acc : List Nat), (spl S k acc l).length ≤ l.length + 1 ∧ ∀ p ∈ spl S k acc l, p.length ≤ acc.length + l.length
  | [], k, acc => by rw [spl_nil]; simp
  | x :: l, k + 1, acc => by
    have h := spl_len S l k acc
    have e : spl S (k + 1) acc (x :: l) = spl S k acc l := rfl
    rw [e]
    refine ⟨by simp; omega, fun p hp => ?_⟩
    have := h.2 p hp
    simp; omega
  | x :: l, 0, acc => by
    by_cases h : pre S (x :: l) = true
    · rw [spl_hit h]
      have h2 := spl_len S l (S.length - 1) []
      refine ⟨by simp; omega, fun p hp => ?_⟩
      rcases List.mem_cons.mp hp with rfl | hp
      · simp
      · have := h2.2 p hp
        simp at this ⊢; omega
    · rw [spl_miss (by simpa using h)]
      have h2 := spl_len S l 0 (acc ++ [x])
      refine ⟨by simp; omega, fun p hp => ?_⟩
      have := h2.2 p hp
      simp at this ⊢; omega
/-- what is asked of a separator -/
structure Sep (y : Str) (s : Nat) : Prop where
  e : tl y = [s]
  k : y.cps.all (· < 256) = true
theorem split_parts {x y : Str} {s : Nat} (h : Sep y s) : (Txt.split x y).map tl = spl [s] 0 [] (tl x) := by
  rw [split_spl x y (by rw [h.e]; simp) (kind_ok h.k), h.e]
theorem split_ok {x y : Str} {s : Nat} (h : Sep y s) : (Txt.split x y).length ≤ x.length + 1 ∧ ∀ w ∈ Txt.split x y, w.length ≤ x.length ∧ ∀ c ∈ tl w, c ∈ tl x := by
  have e := split_parts (x := x) h
  have hl := spl_len [s] (tl x) 0 []
  rw [← e] at hl
  refine ⟨by have := hl.1; rw [len_tl]; simpa using this, fun w hw => ?_⟩
  have hm : tl w ∈ (Txt.split x y).map tl := List.mem_map.mpr ⟨w, hw, rfl⟩
  refine ⟨by have := hl.2 _ hm; rw [len_tl, len_tl]; simpa using this, fun c hc => ?_⟩
  rw [e] at hm
  rcases spl_mem _ _ _ _ _ hm c hc with h | h
  · cases h
  · exact h
theorem sep_comma : Sep "," 44 := ⟨by decide, by decide +kernel⟩
theorem sep_nl : Sep "\n" 10 := ⟨by decide, by decide +kernel⟩
/-! numbers -/
theorem tl_numS {n : Int} (h : 0 ≤ n) : tl (numS n) = numL n.toNat := by
  obtain ⟨k, rfl⟩ : ∃ k : Nat, n = k := ⟨n.toNat, by omega⟩
  unfold numS; rw [tl_num]; simp
def isDig (c : Nat) : Bool := decide (48 ≤ c) && decide (c ≤ 57)
theorem mem_figures (c : Nat) : c ∈ tl ("0123456789" : Str) ↔ isDig c = true := by
  have e : tl ("0123456789" : Str) = [48, 49, 50, 51, 52, 53, 54, 55, 56, 57] := by decide
  rw [e]
  simp [isDig]
  omega
/-- the number that a word tells -/
def numP (w : Str) : Option Int :=
  if (tl w).length = 0 ∨ 7 < (tl w).length then none
  else if (tl w).all isDig = false then none
  else if 1 < (tl w).length ∧ (tl w)[0]? = some 48 then none
  else some (NumText.digitsVal (tl w) : Nat)
theorem intText_dig {w : Str} (h : (tl w).all isDig = true) (h0 : (tl w).length ≠ 0) (h1 : (tl w).length ≤ 640) : intText? w = some ((NumText.digitsVal (tl w) : Nat) : Int) := by
  refine intText_digits (fun c hc => ?_) (fun z => h0 (by show (w.cps.toList).length = 0; rw [z]; rfl)) (by rw [len_tl]; omega)
  have := List.all_eq_true.mp h c hc
  simpa [isDig] using this
theorem numL_dig (n : Nat) : (numL n).all isDig = true := by
  rw [List.all_eq_true]
  intro c hc
  have := numL_digits n c hc
  simpa [isDig] using this
/-- a number's first figure is no 0 but of 0 itself -/
theorem numL_head : ∀ n : Nat, 10 ≤ n → (numL n)[0]? ≠ some 48 := by
  intro n
  induction n using Nat.strongRecOn with
  | _ n ih =>
    intro h
    rw [numL_step h]
    have hne := numL_ne (n / 10)
    have hp : 0 < (numL (n / 10)).length := List.length_pos_iff.mpr hne
    rw [List.getElem?_append_left hp]
    by_cases h2 : n / 10 < 10
    · rw [numL_lt h2]
      simp
      omega
    · exact ih (n / 10) (by omega) (by omega)
theorem numP_numS {n : Int} (h0 : 0 ≤ n) (h1 : n < 10000000) : numP (numS n) = some n := by
  obtain ⟨k, rfl⟩ : ∃ k : Nat, n = k := ⟨n.toNat, by omega⟩
  unfold numP
  rw [tl_numS (by omega)]
  simp only [Int.toNat_natCast]
  have hne := numL_ne k
  have hp : 0 < (numL k).length := List.length_pos_iff.mpr hne
  have hl : (numL k).length ≤ 7 := numL_len (by decide) (by omega)
  rw [if_neg (by omega), if_neg (by rw [numL_dig]; simp), if_neg, numL_val]
  rintro ⟨h2, h3⟩
  by_cases h4 : k < 10
  · rw [numL_lt h4] at h2; simp at h2
  · exact numL_head k (by omega) h3
theorem numP_nonneg {w : Str} {n : Int} (h : numP w = some n) : 0 ≤ n := by
  unfold numP at h
  split at h
  · cases h
  · split at h
    · cases h
    · split at h
      · cases h
      · cases h; omega
/-! rows -/
def rowText (xs : List Int) : Str := if 0 < xs.length then Txt.join "," (xs.map numS) else "-"
def rowP (w : Str) : Option (List Int) := if w = "-" then some [] else
  if ((Txt.split w ",").map numP).any Option.isNone = true then none else some ((Txt.split w ",").filterMap numP)
theorem rowP_rowText {xs : List Int} (h : ∀ x ∈ xs, 0 ≤ x ∧ x < 10000000) : rowP (rowText xs) = some xs := by
  unfold rowP rowText
  by_cases h0 : 0 < xs.length
  · rw [if_pos h0]
    have hne : xs.map numS ≠ [] := by
      intro z
      have := congrArg List.length z
      simp at this
      subst this
      simp at h0
    have hs : Txt.split (Txt.join "," (xs.map numS)) "," = xs.map numS := by
      refine split_join (s := 44) (S := []) sep_comma.e sep_comma.k hne fun p hp => ?_
      obtain ⟨x, hx, rfl⟩ := List.mem_map.mp hp
      rw [tl_numS (h x hx).1]
      exact numL_free (.inl (by decide))
    have hd : Txt.join "," (xs.map numS) ≠ "-" := by
      intro z
      rw [z] at hs
      have e : tl ("-" : Str) = [45] := by decide
      have h2 := split_parts (x := "-") sep_comma
      rw [hs, e] at h2
      have h3 : spl [44] 0 [] [45] = [[45]] := by decide
      rw [h3] at h2
      match xs, h0, h, h2 with
      | [x], _, h, h2 =>
        simp only [List.map_cons, List.map_nil, List.cons.injEq, and_true] at h2
        rw [tl_numS (h x (by simp)).1] at h2
        have := numL_dig x.toNat
        rw [h2] at this
        simp [isDig] at this
      | _ :: _ :: _, _, _, h2 => simp at h2
    rw [if_neg hd, hs]
    have hm : (xs.map numS).map numP = xs.map some := by
      rw [List.map_map]
      exact List.map_congr_left fun x hx => numP_numS (h x hx).1 (h x hx).2
    rw [hm]
    have : ¬ ((xs.map some).any Option.isNone = true) := by simp
    rw [if_neg this]
    congr 1
    have e2 : ∀ ys : List Int, (∀ y ∈ ys, 0 ≤ y ∧ y < 10000000) → (ys.map numS).filterMap numP = ys := by
      intro ys hy
      induction ys with
      | nil => rfl
      | cons y ys ih =>
        have hyy := hy y (by simp)
        rw [List.map_cons, List.filterMap_cons, numP_numS hyy.1 hyy.2]
        simp only
        rw [ih fun z hz => hy z (by simp [hz])]
    exact e2 xs h
  · rw [if_neg h0, if_pos rfl]
    have : xs = [] := List.length_eq_zero_iff.mp (by omega)
    rw [this]
theorem tl_joinS (y : Str) (ws : List Str) : tl (Txt.join y ws) = joinL (tl y) (ws.map tl) := by rw [join_eq, tl_join]
theorem joinL_mem {S : List Nat} : ∀ {ps : List (List Nat)} {c : Nat}, c ∈ joinL S ps → c ∈ S ∨ ∃ p ∈ ps, c ∈ p
  | [], c, h => by cases h
  | [p], c, h => .inr ⟨p, by simp, h⟩
  | p :: q :: r, c, h => by
    rcases List.mem_append.mp h with h | h
    · exact .inr ⟨p, by simp, h⟩
    · rcases List.mem_append.mp h with h | h
      · exact .inl h
      · rcases joinL_mem h with h | ⟨z, hz, hc⟩
        · exact .inl h
        · exact .inr ⟨z, by simp at hz ⊢; exact .inr hz, hc⟩
theorem strOk_join {y : Str} {ws : List Str} (hy : strOk y = true) (hw : ∀ w ∈ ws, strOk w = true) : strOk (Txt.join y ws) = true := by
  rw [strOk_iff]
  intro c hc
  rw [tl_joinS] at hc
  rcases joinL_mem hc with h | ⟨p, hp, h⟩
  · exact (strOk_iff y).mp hy c h
  · obtain ⟨w, hww, rfl⟩ := List.mem_map.mp hp
    exact (strOk_iff w).mp (hw w hww) c h
theorem strOk_app {a b : Str} (ha : strOk a = true) (hb : strOk b = true) : strOk (a ++ b) = true := by
  rw [strOk_iff] at ha hb ⊢
  intro c hc
  rw [tl_append] at hc
  rcases List.mem_append.mp hc with h | h
  · exact ha c h
  · exact hb c h
theorem len_app (a b : Str) : (a ++ b).length = a.length + b.length := by rw [len_tl, len_tl, len_tl, tl_append, List.length_append]
theorem strOk_numS (n : Int) : strOk (numS n) = true := by
  rw [strOk_iff]
  intro c hc
  unfold numS at hc
  rw [tl_ofString] at hc
  obtain ⟨d, _, rfl⟩ := List.mem_map.mp hc
  have := d.valid
  rcases this with h | h
  · show d.val.toNat < _
    have : d.val.toNat < 55296 := h
    omega
  · show d.val.toNat < _
    exact h.2
end DL
/-! what repr shows: that it is a text that can be laid, and how long -/
namespace DL
open PySem PySem.Spec PySem.PyData PyProof.Rows L2 TL
/-- the tree can be shown: depth k, at most n signs -/
def Shw (d : D) (k n : Nat) : Prop := ∃ p, toP d = some p ∧ p.showable = true ∧ p.depth ≤ k ∧ p.shown.length ≤ n ∧ strOk p.shown = true
def ShwL (ds : List D) (k n : Nat) : Prop := ∃ ps, toPL ds = some ps ∧ PyData.showableAll ps = true ∧ PyData.depthAll ps ≤ k ∧ ps.length = ds.length ∧ ∀ z ∈ PyData.shownAll ps, z.length ≤ n ∧ strOk z = true
theorem shw_l : ∀ {ds : List D} {k n : Nat}, (∀ d ∈ ds, Shw d k n) → ShwL ds k n
  | [], k, n, _ => ⟨[], rfl, rfl, by simp [PyData.depthAll], rfl, by simp [PyData.shownAll]⟩
  | d :: ds, k, n, h => by
    obtain ⟨p, a1, a2, a3, a4, a5⟩ := h d (by simp)
    obtain ⟨ps, b1, b2, b3, b4, b5⟩ := shw_l (ds := ds) fun x hx => h x (by simp [hx])
    refine ⟨p :: ps, by simp [toPL, a1, b1], by simp [PyData.showableAll, a2, b2], by simp only [PyData.depthAll]; omega, by simp [b4], fun z hz => ?_⟩
    simp only [PyData.shownAll, List.mem_cons] at hz
    rcases hz with rfl | hz
    · exact ⟨a4, a5⟩
    · exact b5 z hz
theorem shownAll_len : ∀ ps : List PyData, (PyData.shownAll ps).length = ps.length
  | [] => rfl
  | p :: ps => by simp [PyData.shownAll, shownAll_len ps]
theorem join_le (n : Nat) : ∀ ts : List Str, (∀ t ∈ ts, t.length ≤ n) → (Str.join ", " ts).length ≤ ts.length * (n + 2)
  | [], _ => by show (Str.empty).length ≤ _; simp [Str.empty]; rfl
  | [x], h => by
    have := h x (by simp)
    show x.length ≤ 1 * (n + 2); omega
  | x :: y :: r, h => by
    have h1 := h x (by simp)
    have h2 := join_le n (y :: r) fun t ht => h t (by simp at ht ⊢; exact .inr ht)
    show (x ++ ", " ++ Str.join ", " (y :: r)).length ≤ _
    have e2 : ((", " : String) : Str).length = 2 := rfl
    rw [len_app, len_app, e2]
    simp only [List.length_cons] at h2 ⊢
    have : (r.length + 1 + 1) * (n + 2) = (r.length + 1) * (n + 2) + (n + 2) := by rw [Nat.add_mul]; simp
    omega
theorem join_so : ∀ ts : List Str, (∀ t ∈ ts, strOk t = true) → strOk (Str.join ", " ts) = true
  | [], _ => by decide +kernel
  | [x], h => h x (by simp)
  | x :: y :: r, h => by
    show strOk (x ++ ", " ++ Str.join ", " (y :: r)) = true
    exact strOk_app (strOk_app (h x (by simp)) (by decide +kernel)) (join_so (y :: r) fun t ht => h t (by simp at ht ⊢; exact .inr ht))
theorem from_so : ∀ (ts : List Str) (k : Nat) (acc : Str), strOk acc = true → (∀ t ∈ ts, strOk t = true) → strOk (textFrom k acc ts) = true
  | [], k, acc, h, _ => h
  | t :: ts, k, acc, h, ht => by
    refine from_so ts (k + 1) _ (strOk_app (strOk_app h ?_) (ht t (by simp))) fun x hx => ht x (by simp [hx])
    by_cases hk : k > 0
    · rw [if_pos hk]; decide +kernel
    · rw [if_neg hk]; decide +kernel
theorem sum_le (n : Nat) : ∀ ts : List Str, (∀ t ∈ ts, t.length ≤ n) → (ts.map (·.length)).sum ≤ ts.length * n
  | [], _ => by simp
  | t :: ts, h => by
    have := h t (by simp)
    have := sum_le n ts fun x hx => h x (by simp [hx])
    simp only [List.map_cons, List.sum_cons, List.length_cons, Nat.add_mul]; omega
theorem shw_tup {ds : List D} {k n : Nat} (h : ∀ d ∈ ds, Shw d k n) : Shw (.tup ds) (k + 1) (ds.length * (n + 2) + 4) := by
  obtain ⟨ps, b1, b2, b3, b4, b5⟩ := shw_l h
  refine ⟨.tuple ps, by simp [toP, b1], by simpa [PyData.showable] using b2, by simp only [PyData.depth]; omega, ?_, ?_⟩
  · show (tupleText (PyData.shownAll ps)).length ≤ _
    unfold tupleText
    have h1 := join_le n (PyData.shownAll ps) fun t ht => (b5 t ht).1
    rw [shownAll_len, b4] at h1
    have e1 : ((("(" : String) : Str)).length = 1 := rfl
    have e2 : (((",)" : String) : Str)).length = 2 := rfl
    have e3 : (((")" : String) : Str)).length = 1 := rfl
    rw [len_app, len_app, e1]
    split
    · rw [e2]; omega
    · rw [e3]; omega
  · show strOk (tupleText (PyData.shownAll ps)) = true
    unfold tupleText
    refine strOk_app (strOk_app (by decide +kernel) (join_so _ fun t ht => (b5 t ht).2)) ?_
    split <;> decide +kernel
theorem shw_lst {o : Bool} {ds : List D} {k n : Nat} (h : ∀ d ∈ ds, Shw d k n) : Shw (.lst o ds) (k + 1) (ds.length * (n + 2) + 4) := by
  obtain ⟨ps, b1, b2, b3, b4, b5⟩ := shw_l h
  refine ⟨.list ps, by simp [toP, b1], by simpa [PyData.showable] using b2, by simp only [PyData.depth]; omega, ?_, ?_⟩
  · show (listText (PyData.shownAll ps)).length ≤ _
    unfold listText
    have h1 := textFrom_len_le (PyData.shownAll ps) 0 "["
    have h2 := sum_le n (PyData.shownAll ps) fun t ht => (b5 t ht).1
    rw [shownAll_len, b4] at h1 h2
    have e1 : ((("[" : String) : Str)).length = 1 := rfl
    have e3 : ((("]" : String) : Str)).length = 1 := rfl
    rw [len_app, e3]
    rw [e1] at h1
    have : ds.length * (n + 2) = ds.length * n + 2 * ds.length := by rw [Nat.mul_add]; omega
    omega
  · show strOk (listText (PyData.shownAll ps)) = true
    unfold listText
    exact strOk_app (from_so _ _ _ (by decide +kernel) fun t ht => (b5 t ht).2) (by decide +kernel)
theorem log2_12 {i : Int} (h : i.natAbs < 10 ^ 12) : i.natAbs.log2 < 1920 := by
  by_cases h0 : i.natAbs = 0
  · rw [h0]; decide
  · have := (Nat.log2_lt (n := i.natAbs) (k := 1920) h0).mpr (Nat.lt_of_lt_of_le h (by
      have : (10 : Nat) ^ 12 ≤ 2 ^ 40 := by decide
      exact Nat.le_trans this (Nat.pow_le_pow_right (by decide) (by decide))))
    exact this
theorem shw_int {i : Int} (h0 : -1000000000000 < i) (h1 : i < 1000000000000) : Shw (.int i) 0 13 := by
  have h : i.natAbs < 10 ^ 12 := by omega
  exact ⟨.int i, rfl, by simpa [PyData.showable] using log2_12 h, by simp [PyData.depth], shown_int_le h, strOk_numS i⟩
theorem shw_non : Shw .non 0 4 := ⟨.none, rfl, rfl, by simp [PyData.depth], by show (("None" : String) : Str).length ≤ 4; decide, by show strOk (("None" : String) : Str) = true; decide +kernel⟩
theorem shw_bl (b : Bool) : Shw (.bl b) 0 5 := ⟨.bool b, rfl, rfl, by simp [PyData.depth], by cases b <;> (show ((_ : String) : Str).length ≤ 5) <;> decide, by cases b <;> decide +kernel⟩
theorem shw_mono {d : D} {k n k' n' : Nat} (h : Shw d k n) (hk : k ≤ k') (hn : n ≤ n') : Shw d k' n' := by
  obtain ⟨p, a1, a2, a3, a4, a5⟩ := h
  exact ⟨p, a1, a2, by omega, by omega, a5⟩
theorem dRepr_of {d : D} {k n : Nat} (h : Shw d k n) (hk : k ≤ 64) (hn : n ≤ 16777216) : ∃ z, dRepr d = some (.str z) ∧ strOk z = true := by
  obtain ⟨p, a1, a2, a3, a4, a5⟩ := h
  refine ⟨p.shown, ?_, a5⟩
  have e : toR d = some p := by
    cases d <;> first | exact a1 | skip
    simp [toP] at a1
  unfold dRepr
  rw [e]
  dsimp only
  rw [if_pos ⟨a2, by omega, by omega⟩]
/-- a list shows like itself, whoever holds it -/
theorem dRepr_lst (o o' : Bool) (ds : List D) : dRepr (.lst o ds) = dRepr (.lst o' ds) := by
  unfold dRepr toR toP; rfl
end DL
namespace Toy
open PySem PySem.Spec PyProof.Rows L2 DL
def top (i : Nat) : Stmt := PySem.Challenge.pw_tokennets_k83_whole_live_nets_changed.main.body.getD i (.Pass ⟨0, 0, 0, 0⟩)
abbrev s_BadNet_init : Stmt := inClass (top 7) 0
abbrev s_NotReady_init : Stmt := inClass (top 8) 0
abbrev s_NoDeed_init : Stmt := inClass (top 9) 0
abbrev s_NoMark_init : Stmt := inClass (top 10) 0
abbrev s_NoNumber_init : Stmt := inClass (top 11) 0
abbrev s_TooGreat_init : Stmt := inClass (top 12) 0
abbrev s_NothingDone_init : Stmt := inClass (top 13) 0
abbrev s_is_integer : Stmt := top 2
abbrev s_is_within : Stmt := top 3
abbrev s_is_tuple : Stmt := top 4
abbrev s_Net_eq : Stmt := inClass (top 19) 1
abbrev s_is_counts : Stmt := top 20
abbrev s_is_mark : Stmt := top 21
abbrev s_check_mark : Stmt := top 22
abbrev s_check_deed : Stmt := top 23
abbrev s_can_do : Stmt := top 24
abbrev s_behind : Stmt := top 25
abbrev s_ready_of : Stmt := top 26
abbrev s_Life_init : Stmt := inClass (top 28) 0
abbrev s_Life_go_on : Stmt := inClass (top 28) 1
abbrev s_Life_now : Stmt := inClass (top 28) 2
abbrev s_Life_do : Stmt := inClass (top 28) 3
abbrev s_Life_put : Stmt := inClass (top 28) 4
abbrev s_Life_take : Stmt := inClass (top 28) 5
abbrev s_Life_ready : Stmt := inClass (top 28) 9
abbrev s_Life_tokens : Stmt := inClass (top 28) 10
abbrev s__law_hand : Stmt := top 30
abbrev s__law_draw : Stmt := top 31
abbrev s__law_some : Stmt := top 32
abbrev s__law_is_int : Stmt := top 33
abbrev s__law_net : Stmt := top 34
abbrev s__law_word : Stmt := top 35
abbrev s__law_ready : Stmt := top 36
abbrev s__law_is_deed : Stmt := top 37
abbrev s__law_due : Stmt := top 38
abbrev s__law_act : Stmt := top 40
abbrev s__law_is_like : Stmt := top 41
abbrev s_Net_init : Stmt := inClass (top 19) 0
abbrev s_Life_add : Stmt := inClass (top 28) 6
abbrev s_Life_leave : Stmt := inClass (top 28) 7
abbrev s__law_do : Stmt := top 39
abbrev s_law : Stmt := top 42
def yesT_Net : String → Option Bool := fun t => if t ∈ ["int", "bool", "str", "tuple", "list", "dict", "NoneType"] then some false else none
def yesC_Net : Str → Option Bool := fun n => if n = "Net" then some true else none
def yesT_bool : String → Option Bool := fun t => if t ∈ ["bool"] then some true else if t ∈ ["int", "bool", "str", "tuple", "list", "dict", "NoneType"] then some false else none
def yesC_bool : Str → Option Bool := fun n => if n ∈ (["Net", "Life"] : List Str) then some false else none
def yesT_int : String → Option Bool := fun t => if t ∈ ["int", "bool"] then some true else if t ∈ ["int", "bool", "str", "tuple", "list", "dict", "NoneType"] then some false else none
def yesC_int : Str → Option Bool := fun n => if n ∈ (["Net", "Life"] : List Str) then some false else none
def yesT_tuple : String → Option Bool := fun t => if t ∈ ["tuple"] then some true else if t ∈ ["int", "bool", "str", "tuple", "list", "dict", "NoneType"] then some false else none
def yesC_tuple : Str → Option Bool := fun n => if n ∈ (["Net", "Life"] : List Str) then some false else none
theorem bt_ValueError : bootBuiltins ("ValueError" : Str) = some (.type "ValueError") := by decide +kernel
theorem bt_abs : bootBuiltins ("abs" : Str) = some (.builtin "abs") := by decide +kernel
theorem bt_all : bootBuiltins ("all" : Str) = some (.builtin "all") := by decide +kernel
theorem bt_bool : bootBuiltins ("bool" : Str) = some (.type "bool") := by decide +kernel
theorem bt_int : bootBuiltins ("int" : Str) = some (.type "int") := by decide +kernel
theorem bt_len : bootBuiltins ("len" : Str) = some (.builtin "len") := by decide +kernel
theorem bt_list : bootBuiltins ("list" : Str) = some (.type "list") := by decide +kernel
theorem bt_max : bootBuiltins ("max" : Str) = some (.builtin "max") := by decide +kernel
theorem bt_repr : bootBuiltins ("repr" : Str) = some (.builtin "repr") := by decide +kernel
theorem bt_sum : bootBuiltins ("sum" : Str) = some (.builtin "sum") := by decide +kernel
theorem bt_tuple : bootBuiltins ("tuple" : Str) = some (.type "tuple") := by decide +kernel
def m_is_integer : MF := mDef [false] 0 ((sRet (eAnd (eUn (dIsi (yesT_int) (yesC_int)) (eV 0)) (eNot (eUn (dIsi (yesT_bool) (yesC_bool)) (eV 0))))))
def m_is_within : MF := mDef [false, false, false] 0 ((sRet (eAnd (eCall m_is_integer (aCons (eV 0) aNil)) (eChain dLe dLe (eV 1) (eV 0) (eV 2)))))
def m_is_tuple : MF := mDef [false, false, false] 0 ((sRet (eAnd (eUn (dIsi (yesT_tuple) (yesC_tuple)) (eV 0)) (eChain dLe dLe (eV 1) (eUn dLen (eV 0)) (eV 2)))))
def m_Net_eq : MF := mDef [false, false] 0 ((sRet (eAnd (eUn (dIsi (yesT_Net) (yesC_Net)) (eV 1)) (eBin dEq (eTup (aCons (eUn (dFld "places") (eV 0)) (aCons (eUn (dFld "deeds") (eV 0)) aNil))) (eTup (aCons (eUn (dFld "places") (eV 1)) (aCons (eUn (dFld "deeds") (eV 1)) aNil)))))))
def m_is_counts : MF := mDef [false, false] 1 ((sRet (eAnd (eCall m_is_tuple (aCons (eV 1) (aCons (eV 0) (aCons (eV 0) aNil)))) (eUn dAll (eLc [2] (iSeqD (eV 1)) (gdName 2) tYesD (eCall m_is_within (aCons (eV 2) (aCons (eC (.int 0)) (aCons (eC (.int 9)) aNil)))))))))
def m_is_mark : MF := mDef [false, false] 1 ((sRet (eAnd (eCall m_is_tuple (aCons (eV 1) (aCons (eUn (dFld "places") (eV 0)) (aCons (eUn (dFld "places") (eV 0)) aNil)))) (eUn dAll (eLc [2] (iSeqD (eV 1)) (gdName 2) tYesD (eCall m_is_within (aCons (eV 2) (aCons (eC (.int 0)) (aCons (eC (.int 1000000)) aNil)))))))))
def m_check_mark : MF := mDef [false, false] 0 ((sIf (tNotD (tVal (eCall m_is_mark (aCons (eV 0) (aCons (eV 1) aNil))))) (sRaise0 "NoMark")
  sDone))
def m_check_deed : MF := mDef [false, false] 0 ((sIf (tNotD (tVal (eCall m_is_within (aCons (eV 1) (aCons (eC (.int 0)) (aCons (eBin dSub (eUn dLen (eUn (dFld "deeds") (eV 0))) (eC (.int 1))) aNil)))))) (sRaise0 "NoDeed")
  sDone))
def m_can_do : MF := mDef [false, false, false] 2 ((sRet (eUn dAll (eLc [3, 4] (iZip2D (aCons (eShr (eV 1)) (aCons (eShr (eBin dIx (eBin dIx (eUn (dFld "deeds") (eV 0)) (eV 2)) (eC (.int 0)))) aNil))) (gdTup 2 (gsCons (gdName 3) (gsCons (gdName 4) gsNil))) tYesD (eBin dGe (eV 3) (eV 4))))))
def m_behind : MF := mDef [false, false, false] 5 ((sSeq (sAsg (eBin dIx (eUn (dFld "deeds") (eV 0)) (eV 2)) (gdTup 2 (gsCons (gdName 3) (gsCons (gdName 4) gsNil))))
  (sRet (eUn dTuple (eLc [5, 6, 7] (iZip3D (aCons (eShr (eV 1)) (aCons (eShr (eV 3)) (aCons (eShr (eV 4)) aNil)))) (gdTup 3 (gsCons (gdName 5) (gsCons (gdName 6) (gsCons (gdName 7) gsNil)))) tYesD (eBin dAdd (eBin dSub (eV 5) (eV 6)) (eV 7)))))))
def m_ready_of : MF := mDef [false, false] 1 ((sRet (eLc [2] (iRng1D (aCons (eUn dLen (eUn (dFld "deeds") (eV 0))) aNil)) (gdName 2) (tVal (eCall m_can_do (aCons (eV 0) (aCons (eV 1) (aCons (eV 2) aNil))))) (eV 2))))
def m_Life_init : MF := mDef [false, false, false] 0 ((sSeq (sExpr (eCall m_check_mark (aCons (eV 1) (aCons (eV 2) aNil))))
  (sSeq (sFldD "Life" "present" (eV 0) (eShr (eTup (aCons (eV 1) (aCons (eV 2) aNil)))))
  (sSeq (sFldD "Life" "elders" (eV 0) (eLst aNil))
  (sFldD "Life" "said" (eV 0) (eLst aNil))))))
def m_Life_go_on : MF := mDef [false, false, false, false] 0 ((sSeq (sAppF 0 "elders" id (fun σ => fzG (fldOf σ 0 "present")))
  (sSeq (sAppF 0 "said" (shAt 3) (fun σ => fzG (sget σ 3)))
  (sFldD "Life" "present" (eV 0) (eShr (eTup (aCons (eV 1) (aCons (eV 2) aNil))))))))
def m_Life_now : MF := mDef [false] 0 ((sRet (eUn (dFld "present") (eV 0))))
def m_Life_do : MF := mDef [false, false] 3 ((sSeq (sAsg (eUn (dFld "present") (eV 0)) (gdTup 2 (gsCons (gdName 2) (gsCons (gdName 3) gsNil))))
  (sSeq (sExpr (eCall m_check_deed (aCons (eV 2) (aCons (eV 1) aNil))))
  (sSeq (sIf (tNotD (tVal (eCall m_can_do (aCons (eV 2) (aCons (eV 3) (aCons (eV 1) aNil)))))) (sRaise1 "NotReady" "at" (aCons (eV 1) aNil))
  sDone)
  (sSeq (sSet 4 (eCall m_behind (aCons (eV 2) (aCons (eV 3) (aCons (eV 1) aNil)))))
  (sSeq (sIf (tVal (eBin dGt (eUn dMaxT (eBin dAdd (eTup (aCons (eC (.int 0)) aNil)) (eV 4))) (eC (.int 1000000)))) (sRaise0 "TooGreat")
  sDone)
  (sExpr (eMeth "Life" "go_on" m_Life_go_on (eV 0) (aCons (eV 2) (aCons (eV 4) (aCons (eTup (aCons (eC (.str "do")) (aCons (eV 1) aNil))) aNil)))))))))))
def m_Life_put : MF := mDef [false, false, false] 2 ((sSeq (sAsg (eUn (dFld "present") (eV 0)) (gdTup 2 (gsCons (gdName 3) (gsCons (gdName 4) gsNil))))
  (sSeq (sIf (tOrD (tNotD (tVal (eCall m_is_within (aCons (eV 1) (aCons (eC (.int 0)) (aCons (eBin dSub (eUn (dFld "places") (eV 3)) (eC (.int 1))) aNil)))))) (tNotD (tVal (eCall m_is_within (aCons (eV 2) (aCons (eC (.int 0)) (aCons (eC (.int 1000000)) aNil))))))) (sRaise0 "NoNumber")
  sDone)
  (sSeq (sIf (tVal (eBin dGt (eBin dAdd (eBin dIx (eV 4) (eV 1)) (eV 2)) (eC (.int 1000000)))) (sRaise0 "TooGreat")
  sDone)
  (sExpr (eMeth "Life" "go_on" m_Life_go_on (eV 0) (aCons (eV 3) (aCons (eBin dAdd (eBin dAdd (eCut (eV 4) oNone (oSome (eV 1))) (eTup (aCons (eBin dAdd (eBin dIx (eV 4) (eV 1)) (eV 2)) aNil))) (eCut (eV 4) (oSome (eBin dAdd (eV 1) (eC (.int 1)))) oNone)) (aCons (eTup (aCons (eC (.str "put")) (aCons (eV 1) (aCons (eV 2) aNil)))) aNil)))))))))
def m_Life_take : MF := mDef [false, false, false] 2 ((sSeq (sAsg (eUn (dFld "present") (eV 0)) (gdTup 2 (gsCons (gdName 3) (gsCons (gdName 4) gsNil))))
  (sSeq (sIf (tOrD (tNotD (tVal (eCall m_is_within (aCons (eV 1) (aCons (eC (.int 0)) (aCons (eBin dSub (eUn (dFld "places") (eV 3)) (eC (.int 1))) aNil)))))) (tNotD (tVal (eCall m_is_within (aCons (eV 2) (aCons (eC (.int 0)) (aCons (eC (.int 1000000)) aNil))))))) (sRaise0 "NoNumber")
  sDone)
  (sSeq (sIf (tVal (eBin dLt (eBin dIx (eV 4) (eV 1)) (eV 2))) (sRaise0 "NoMark")
  sDone)
  (sExpr (eMeth "Life" "go_on" m_Life_go_on (eV 0) (aCons (eV 3) (aCons (eBin dAdd (eBin dAdd (eCut (eV 4) oNone (oSome (eV 1))) (eTup (aCons (eBin dSub (eBin dIx (eV 4) (eV 1)) (eV 2)) aNil))) (eCut (eV 4) (oSome (eBin dAdd (eV 1) (eC (.int 1)))) oNone)) (aCons (eTup (aCons (eC (.str "take")) (aCons (eV 1) (aCons (eV 2) aNil)))) aNil)))))))))
def m_Life_ready : MF := mDef [false] 0 ((sRet (eCall m_ready_of (aCons (eBin dIx (eUn (dFld "present") (eV 0)) (eC (.int 0))) (aCons (eBin dIx (eUn (dFld "present") (eV 0)) (eC (.int 1))) aNil)))))
def m_Life_tokens : MF := mDef [false] 0 ((sRet (eUn dSumX (eBin dIx (eUn (dFld "present") (eV 0)) (eC (.int 1))))))
def m__law_hand : MF := mDef [false] 2 ((sSeq (sSet 1 (eLc [2] (iSeqD (eCut (eV 0) oNone (oSome (eC (.int 63))))) (gdName 2) tYesD (eUn dAbs (eUn dInt (eV 2)))))
  (sRet (eLst (aCons (eShr (eV 1)) (aCons (eC (.int 0)) (aCons (eC (.int 0)) (aCons (eShr (eBin dAdd (eC (.int 83)) (eBin dMul (eC (.int 5)) (eUn dLen (eV 1))))) (aCons (eC (.int 0)) aNil)))))))))
def m__law_draw : MF := mDef [false, false] 3 ((sSeq (sIf (tAndD (tVal (eBin dEq (eBin dIx (eV 0) (eC (.int 2))) (eC (.int 0)))) (tVal (eBin dLt (eBin dIx (eV 0) (eC (.int 1))) (eUn dLen (eBin dIx (eV 0) (eC (.int 0))))))) (sSeq (sSet 2 (eBin dIx (eBin dIx (eV 0) (eC (.int 0))) (eBin dIx (eV 0) (eC (.int 1)))))
  (sSeq (sAsg (eBin dAdd (eBin dIx (eV 0) (eC (.int 1))) (eC (.int 1))) (gdSub (eV 0) (eC (.int 1))))
  (sSeq (sAsg (eBin dMod (eUn dInt (eBin dAdd (eBin dAdd (eBin dMul (eBin dIx (eV 0) (eC (.int 3))) (eC (.int 48271))) (eBin dMul (eV 2) (eC (.int 5)))) (eC (.int 29)))) (eC (.int 2147483587))) (gdSub (eV 0) (eC (.int 3))))
  (sAsg (eIf (tVal (eBin dGe (eV 2) (eBin dPow (eC (.int 10)) (eC (.int 18))))) (eV 2) (eC (.int 0))) (gdSub (eV 0) (eC (.int 2)))))))
  sDone)
  (sSeq (sIf (tVal (eBin dGt (eBin dIx (eV 0) (eC (.int 2))) (eC (.int 0)))) (sSeq (sSet 3 (eBin dMod (eUn dInt (eBin dIx (eV 0) (eC (.int 2)))) (eV 1)))
  (sSeq (sAsg (eBin dFdiv (eBin dIx (eV 0) (eC (.int 2))) (eV 1)) (gdSub (eV 0) (eC (.int 2))))
  (sRet (eV 3))))
  sDone)
  (sSeq (sAsg (eBin dAdd (eBin dIx (eV 0) (eC (.int 4))) (eC (.int 1))) (gdSub (eV 0) (eC (.int 4))))
  (sSeq (sSet 4 (eBin dMod (eUn dInt (eBin dMul (eUn dInt (eBin dAdd (eBin dIx (eV 0) (eC (.int 3))) (eBin dMul (eC (.int 7877)) (eBin dIx (eV 0) (eC (.int 4)))))) (eC (.int 69621)))) (eC (.int 2147483647))))
  (sSeq (sSet 4 (eBin dMod (eUn dInt (eBin dMul (eV 4) (eBin dAdd (eBin dFdiv (eV 4) (eC (.int 1103))) (eC (.int 40692))))) (eC (.int 2147483399))))
  (sSeq (sSet 4 (eBin dMod (eUn dInt (eBin dMul (eV 4) (eBin dAdd (eBin dFdiv (eV 4) (eC (.int 2311))) (eC (.int 48271))))) (eC (.int 2147483629))))
  (sRet (eBin dMod (eUn dInt (eBin dFdiv (eV 4) (eC (.int 16)))) (eV 1))))))))))
def m__law_some : MF := mDef [false, false] 0 ((sRet (eBin dIx (eV 1) (eCall m__law_draw (aCons (eV 0) (aCons (eUn dLen (eV 1)) aNil))))))
def m__law_is_int : MF := mDef [false, false, false] 0 ((sSeq (sIf (tNotD (tVal (eUn (dIsi (yesT_int) (yesC_int)) (eV 0)))) (sRet (eC (.bl false)))
  sDone)
  (sSeq (sIf (tVal (eUn (dIsi (yesT_bool) (yesC_bool)) (eV 0))) (sRet (eC (.bl false)))
  sDone)
  (sRet (eChain dLe dLe (eV 1) (eV 0) (eV 2))))))
def m__law_net : MF := mDef [false, false] 8 ((sSeq (sPar (aCons (eBin dAdd (eC (.int 1)) (eCall m__law_draw (aCons (eV 0) (aCons (eC (.int 4)) aNil)))) (aCons (eBin dAdd (eC (.int 2)) (eCall m__law_draw (aCons (eV 0) (aCons (eC (.int 2)) aNil)))) (aCons (eLst aNil) aNil))) (gsCons (gdName 2) (gsCons (gdName 3) (gsCons (gdName 4) gsNil))))
  (sSeq (sSet 5 (eCall m__law_some (aCons (eV 0) (aCons (eLst (aCons (eC (.int 2)) (aCons (eC (.int 2)) (aCons (eC (.int 3)) aNil)))) aNil))))
  (sSeq (sFor (iRng1D (aCons (eBin dAdd (eC (.int 1)) (eCall m__law_draw (aCons (eV 0) (aCons (eV 1) aNil)))) aNil)) (gdName 6)
  (sSeq (sSet 7 (eLst aNil))
  (sSeq (sFor (iSeqD (eTup (aCons (eC (.int 0)) (aCons (eC (.int 1)) aNil)))) (gdName 8)
  (sExpr (eMt (eV 7) (aCons (eShr (eUn dTuple (eLc [9] (iRng1D (aCons (eV 2) aNil)) (gdName 9) tYesD (eIf (tVal (eBin dEq (eCall m__law_draw (aCons (eV 0) (aCons (eV 3) aNil))) (eC (.int 0)))) (eBin dAdd (eC (.int 1)) (eCall m__law_draw (aCons (eV 0) (aCons (eBin dSub (eV 5) (eC (.int 1))) aNil)))) (eC (.int 0)))))) aNil) mApp)))
  (sExpr (eMt (eV 4) (aCons (eShr (eTup (aCons (eBin dIx (eV 7) (eC (.int 0))) (aCons (eBin dIx (eV 7) (eC (.int 1))) aNil)))) aNil) mApp)))))
  (sRet (eTup (aCons (eV 2) (aCons (eUn dTuple (eV 4)) aNil))))))))
def m__law_ready : MF := mDef [false, false] 4 ((sRet (eLc [2, 3] (iEnumD (aCons (eShr (eV 0)) aNil)) (gdTup 2 (gsCons (gdName 2) (gsCons (gdName 3) gsNil))) (tVal (eUn dAll (eLc [4, 5] (iZip2D (aCons (eShr (eV 1)) (aCons (eShr (eBin dIx (eV 3) (eC (.int 0)))) aNil))) (gdTup 2 (gsCons (gdName 4) (gsCons (gdName 5) gsNil))) tYesD (eBin dGe (eV 4) (eV 5))))) (eV 2))))
def m__law_is_deed : MF := mDef [false, false] 2 ((sSeq (sFor (iSeqD (eV 1)) (gdName 2)
  (sSeq (sIf (tNotD (tVal (eUn (dIsi (yesT_tuple) (yesC_tuple)) (eV 2)))) (sRet (eC (.bl false)))
  sDone)
  (sSeq (sIf (tVal (eBin dNe (eUn dLen (eV 2)) (eV 0))) (sRet (eC (.bl false)))
  sDone)
  (sIf (tNotD (tVal (eUn dAll (eLc [3] (iSeqD (eV 2)) (gdName 3) tYesD (eCall m__law_is_int (aCons (eV 3) (aCons (eC (.int 0)) (aCons (eC (.int 9)) aNil)))))))) (sRet (eC (.bl false)))
  sDone))))
  (sRet (eC (.bl true)))))
def m__law_due : MF := mDef [false, false] 10 ((sSeq (sAsg (eV 0) (gdTup 3 (gsCons (gdName 2) (gsCons (gdName 3) (gsCons (gdName 4) gsNil)))))
  (sSeq (sIf (tAndD (tVal (eBin (dInU false) (eBin dIx (eV 1) (eC (.int 0))) (eTup (aCons (eC (.str "do")) (aCons (eC (.str "leave")) aNil))))) (tNotD (tVal (eCall m__law_is_int (aCons (eBin dIx (eV 1) (eC (.int 1))) (aCons (eC (.int 0)) (aCons (eBin dSub (eUn dLen (eV 3)) (eC (.int 1))) aNil))))))) (sRet (eC (.str "deed")))
  sDone)
  (sSeq (sIf (tVal (eBin dEq (eBin dIx (eV 1) (eC (.int 0))) (eC (.str "do")))) (sSeq (sIf (tVal (eBin (dInU true) (eBin dIx (eV 1) (eC (.int 1))) (eCall m__law_ready (aCons (eV 3) (aCons (eV 4) aNil))))) (sRet (eTup (aCons (eC (.str "ready")) (aCons (eBin dIx (eV 1) (eC (.int 1))) aNil))))
  sDone)
  (sSeq (sAsg (eBin dIx (eV 3) (eBin dIx (eV 1) (eC (.int 1)))) (gdTup 2 (gsCons (gdName 5) (gsCons (gdName 6) gsNil))))
  (sSeq (sSet 7 (eUn dTuple (eLc [9, 10, 11] (iZip3D (aCons (eShr (eV 4)) (aCons (eShr (eV 5)) (aCons (eShr (eV 6)) aNil)))) (gdTup 3 (gsCons (gdName 9) (gsCons (gdName 10) (gsCons (gdName 11) gsNil)))) tYesD (eBin dAdd (eBin dSub (eV 9) (eV 10)) (eV 11)))))
  (sRet (eIf (tVal (eBin dLe (eUn dMaxT (eV 7)) (eBin dPow (eC (.int 10)) (eC (.int 6))))) (eTup (aCons (eC (.str "told")) (aCons (eTup (aCons (eV 2) (aCons (eV 3) (aCons (eV 7) aNil)))) aNil))) (eC (.str "great")))))))
  sDone)
  (sSeq (sIf (tVal (eBin dEq (eBin dIx (eV 1) (eC (.int 0))) (eC (.str "leave")))) (sRet (eTup (aCons (eC (.str "told")) (aCons (eTup (aCons (eV 2) (aCons (eBin dAdd (eCut (eV 3) oNone (oSome (eBin dIx (eV 1) (eC (.int 1))))) (eCut (eV 3) (oSome (eBin dAdd (eBin dIx (eV 1) (eC (.int 1))) (eC (.int 1)))) oNone)) (aCons (eV 4) aNil)))) aNil))))
  sDone)
  (sSeq (sIf (tVal (eBin dEq (eBin dIx (eV 1) (eC (.int 0))) (eC (.str "add")))) (sSeq (sIf (tNotD (tVal (eCall m__law_is_deed (aCons (eV 2) (aCons (eCut (eV 1) (oSome (eC (.int 1))) oNone) aNil))))) (sRet (eC (.str "deed")))
  sDone)
  (sRet (eIf (tVal (eBin dLt (eUn dLen (eV 3)) (eC (.int 16)))) (eTup (aCons (eC (.str "told")) (aCons (eTup (aCons (eV 2) (aCons (eBin dAdd (eV 3) (eTup (aCons (eCut (eV 1) (oSome (eC (.int 1))) oNone) aNil))) (aCons (eV 4) aNil)))) aNil))) (eC (.str "great")))))
  sDone)
  (sSeq (sIf (tNotD (tVal (eCall m__law_is_int (aCons (eBin dIx (eV 1) (eC (.int 1))) (aCons (eC (.int 0)) (aCons (eBin dSub (eV 2) (eC (.int 1))) aNil)))))) (sRet (eC (.str "number")))
  sDone)
  (sSeq (sIf (tNotD (tVal (eCall m__law_is_int (aCons (eBin dIx (eV 1) (eC (.int 2))) (aCons (eC (.int 0)) (aCons (eBin dPow (eC (.int 10)) (eC (.int 6))) aNil)))))) (sRet (eC (.str "number")))
  sDone)
  (sSeq (sSet 8 (eBin dAdd (eBin dIx (eV 4) (eBin dIx (eV 1) (eC (.int 1)))) (eIf (tVal (eBin dEq (eBin dIx (eV 1) (eC (.int 0))) (eC (.str "put")))) (eBin dIx (eV 1) (eC (.int 2))) (eBin dSub (eC (.int 0)) (eBin dIx (eV 1) (eC (.int 2)))))))
  (sSeq (sIf (tVal (eBin dLt (eV 8) (eC (.int 0)))) (sRet (eC (.str "mark")))
  sDone)
  (sRet (eIf (tVal (eBin dLe (eV 8) (eBin dPow (eC (.int 10)) (eC (.int 6))))) (eTup (aCons (eC (.str "told")) (aCons (eTup (aCons (eV 2) (aCons (eV 3) (aCons (eBin dAdd (eBin dAdd (eCut (eV 4) oNone (oSome (eBin dIx (eV 1) (eC (.int 1))))) (eTup (aCons (eV 8) aNil))) (eCut (eV 4) (oSome (eBin dAdd (eBin dIx (eV 1) (eC (.int 1))) (eC (.int 1)))) oNone)) aNil)))) aNil))) (eC (.str "great"))))))))))))))
def m__law_act : MF := mDef [false, false] 7 ((sSeq (sPar (aCons (eBin dIx (eV 1) (eC (.int 0))) (aCons (eBin dIx (eV 1) (eC (.int 1))) aNil)) (gsCons (gdName 2) (gsCons (gdName 3) gsNil)))
  (sSeq (sSet 4 (eCall m__law_some (aCons (eV 0) (aCons (eLst (aCons (eC (.str "do")) (aCons (eC (.str "do")) (aCons (eC (.str "do")) (aCons (eC (.str "put")) (aCons (eC (.str "put")) (aCons (eC (.str "take")) (aCons (eC (.str "add")) (aCons (eC (.str "leave")) aNil))))))))) aNil))))
  (sSeq (sIf (tVal (eBin (dInU false) (eV 4) (eTup (aCons (eC (.str "do")) (aCons (eC (.str "leave")) aNil))))) (sRet (eTup (aCons (eV 4) (aCons (eCall m__law_some (aCons (eV 0) (aCons (eLst (aCons (eShr (eCall m__law_draw (aCons (eV 0) (aCons (eBin dAdd (eUn dLen (eV 3)) (eC (.int 1))) aNil)))) (aCons (eShr (eCall m__law_draw (aCons (eV 0) (aCons (eBin dAdd (eUn dLen (eV 3)) (eC (.int 1))) aNil)))) (aCons (eShr (eUn dNeg (eC (.int 1)))) (aCons (eC .non) (aCons (eC (.bl true)) aNil)))))) aNil))) aNil))))
  sDone)
  (sSeq (sIf (tVal (eBin dEq (eV 4) (eC (.str "add")))) (sSeq (sSet 5 (eLc [8] (iSeqD (eTup (aCons (eC (.int 0)) (aCons (eC (.int 1)) aNil)))) (gdName 8) tYesD (eUn dTuple (eLc [7] (iRng1D (aCons (eV 2) aNil)) (gdName 7) tYesD (eCall m__law_draw (aCons (eV 0) (aCons (eC (.int 3)) aNil)))))))
  (sSeq (sSet 6 (eCall m__law_some (aCons (eV 0) (aCons (eLst (aCons (eC .non) (aCons (eShr (eBin dMul (eTup (aCons (eC (.int 10)) aNil)) (eV 2))) (aCons (eShr (eBin dMul (eTup (aCons (eC (.int 0)) aNil)) (eBin dAdd (eV 2) (eC (.int 1))))) (aCons (eShr (eBin dMul (eLst (aCons (eC (.int 0)) aNil)) (eV 2))) (aCons (eShr (eBin dMul (eTup (aCons (eUn dNeg (eC (.int 1))) aNil)) (eV 2))) aNil)))))) aNil))))
  (sRet (eTup (aCons (eV 4) (aCons (eBin dIx (eV 5) (eC (.int 0))) (aCons (eIf (tVal (eBin dGt (eCall m__law_draw (aCons (eV 0) (aCons (eC (.int 4)) aNil))) (eC (.int 0)))) (eBin dIx (eV 5) (eC (.int 1))) (eV 6)) aNil)))))))
  sDone)
  (sSeq (sSet 7 (eCall m__law_some (aCons (eV 0) (aCons (eLst (aCons (eShr (eCall m__law_draw (aCons (eV 0) (aCons (eBin dAdd (eV 2) (eC (.int 1))) aNil)))) (aCons (eShr (eCall m__law_draw (aCons (eV 0) (aCons (eV 2) aNil)))) (aCons (eShr (eUn dNeg (eC (.int 1)))) (aCons (eC .non) (aCons (eC (.bl true)) aNil)))))) aNil))))
  (sRet (eTup (aCons (eV 4) (aCons (eV 7) (aCons (eCall m__law_some (aCons (eV 0) (aCons (eLst (aCons (eC (.int 1)) (aCons (eC (.int 2)) (aCons (eC (.int 3)) (aCons (eShr (eBin dAdd (eC (.int 1)) (eCall m__law_draw (aCons (eV 0) (aCons (eC (.int 9)) aNil))))) (aCons (eShr (eUn dNeg (eC (.int 1)))) (aCons (eC .non) (aCons (eC (.bl true)) (aCons (eShr (eBin dPow (eC (.int 10)) (eC (.int 6)))) aNil))))))))) aNil))) aNil)))))))))))
def m__law_is_like : MF := mDef [false, false] 2 ((sSeq (sAsg (eMeth "Life" "now" m_Life_now (eV 0) aNil) (gdTup 2 (gsCons (gdName 2) (gsCons (gdName 3) gsNil))))
  (sRet (eBin dEq (eUn dRepr (eTup (aCons (eUn (dFld "places") (eV 2)) (aCons (eUn (dFld "deeds") (eV 2)) (aCons (eV 3) aNil))))) (eUn dRepr (eV 1))))))
def m_Net_init : MF := mDef [false, false, false] 3 ((sSeq (sIf (tNotD (tVal (eCall m_is_within (aCons (eV 1) (aCons (eC (.int 0)) (aCons (eC (.int 12)) aNil)))))) (sRaise1 "BadNet" "part" (aCons (eC (.str "places")) aNil))
  sDone)
  (sSeq (sIf (tNotD (tVal (eCall m_is_tuple (aCons (eV 2) (aCons (eC (.int 0)) (aCons (eC (.int 16)) aNil)))))) (sRaise1 "BadNet" "part" (aCons (eC (.str "deeds")) aNil))
  sDone)
  (sSeq (sFor (iEnumD (aCons (eShr (eV 2)) aNil)) (gdTup 2 (gsCons (gdName 3) (gsCons (gdName 4) gsNil)))
  (sIf (tOrD (tNotD (tVal (eCall m_is_tuple (aCons (eV 4) (aCons (eC (.int 2)) (aCons (eC (.int 2)) aNil)))))) (tNotD (tVal (eUn dAll (eLc [5] (iSeqD (eV 4)) (gdName 5) tYesD (eCall m_is_counts (aCons (eV 1) (aCons (eV 5) aNil)))))))) (sRaise1 "BadNet" "part" (aCons (eV 3) aNil))
  sDone))
  (sSeq (sFldD "Net" "places" (eV 0) (eShr (eV 1)))
  (sFldD "Net" "deeds" (eV 0) (eShr (eV 2))))))))
def m_Life_add : MF := mDef [false, false, false] 2 ((sSeq (sAsg (eUn (dFld "present") (eV 0)) (gdTup 2 (gsCons (gdName 3) (gsCons (gdName 4) gsNil))))
  (sSeq (sIf (tOrD (tNotD (tVal (eCall m_is_counts (aCons (eUn (dFld "places") (eV 3)) (aCons (eV 1) aNil))))) (tNotD (tVal (eCall m_is_counts (aCons (eUn (dFld "places") (eV 3)) (aCons (eV 2) aNil)))))) (sRaise0 "NoDeed")
  sDone)
  (sSeq (sIf (tVal (eBin dEq (eUn dLen (eUn (dFld "deeds") (eV 3))) (eC (.int 16)))) (sRaise0 "TooGreat")
  sDone)
  (sExpr (eMeth "Life" "go_on" m_Life_go_on (eV 0) (aCons (eMake "Net" m_Net_init (aCons (eShr (eUn (dFld "places") (eV 3))) (aCons (eShr (eBin dAdd (eUn (dFld "deeds") (eV 3)) (eTup (aCons (eTup (aCons (eV 1) (aCons (eV 2) aNil))) aNil)))) aNil))) (aCons (eV 4) (aCons (eTup (aCons (eC (.str "add")) (aCons (eV 1) (aCons (eV 2) aNil)))) aNil)))))))))
def m_Life_leave : MF := mDef [false, false] 2 ((sSeq (sAsg (eUn (dFld "present") (eV 0)) (gdTup 2 (gsCons (gdName 2) (gsCons (gdName 3) gsNil))))
  (sSeq (sExpr (eCall m_check_deed (aCons (eV 2) (aCons (eV 1) aNil))))
  (sExpr (eMeth "Life" "go_on" m_Life_go_on (eV 0) (aCons (eMake "Net" m_Net_init (aCons (eShr (eUn (dFld "places") (eV 2))) (aCons (eShr (eBin dAdd (eCut (eUn (dFld "deeds") (eV 2)) oNone (oSome (eV 1))) (eCut (eUn (dFld "deeds") (eV 2)) (oSome (eBin dAdd (eV 1) (eC (.int 1)))) oNone))) aNil))) (aCons (eV 3) (aCons (eTup (aCons (eC (.str "leave")) (aCons (eV 1) aNil))) aNil))))))))
def m__law_do : MF := mDef [false, false] 0 ((sSeq (sIf (tVal (eBin dEq (eBin dIx (eV 1) (eC (.int 0))) (eC (.str "do")))) (sRet (eMeth "Life" "do" m_Life_do (eV 0) (aCons (eBin dIx (eV 1) (eC (.int 1))) aNil)))
  sDone)
  (sSeq (sIf (tVal (eBin dEq (eBin dIx (eV 1) (eC (.int 0))) (eC (.str "leave")))) (sRet (eMeth "Life" "leave" m_Life_leave (eV 0) (aCons (eBin dIx (eV 1) (eC (.int 1))) aNil)))
  sDone)
  (sSeq (sIf (tVal (eBin dEq (eBin dIx (eV 1) (eC (.int 0))) (eC (.str "add")))) (sRet (eMeth "Life" "add" m_Life_add (eV 0) (aCons (eBin dIx (eV 1) (eC (.int 1))) (aCons (eBin dIx (eV 1) (eC (.int 2))) aNil))))
  sDone)
  (sRet (eIf (tVal (eBin dEq (eBin dIx (eV 1) (eC (.int 0))) (eC (.str "put")))) (eMeth "Life" "put" m_Life_put (eV 0) (aCons (eBin dIx (eV 1) (eC (.int 1))) (aCons (eBin dIx (eV 1) (eC (.int 2))) aNil))) (eMeth "Life" "take" m_Life_take (eV 0) (aCons (eBin dIx (eV 1) (eC (.int 1))) (aCons (eBin dIx (eV 1) (eC (.int 2))) aNil)))))))))
structure TX (P : Program) (K : PySem.W.Frag) (mg : Str → Option Value) where
  a_is_integer : Addr
  fd_is_integer : FuncData
  t_is_integer : Fun K "is_integer" "is_integer" s_is_integer a_is_integer fd_is_integer
  b_is_integer : Binds K fd_is_integer ["thing"] []
  g_is_integer : mg "is_integer" = some (.ref a_is_integer)
  a_is_within : Addr
  fd_is_within : FuncData
  t_is_within : Fun K "is_within" "is_within" s_is_within a_is_within fd_is_within
  b_is_within : Binds K fd_is_within ["thing", "least", "most"] []
  g_is_within : mg "is_within" = some (.ref a_is_within)
  a_is_tuple : Addr
  fd_is_tuple : FuncData
  t_is_tuple : Fun K "is_tuple" "is_tuple" s_is_tuple a_is_tuple fd_is_tuple
  b_is_tuple : Binds K fd_is_tuple ["thing", "least", "most"] []
  g_is_tuple : mg "is_tuple" = some (.ref a_is_tuple)
  a_Net_eq : Addr
  fd_Net_eq : FuncData
  t_Net_eq : Fun K "__eq__" "Net.__eq__" s_Net_eq a_Net_eq fd_Net_eq
  b_Net_eq : Binds K fd_Net_eq ["self", "other"] []
  a_is_counts : Addr
  fd_is_counts : FuncData
  t_is_counts : Fun K "is_counts" "is_counts" s_is_counts a_is_counts fd_is_counts
  b_is_counts : Binds K fd_is_counts ["places", "thing"] []
  g_is_counts : mg "is_counts" = some (.ref a_is_counts)
  a_is_mark : Addr
  fd_is_mark : FuncData
  t_is_mark : Fun K "is_mark" "is_mark" s_is_mark a_is_mark fd_is_mark
  b_is_mark : Binds K fd_is_mark ["net", "thing"] []
  g_is_mark : mg "is_mark" = some (.ref a_is_mark)
  a_check_mark : Addr
  fd_check_mark : FuncData
  t_check_mark : Fun K "check_mark" "check_mark" s_check_mark a_check_mark fd_check_mark
  b_check_mark : Binds K fd_check_mark ["net", "thing"] []
  g_check_mark : mg "check_mark" = some (.ref a_check_mark)
  a_check_deed : Addr
  fd_check_deed : FuncData
  t_check_deed : Fun K "check_deed" "check_deed" s_check_deed a_check_deed fd_check_deed
  b_check_deed : Binds K fd_check_deed ["net", "thing"] []
  g_check_deed : mg "check_deed" = some (.ref a_check_deed)
  a_can_do : Addr
  fd_can_do : FuncData
  t_can_do : Fun K "can_do" "can_do" s_can_do a_can_do fd_can_do
  b_can_do : Binds K fd_can_do ["net", "mark", "deed"] []
  g_can_do : mg "can_do" = some (.ref a_can_do)
  a_behind : Addr
  fd_behind : FuncData
  t_behind : Fun K "behind" "behind" s_behind a_behind fd_behind
  b_behind : Binds K fd_behind ["net", "mark", "deed"] []
  g_behind : mg "behind" = some (.ref a_behind)
  a_ready_of : Addr
  fd_ready_of : FuncData
  t_ready_of : Fun K "ready_of" "ready_of" s_ready_of a_ready_of fd_ready_of
  b_ready_of : Binds K fd_ready_of ["net", "mark"] []
  g_ready_of : mg "ready_of" = some (.ref a_ready_of)
  a_Life_init : Addr
  fd_Life_init : FuncData
  t_Life_init : Fun K "__init__" "Life.__init__" s_Life_init a_Life_init fd_Life_init
  b_Life_init : Binds K fd_Life_init ["self", "net", "mark"] []
  a_Life_go_on : Addr
  fd_Life_go_on : FuncData
  t_Life_go_on : Fun K "go_on" "Life.go_on" s_Life_go_on a_Life_go_on fd_Life_go_on
  b_Life_go_on : Binds K fd_Life_go_on ["self", "net", "mark", "word"] []
  a_Life_now : Addr
  fd_Life_now : FuncData
  t_Life_now : Fun K "now" "Life.now" s_Life_now a_Life_now fd_Life_now
  b_Life_now : Binds K fd_Life_now ["self"] []
  a_Life_do : Addr
  fd_Life_do : FuncData
  t_Life_do : Fun K "do" "Life.do" s_Life_do a_Life_do fd_Life_do
  b_Life_do : Binds K fd_Life_do ["self", "deed"] []
  a_Life_put : Addr
  fd_Life_put : FuncData
  t_Life_put : Fun K "put" "Life.put" s_Life_put a_Life_put fd_Life_put
  b_Life_put : Binds K fd_Life_put ["self", "place", "many"] []
  a_Life_take : Addr
  fd_Life_take : FuncData
  t_Life_take : Fun K "take" "Life.take" s_Life_take a_Life_take fd_Life_take
  b_Life_take : Binds K fd_Life_take ["self", "place", "many"] []
  a_Life_ready : Addr
  fd_Life_ready : FuncData
  t_Life_ready : Fun K "ready" "Life.ready" s_Life_ready a_Life_ready fd_Life_ready
  b_Life_ready : Binds K fd_Life_ready ["self"] []
  a_Life_tokens : Addr
  fd_Life_tokens : FuncData
  t_Life_tokens : Fun K "tokens" "Life.tokens" s_Life_tokens a_Life_tokens fd_Life_tokens
  b_Life_tokens : Binds K fd_Life_tokens ["self"] []
  a__law_hand : Addr
  fd__law_hand : FuncData
  t__law_hand : Fun K "_law_hand" "_law_hand" s__law_hand a__law_hand fd__law_hand
  b__law_hand : Binds K fd__law_hand ["script"] []
  g__law_hand : mg "_law_hand" = some (.ref a__law_hand)
  a__law_draw : Addr
  fd__law_draw : FuncData
  t__law_draw : Fun K "_law_draw" "_law_draw" s__law_draw a__law_draw fd__law_draw
  b__law_draw : Binds K fd__law_draw ["hand", "many"] []
  g__law_draw : mg "_law_draw" = some (.ref a__law_draw)
  a__law_some : Addr
  fd__law_some : FuncData
  t__law_some : Fun K "_law_some" "_law_some" s__law_some a__law_some fd__law_some
  b__law_some : Binds K fd__law_some ["hand", "things"] []
  g__law_some : mg "_law_some" = some (.ref a__law_some)
  a__law_is_int : Addr
  fd__law_is_int : FuncData
  t__law_is_int : Fun K "_law_is_int" "_law_is_int" s__law_is_int a__law_is_int fd__law_is_int
  b__law_is_int : Binds K fd__law_is_int ["thing", "least_now", "most"] []
  g__law_is_int : mg "_law_is_int" = some (.ref a__law_is_int)
  a__law_net : Addr
  fd__law_net : FuncData
  t__law_net : Fun K "_law_net" "_law_net" s__law_net a__law_net fd__law_net
  b__law_net : Binds K fd__law_net ["hand", "most"] []
  g__law_net : mg "_law_net" = some (.ref a__law_net)
  a__law_ready : Addr
  fd__law_ready : FuncData
  t__law_ready : Fun K "_law_ready" "_law_ready" s__law_ready a__law_ready fd__law_ready
  b__law_ready : Binds K fd__law_ready ["deeds", "mark"] []
  g__law_ready : mg "_law_ready" = some (.ref a__law_ready)
  a__law_is_deed : Addr
  fd__law_is_deed : FuncData
  t__law_is_deed : Fun K "_law_is_deed" "_law_is_deed" s__law_is_deed a__law_is_deed fd__law_is_deed
  b__law_is_deed : Binds K fd__law_is_deed ["places", "deed"] []
  g__law_is_deed : mg "_law_is_deed" = some (.ref a__law_is_deed)
  a__law_due : Addr
  fd__law_due : FuncData
  t__law_due : Fun K "_law_due" "_law_due" s__law_due a__law_due fd__law_due
  b__law_due : Binds K fd__law_due ["state", "act"] []
  g__law_due : mg "_law_due" = some (.ref a__law_due)
  a__law_act : Addr
  fd__law_act : FuncData
  t__law_act : Fun K "_law_act" "_law_act" s__law_act a__law_act fd__law_act
  b__law_act : Binds K fd__law_act ["hand", "state"] []
  g__law_act : mg "_law_act" = some (.ref a__law_act)
  a__law_is_like : Addr
  fd__law_is_like : FuncData
  t__law_is_like : Fun K "_law_is_like" "_law_is_like" s__law_is_like a__law_is_like fd__law_is_like
  b__law_is_like : Binds K fd__law_is_like ["life", "state"] []
  g__law_is_like : mg "_law_is_like" = some (.ref a__law_is_like)
  a_Net_init : Addr
  fd_Net_init : FuncData
  t_Net_init : Fun K "__init__" "Net.__init__" s_Net_init a_Net_init fd_Net_init
  b_Net_init : Binds K fd_Net_init ["self", "places", "deeds"] []
  a_Life_add : Addr
  fd_Life_add : FuncData
  t_Life_add : Fun K "add" "Life.add" s_Life_add a_Life_add fd_Life_add
  b_Life_add : Binds K fd_Life_add ["self", "takes", "puts"] []
  a_Life_leave : Addr
  fd_Life_leave : FuncData
  t_Life_leave : Fun K "leave" "Life.leave" s_Life_leave a_Life_leave fd_Life_leave
  b_Life_leave : Binds K fd_Life_leave ["self", "deed"] []
  a__law_do : Addr
  fd__law_do : FuncData
  t__law_do : Fun K "_law_do" "_law_do" s__law_do a__law_do fd__law_do
  b__law_do : Binds K fd__law_do ["life", "act"] []
  g__law_do : mg "_law_do" = some (.ref a__law_do)
  a__law_word : Addr
  fd__law_word : FuncData
  t__law_word : Fun K "_law_word" "_law_word" s__law_word a__law_word fd__law_word
  b__law_word : Binds K fd__law_word ["call"] []
  g__law_word : mg "_law_word" = some (.ref a__law_word)
  c_NetError : Addr
  g_NetError : mg "NetError" = some (.ref c_NetError)
  c_BadNet : Addr
  g_BadNet : mg "BadNet" = some (.ref c_BadNet)
  xa_BadNet : Addr
  x_BadNet : PySem.DXC.XTxt K P c_BadNet xa_BadNet s_BadNet_init
  xn_BadNet : PySem.W.findIn K (.ref c_BadNet) "part" = some none
  c_NotReady : Addr
  g_NotReady : mg "NotReady" = some (.ref c_NotReady)
  xa_NotReady : Addr
  x_NotReady : PySem.DXC.XTxt K P c_NotReady xa_NotReady s_NotReady_init
  xn_NotReady : PySem.W.findIn K (.ref c_NotReady) "at" = some none
  c_NoDeed : Addr
  g_NoDeed : mg "NoDeed" = some (.ref c_NoDeed)
  xa_NoDeed : Addr
  x_NoDeed : PySem.DXC.XTxt K P c_NoDeed xa_NoDeed s_NoDeed_init
  c_NoMark : Addr
  g_NoMark : mg "NoMark" = some (.ref c_NoMark)
  xa_NoMark : Addr
  x_NoMark : PySem.DXC.XTxt K P c_NoMark xa_NoMark s_NoMark_init
  c_NoNumber : Addr
  g_NoNumber : mg "NoNumber" = some (.ref c_NoNumber)
  xa_NoNumber : Addr
  x_NoNumber : PySem.DXC.XTxt K P c_NoNumber xa_NoNumber s_NoNumber_init
  c_TooGreat : Addr
  g_TooGreat : mg "TooGreat" = some (.ref c_TooGreat)
  xa_TooGreat : Addr
  x_TooGreat : PySem.DXC.XTxt K P c_TooGreat xa_TooGreat s_TooGreat_init
  c_NothingDone : Addr
  g_NothingDone : mg "NothingDone" = some (.ref c_NothingDone)
  xa_NothingDone : Addr
  x_NothingDone : PySem.DXC.XTxt K P c_NothingDone xa_NothingDone s_NothingDone_init
  c_Net : Addr
  g_Net : mg "Net" = some (.ref c_Net)
  m_Net : Mk K c_Net a_Net_init
  i_Net : InsC K c_Net
  e_Net : EqC K c_Net a_Net_eq
  na_Net_places : ∀ C, mg "Net" = some (.ref C) → NoAttr K C "places"
  na_Net_deeds : ∀ C, mg "Net" = some (.ref C) → NoAttr K C "deeds"
  c_Life : Addr
  g_Life : mg "Life" = some (.ref c_Life)
  m_Life : Mk K c_Life a_Life_init
  i_Life : InsC K c_Life
  me_Life_go_on : Meth K c_Life "go_on" a_Life_go_on
  me_Life_now : Meth K c_Life "now" a_Life_now
  me_Life_do : Meth K c_Life "do" a_Life_do
  me_Life_put : Meth K c_Life "put" a_Life_put
  me_Life_take : Meth K c_Life "take" a_Life_take
  me_Life_add : Meth K c_Life "add" a_Life_add
  me_Life_leave : Meth K c_Life "leave" a_Life_leave
  me_Life_ready : Meth K c_Life "ready" a_Life_ready
  me_Life_tokens : Meth K c_Life "tokens" a_Life_tokens
  na_Life_present : ∀ C, mg "Life" = some (.ref C) → NoAttr K C "present"
  na_Life_elders : ∀ C, mg "Life" = some (.ref C) → NoAttr K C "elders"
  na_Life_said : ∀ C, mg "Life" = some (.ref C) → NoAttr K C "said"
  k_MOST_PLACES : Tok
  g_MOST_PLACES : mg "MOST_PLACES" = some (.int 12 k_MOST_PLACES)
  k_MOST_DEEDS : Tok
  g_MOST_DEEDS : mg "MOST_DEEDS" = some (.int 16 k_MOST_DEEDS)
  k_MOST_TAKEN : Tok
  g_MOST_TAKEN : mg "MOST_TAKEN" = some (.int 9 k_MOST_TAKEN)
  k_MOST_TOKENS : Tok
  g_MOST_TOKENS : mg "MOST_TOKENS" = some (.int 1000000 k_MOST_TOKENS)
  n_abs : mg "abs" = none
  n_all : mg "all" = none
  n_bool : mg "bool" = none
  n_enumerate : mg "enumerate" = none
  n_int : mg "int" = none
  n_isinstance : mg "isinstance" = none
  n_len : mg "len" = none
  n_list : mg "list" = none
  n_max : mg "max" = none
  n_range : mg "range" = none
  n_repr : mg "repr" = none
  n_sum : mg "sum" = none
  n_super : mg "super" = none
  n_tuple : mg "tuple" = none
  n_zip : mg "zip" = none
  k_Net : Asks K mg (.ref c_Net) yesT_Net yesC_Net
  k_bool : Asks K mg (.type "bool") yesT_bool yesC_bool
  k_int : Asks K mg (.type "int") yesT_int yesC_int
  k_tuple : Asks K mg (.type "tuple") yesT_tuple yesC_tuple
theorem sc__law_word : FnScope ["call", "word", "error", "flags"] ["call"] (defScope s__law_word) := ⟨rfl, rfl, rfl, by decide +kernel, rfl, by decide +kernel, by decide +kernel⟩
theorem x1_BadNet : PySem.DXC.X1 s_BadNet_init "part" := ⟨⟨_, _, _, _, _, _, _, _, _, _, _, _, rfl, fun _ _ _ _ _ => ⟨rfl, rfl, _, rfl⟩⟩, ⟨rfl, rfl, rfl, rfl⟩, rfl, by decide, rfl, ⟨_, _, rfl⟩, fun _ _ _ _ _ _ _ _ _ _ => rfl, by decide +kernel, rfl, rfl⟩
theorem x1_NotReady : PySem.DXC.X1 s_NotReady_init "at" := ⟨⟨_, _, _, _, _, _, _, _, _, _, _, _, rfl, fun _ _ _ _ _ => ⟨rfl, rfl, _, rfl⟩⟩, ⟨rfl, rfl, rfl, rfl⟩, rfl, by decide, rfl, ⟨_, _, rfl⟩, fun _ _ _ _ _ _ _ _ _ _ => rfl, by decide +kernel, rfl, rfl⟩
theorem x0_NoDeed : PySem.DXC.X0 s_NoDeed_init := ⟨⟨_, _, _, _, _, _, _, _, rfl, fun _ _ _ _ _ => ⟨rfl, rfl, _, rfl⟩⟩, ⟨rfl, rfl, rfl, rfl⟩, ⟨_, rfl⟩, fun _ _ _ _ _ _ _ _ _ => rfl, by decide +kernel, rfl, rfl⟩
theorem x0_NoMark : PySem.DXC.X0 s_NoMark_init := ⟨⟨_, _, _, _, _, _, _, _, rfl, fun _ _ _ _ _ => ⟨rfl, rfl, _, rfl⟩⟩, ⟨rfl, rfl, rfl, rfl⟩, ⟨_, rfl⟩, fun _ _ _ _ _ _ _ _ _ => rfl, by decide +kernel, rfl, rfl⟩
theorem x0_NoNumber : PySem.DXC.X0 s_NoNumber_init := ⟨⟨_, _, _, _, _, _, _, _, rfl, fun _ _ _ _ _ => ⟨rfl, rfl, _, rfl⟩⟩, ⟨rfl, rfl, rfl, rfl⟩, ⟨_, rfl⟩, fun _ _ _ _ _ _ _ _ _ => rfl, by decide +kernel, rfl, rfl⟩
theorem x0_TooGreat : PySem.DXC.X0 s_TooGreat_init := ⟨⟨_, _, _, _, _, _, _, _, rfl, fun _ _ _ _ _ => ⟨rfl, rfl, _, rfl⟩⟩, ⟨rfl, rfl, rfl, rfl⟩, ⟨_, rfl⟩, fun _ _ _ _ _ _ _ _ _ => rfl, by decide +kernel, rfl, rfl⟩
theorem x0_NothingDone : PySem.DXC.X0 s_NothingDone_init := ⟨⟨_, _, _, _, _, _, _, _, rfl, fun _ _ _ _ _ => ⟨rfl, rfl, _, rfl⟩⟩, ⟨rfl, rfl, rfl, rfl⟩, ⟨_, rfl⟩, fun _ _ _ _ _ _ _ _ _ => rfl, by decide +kernel, rfl, rfl⟩
def qL : Str := "law.<locals>.<lambda>"
end Toy
namespace Toy
open PySem PySem.Spec PyProof.Rows L2 DL LamX
def isx_NetError : Str → Option Bool := fun n => if n ∈ (["NetError", "BadNet", "NotReady", "NoDeed", "NoMark", "NoNumber", "TooGreat", "NothingDone"] : List Str) then some true else none
def yesX_NoDeed : Str → Option Bool := fun n => if n ∈ (["NoDeed"] : List Str) then some true else if n ∈ (["NetError", "BadNet", "NotReady", "NoMark", "NoNumber", "TooGreat", "NothingDone"] : List Str) then some false else none
theorem yv_NoDeed_NetError : yesX_NoDeed "NetError" = some false := by decide +kernel
theorem yv_NoDeed_BadNet : yesX_NoDeed "BadNet" = some false := by decide +kernel
theorem yv_NoDeed_NotReady : yesX_NoDeed "NotReady" = some false := by decide +kernel
theorem yv_NoDeed_NoDeed : yesX_NoDeed "NoDeed" = some true := by decide +kernel
theorem yv_NoDeed_NoMark : yesX_NoDeed "NoMark" = some false := by decide +kernel
theorem yv_NoDeed_NoNumber : yesX_NoDeed "NoNumber" = some false := by decide +kernel
theorem yv_NoDeed_TooGreat : yesX_NoDeed "TooGreat" = some false := by decide +kernel
theorem yv_NoDeed_NothingDone : yesX_NoDeed "NothingDone" = some false := by decide +kernel
def yesX_NoMark : Str → Option Bool := fun n => if n ∈ (["NoMark"] : List Str) then some true else if n ∈ (["NetError", "BadNet", "NotReady", "NoDeed", "NoNumber", "TooGreat", "NothingDone"] : List Str) then some false else none
theorem yv_NoMark_NetError : yesX_NoMark "NetError" = some false := by decide +kernel
theorem yv_NoMark_BadNet : yesX_NoMark "BadNet" = some false := by decide +kernel
theorem yv_NoMark_NotReady : yesX_NoMark "NotReady" = some false := by decide +kernel
theorem yv_NoMark_NoDeed : yesX_NoMark "NoDeed" = some false := by decide +kernel
theorem yv_NoMark_NoMark : yesX_NoMark "NoMark" = some true := by decide +kernel
theorem yv_NoMark_NoNumber : yesX_NoMark "NoNumber" = some false := by decide +kernel
theorem yv_NoMark_TooGreat : yesX_NoMark "TooGreat" = some false := by decide +kernel
theorem yv_NoMark_NothingDone : yesX_NoMark "NothingDone" = some false := by decide +kernel
def yesX_NoNumber : Str → Option Bool := fun n => if n ∈ (["NoNumber"] : List Str) then some true else if n ∈ (["NetError", "BadNet", "NotReady", "NoDeed", "NoMark", "TooGreat", "NothingDone"] : List Str) then some false else none
theorem yv_NoNumber_NetError : yesX_NoNumber "NetError" = some false := by decide +kernel
theorem yv_NoNumber_BadNet : yesX_NoNumber "BadNet" = some false := by decide +kernel
theorem yv_NoNumber_NotReady : yesX_NoNumber "NotReady" = some false := by decide +kernel
theorem yv_NoNumber_NoDeed : yesX_NoNumber "NoDeed" = some false := by decide +kernel
theorem yv_NoNumber_NoMark : yesX_NoNumber "NoMark" = some false := by decide +kernel
theorem yv_NoNumber_NoNumber : yesX_NoNumber "NoNumber" = some true := by decide +kernel
theorem yv_NoNumber_TooGreat : yesX_NoNumber "TooGreat" = some false := by decide +kernel
theorem yv_NoNumber_NothingDone : yesX_NoNumber "NothingDone" = some false := by decide +kernel
def yesX_NotReady : Str → Option Bool := fun n => if n ∈ (["NotReady"] : List Str) then some true else if n ∈ (["NetError", "BadNet", "NoDeed", "NoMark", "NoNumber", "TooGreat", "NothingDone"] : List Str) then some false else none
theorem yv_NotReady_NetError : yesX_NotReady "NetError" = some false := by decide +kernel
theorem yv_NotReady_BadNet : yesX_NotReady "BadNet" = some false := by decide +kernel
theorem yv_NotReady_NotReady : yesX_NotReady "NotReady" = some true := by decide +kernel
theorem yv_NotReady_NoDeed : yesX_NotReady "NoDeed" = some false := by decide +kernel
theorem yv_NotReady_NoMark : yesX_NotReady "NoMark" = some false := by decide +kernel
theorem yv_NotReady_NoNumber : yesX_NotReady "NoNumber" = some false := by decide +kernel
theorem yv_NotReady_TooGreat : yesX_NotReady "TooGreat" = some false := by decide +kernel
theorem yv_NotReady_NothingDone : yesX_NotReady "NothingDone" = some false := by decide +kernel
def yesX_NothingDone : Str → Option Bool := fun n => if n ∈ (["NothingDone"] : List Str) then some true else if n ∈ (["NetError", "BadNet", "NotReady", "NoDeed", "NoMark", "NoNumber", "TooGreat"] : List Str) then some false else none
theorem yv_NothingDone_NetError : yesX_NothingDone "NetError" = some false := by decide +kernel
theorem yv_NothingDone_BadNet : yesX_NothingDone "BadNet" = some false := by decide +kernel
theorem yv_NothingDone_NotReady : yesX_NothingDone "NotReady" = some false := by decide +kernel
theorem yv_NothingDone_NoDeed : yesX_NothingDone "NoDeed" = some false := by decide +kernel
theorem yv_NothingDone_NoMark : yesX_NothingDone "NoMark" = some false := by decide +kernel
theorem yv_NothingDone_NoNumber : yesX_NothingDone "NoNumber" = some false := by decide +kernel
theorem yv_NothingDone_TooGreat : yesX_NothingDone "TooGreat" = some false := by decide +kernel
theorem yv_NothingDone_NothingDone : yesX_NothingDone "NothingDone" = some true := by decide +kernel
def yesX_TooGreat : Str → Option Bool := fun n => if n ∈ (["TooGreat"] : List Str) then some true else if n ∈ (["NetError", "BadNet", "NotReady", "NoDeed", "NoMark", "NoNumber", "NothingDone"] : List Str) then some false else none
theorem yv_TooGreat_NetError : yesX_TooGreat "NetError" = some false := by decide +kernel
theorem yv_TooGreat_BadNet : yesX_TooGreat "BadNet" = some false := by decide +kernel
theorem yv_TooGreat_NotReady : yesX_TooGreat "NotReady" = some false := by decide +kernel
theorem yv_TooGreat_NoDeed : yesX_TooGreat "NoDeed" = some false := by decide +kernel
theorem yv_TooGreat_NoMark : yesX_TooGreat "NoMark" = some false := by decide +kernel
theorem yv_TooGreat_NoNumber : yesX_TooGreat "NoNumber" = some false := by decide +kernel
theorem yv_TooGreat_TooGreat : yesX_TooGreat "TooGreat" = some true := by decide +kernel
theorem yv_TooGreat_NothingDone : yesX_TooGreat "NothingDone" = some false := by decide +kernel
def yesX_ValueError : Str → Option Bool := fun n => if n ∈ (["NetError", "BadNet", "NotReady", "NoDeed", "NoMark", "NoNumber", "TooGreat", "NothingDone"] : List Str) then some true else none
theorem yv_ValueError_NetError : yesX_ValueError "NetError" = some true := by decide +kernel
theorem yv_ValueError_BadNet : yesX_ValueError "BadNet" = some true := by decide +kernel
theorem yv_ValueError_NotReady : yesX_ValueError "NotReady" = some true := by decide +kernel
theorem yv_ValueError_NoDeed : yesX_ValueError "NoDeed" = some true := by decide +kernel
theorem yv_ValueError_NoMark : yesX_ValueError "NoMark" = some true := by decide +kernel
theorem yv_ValueError_NoNumber : yesX_ValueError "NoNumber" = some true := by decide +kernel
theorem yv_ValueError_TooGreat : yesX_ValueError "TooGreat" = some true := by decide +kernel
theorem yv_ValueError_NothingDone : yesX_ValueError "NothingDone" = some true := by decide +kernel
theorem iv_NetError : isx_NetError "NetError" = some true := by decide +kernel
theorem iv_BadNet : isx_NetError "BadNet" = some true := by decide +kernel
theorem iv_NotReady : isx_NetError "NotReady" = some true := by decide +kernel
theorem iv_NoDeed : isx_NetError "NoDeed" = some true := by decide +kernel
theorem iv_NoMark : isx_NetError "NoMark" = some true := by decide +kernel
theorem iv_NoNumber : isx_NetError "NoNumber" = some true := by decide +kernel
theorem iv_TooGreat : isx_NetError "TooGreat" = some true := by decide +kernel
theorem iv_NothingDone : isx_NetError "NothingDone" = some true := by decide +kernel
structure TX2 (P : Program) (K : PySem.W.Frag) (mg : Str → Option Value) (T : TX P K mg) : Prop where
  n_ValueError : mg "ValueError" = none
  xm_NetError : ∀ c C b, isx_NetError c = some b → mg c = some (.ref C) → PySem.W.exmOne K (.ref C) (.ref T.c_NetError) = some b
  xe : ∀ c C, isx_NetError c = some true → mg c = some (.ref C) → ExcC K C
  xf : ∀ c C, isx_NetError c = some true → mg c = some (.ref C) → XfC K C
  xn_at : ∀ c C, isx_NetError c = some true → mg c = some (.ref C) → PySem.W.findIn K (.ref C) "at" = some none
  kx_NoDeed : Asks K mg (.ref T.c_NoDeed) (fun _ => none) yesX_NoDeed
  kx_NoMark : Asks K mg (.ref T.c_NoMark) (fun _ => none) yesX_NoMark
  kx_NoNumber : Asks K mg (.ref T.c_NoNumber) (fun _ => none) yesX_NoNumber
  kx_NotReady : Asks K mg (.ref T.c_NotReady) (fun _ => none) yesX_NotReady
  kx_NothingDone : Asks K mg (.ref T.c_NothingDone) (fun _ => none) yesX_NothingDone
  kx_TooGreat : Asks K mg (.ref T.c_TooGreat) (fun _ => none) yesX_TooGreat
  kx_ValueError : Asks K mg (.type "ValueError") (fun _ => none) yesX_ValueError
theorem isx_mem {c : Str} (h : isx_NetError c = some true) : c = "NetError" ∨ c = "BadNet" ∨ c = "NotReady" ∨ c = "NoDeed" ∨ c = "NoMark" ∨ c = "NoNumber" ∨ c = "TooGreat" ∨ c = "NothingDone" := by
  unfold isx_NetError at h
  split at h
  · rename_i hh; simpa using hh
  · cases h
theorem so_0 : PyData.strOk ("deed" : Str) = true := by decide +kernel
theorem sb_0_1 : (("deed" : Str) == "great") = false := by decide +kernel
theorem sn_0_1 : ¬ (("deed" : Str) = "great") := by decide +kernel
theorem sb_0_2 : (("deed" : Str) == "mark") = false := by decide +kernel
theorem sn_0_2 : ¬ (("deed" : Str) = "mark") := by decide +kernel
theorem sb_0_3 : (("deed" : Str) == "nothing") = false := by decide +kernel
theorem sn_0_3 : ¬ (("deed" : Str) = "nothing") := by decide +kernel
theorem sb_0_4 : (("deed" : Str) == "number") = false := by decide +kernel
theorem sn_0_4 : ¬ (("deed" : Str) = "number") := by decide +kernel
theorem sb_0_5 : (("deed" : Str) == "other") = false := by decide +kernel
theorem sn_0_5 : ¬ (("deed" : Str) = "other") := by decide +kernel
theorem sb_0_6 : (("deed" : Str) == "ready") = false := by decide +kernel
theorem sn_0_6 : ¬ (("deed" : Str) = "ready") := by decide +kernel
theorem sb_0_7 : (("deed" : Str) == "told") = false := by decide +kernel
theorem sn_0_7 : ¬ (("deed" : Str) = "told") := by decide +kernel
theorem so_1 : PyData.strOk ("great" : Str) = true := by decide +kernel
theorem sb_1_0 : (("great" : Str) == "deed") = false := by decide +kernel
theorem sn_1_0 : ¬ (("great" : Str) = "deed") := by decide +kernel
theorem sb_1_2 : (("great" : Str) == "mark") = false := by decide +kernel
theorem sn_1_2 : ¬ (("great" : Str) = "mark") := by decide +kernel
theorem sb_1_3 : (("great" : Str) == "nothing") = false := by decide +kernel
theorem sn_1_3 : ¬ (("great" : Str) = "nothing") := by decide +kernel
theorem sb_1_4 : (("great" : Str) == "number") = false := by decide +kernel
theorem sn_1_4 : ¬ (("great" : Str) = "number") := by decide +kernel
theorem sb_1_5 : (("great" : Str) == "other") = false := by decide +kernel
theorem sn_1_5 : ¬ (("great" : Str) = "other") := by decide +kernel
theorem sb_1_6 : (("great" : Str) == "ready") = false := by decide +kernel
theorem sn_1_6 : ¬ (("great" : Str) = "ready") := by decide +kernel
theorem sb_1_7 : (("great" : Str) == "told") = false := by decide +kernel
theorem sn_1_7 : ¬ (("great" : Str) = "told") := by decide +kernel
theorem so_2 : PyData.strOk ("mark" : Str) = true := by decide +kernel
theorem sb_2_0 : (("mark" : Str) == "deed") = false := by decide +kernel
theorem sn_2_0 : ¬ (("mark" : Str) = "deed") := by decide +kernel
theorem sb_2_1 : (("mark" : Str) == "great") = false := by decide +kernel
theorem sn_2_1 : ¬ (("mark" : Str) = "great") := by decide +kernel
theorem sb_2_3 : (("mark" : Str) == "nothing") = false := by decide +kernel
theorem sn_2_3 : ¬ (("mark" : Str) = "nothing") := by decide +kernel
theorem sb_2_4 : (("mark" : Str) == "number") = false := by decide +kernel
theorem sn_2_4 : ¬ (("mark" : Str) = "number") := by decide +kernel
theorem sb_2_5 : (("mark" : Str) == "other") = false := by decide +kernel
theorem sn_2_5 : ¬ (("mark" : Str) = "other") := by decide +kernel
theorem sb_2_6 : (("mark" : Str) == "ready") = false := by decide +kernel
theorem sn_2_6 : ¬ (("mark" : Str) = "ready") := by decide +kernel
theorem sb_2_7 : (("mark" : Str) == "told") = false := by decide +kernel
theorem sn_2_7 : ¬ (("mark" : Str) = "told") := by decide +kernel
theorem so_3 : PyData.strOk ("nothing" : Str) = true := by decide +kernel
theorem sb_3_0 : (("nothing" : Str) == "deed") = false := by decide +kernel
theorem sn_3_0 : ¬ (("nothing" : Str) = "deed") := by decide +kernel
theorem sb_3_1 : (("nothing" : Str) == "great") = false := by decide +kernel
theorem sn_3_1 : ¬ (("nothing" : Str) = "great") := by decide +kernel
theorem sb_3_2 : (("nothing" : Str) == "mark") = false := by decide +kernel
theorem sn_3_2 : ¬ (("nothing" : Str) = "mark") := by decide +kernel
theorem sb_3_4 : (("nothing" : Str) == "number") = false := by decide +kernel
theorem sn_3_4 : ¬ (("nothing" : Str) = "number") := by decide +kernel
theorem sb_3_5 : (("nothing" : Str) == "other") = false := by decide +kernel
theorem sn_3_5 : ¬ (("nothing" : Str) = "other") := by decide +kernel
theorem sb_3_6 : (("nothing" : Str) == "ready") = false := by decide +kernel
theorem sn_3_6 : ¬ (("nothing" : Str) = "ready") := by decide +kernel
theorem sb_3_7 : (("nothing" : Str) == "told") = false := by decide +kernel
theorem sn_3_7 : ¬ (("nothing" : Str) = "told") := by decide +kernel
theorem so_4 : PyData.strOk ("number" : Str) = true := by decide +kernel
theorem sb_4_0 : (("number" : Str) == "deed") = false := by decide +kernel
theorem sn_4_0 : ¬ (("number" : Str) = "deed") := by decide +kernel
theorem sb_4_1 : (("number" : Str) == "great") = false := by decide +kernel
theorem sn_4_1 : ¬ (("number" : Str) = "great") := by decide +kernel
theorem sb_4_2 : (("number" : Str) == "mark") = false := by decide +kernel
theorem sn_4_2 : ¬ (("number" : Str) = "mark") := by decide +kernel
theorem sb_4_3 : (("number" : Str) == "nothing") = false := by decide +kernel
theorem sn_4_3 : ¬ (("number" : Str) = "nothing") := by decide +kernel
theorem sb_4_5 : (("number" : Str) == "other") = false := by decide +kernel
theorem sn_4_5 : ¬ (("number" : Str) = "other") := by decide +kernel
theorem sb_4_6 : (("number" : Str) == "ready") = false := by decide +kernel
theorem sn_4_6 : ¬ (("number" : Str) = "ready") := by decide +kernel
theorem sb_4_7 : (("number" : Str) == "told") = false := by decide +kernel
theorem sn_4_7 : ¬ (("number" : Str) = "told") := by decide +kernel
theorem so_5 : PyData.strOk ("other" : Str) = true := by decide +kernel
theorem sb_5_0 : (("other" : Str) == "deed") = false := by decide +kernel
theorem sn_5_0 : ¬ (("other" : Str) = "deed") := by decide +kernel
theorem sb_5_1 : (("other" : Str) == "great") = false := by decide +kernel
theorem sn_5_1 : ¬ (("other" : Str) = "great") := by decide +kernel
theorem sb_5_2 : (("other" : Str) == "mark") = false := by decide +kernel
theorem sn_5_2 : ¬ (("other" : Str) = "mark") := by decide +kernel
theorem sb_5_3 : (("other" : Str) == "nothing") = false := by decide +kernel
theorem sn_5_3 : ¬ (("other" : Str) = "nothing") := by decide +kernel
theorem sb_5_4 : (("other" : Str) == "number") = false := by decide +kernel
theorem sn_5_4 : ¬ (("other" : Str) = "number") := by decide +kernel
theorem sb_5_6 : (("other" : Str) == "ready") = false := by decide +kernel
theorem sn_5_6 : ¬ (("other" : Str) = "ready") := by decide +kernel
theorem sb_5_7 : (("other" : Str) == "told") = false := by decide +kernel
theorem sn_5_7 : ¬ (("other" : Str) = "told") := by decide +kernel
theorem so_6 : PyData.strOk ("ready" : Str) = true := by decide +kernel
theorem sb_6_0 : (("ready" : Str) == "deed") = false := by decide +kernel
theorem sn_6_0 : ¬ (("ready" : Str) = "deed") := by decide +kernel
theorem sb_6_1 : (("ready" : Str) == "great") = false := by decide +kernel
theorem sn_6_1 : ¬ (("ready" : Str) = "great") := by decide +kernel
theorem sb_6_2 : (("ready" : Str) == "mark") = false := by decide +kernel
theorem sn_6_2 : ¬ (("ready" : Str) = "mark") := by decide +kernel
theorem sb_6_3 : (("ready" : Str) == "nothing") = false := by decide +kernel
theorem sn_6_3 : ¬ (("ready" : Str) = "nothing") := by decide +kernel
theorem sb_6_4 : (("ready" : Str) == "number") = false := by decide +kernel
theorem sn_6_4 : ¬ (("ready" : Str) = "number") := by decide +kernel
theorem sb_6_5 : (("ready" : Str) == "other") = false := by decide +kernel
theorem sn_6_5 : ¬ (("ready" : Str) = "other") := by decide +kernel
theorem sb_6_7 : (("ready" : Str) == "told") = false := by decide +kernel
theorem sn_6_7 : ¬ (("ready" : Str) = "told") := by decide +kernel
theorem so_7 : PyData.strOk ("told" : Str) = true := by decide +kernel
theorem sb_7_0 : (("told" : Str) == "deed") = false := by decide +kernel
theorem sn_7_0 : ¬ (("told" : Str) = "deed") := by decide +kernel
theorem sb_7_1 : (("told" : Str) == "great") = false := by decide +kernel
theorem sn_7_1 : ¬ (("told" : Str) = "great") := by decide +kernel
theorem sb_7_2 : (("told" : Str) == "mark") = false := by decide +kernel
theorem sn_7_2 : ¬ (("told" : Str) = "mark") := by decide +kernel
theorem sb_7_3 : (("told" : Str) == "nothing") = false := by decide +kernel
theorem sn_7_3 : ¬ (("told" : Str) = "nothing") := by decide +kernel
theorem sb_7_4 : (("told" : Str) == "number") = false := by decide +kernel
theorem sn_7_4 : ¬ (("told" : Str) = "number") := by decide +kernel
theorem sb_7_5 : (("told" : Str) == "other") = false := by decide +kernel
theorem sn_7_5 : ¬ (("told" : Str) = "other") := by decide +kernel
theorem sb_7_6 : (("told" : Str) == "ready") = false := by decide +kernel
theorem sn_7_6 : ¬ (("told" : Str) = "ready") := by decide +kernel
def ok_word : En → Bool := fun σ => match σ with
  | [_, some (.str z0), _, _] => decide (z0 = ("other" : Str))
  | _ => false
def hf_word (a : Addr) (d : Option Addr) (c : Str) : SF := (sSeq (sSet 3 (eLst (aCons (eShr (eUn (dIsXd a d c yesX_NoDeed) (eV 2))) (aCons (eShr (eUn (dIsXd a d c yesX_NoMark) (eV 2))) (aCons (eShr (eUn (dIsXd a d c yesX_NoNumber) (eV 2))) (aCons (eShr (eUn (dIsXd a d c yesX_NotReady) (eV 2))) aNil))))))
  (sSeq (sSet 3 (eBin dAdd (eV 3) (eLst (aCons (eShr (eUn (dIsXd a d c yesX_NothingDone) (eV 2))) (aCons (eShr (eUn (dIsXd a d c yesX_TooGreat) (eV 2))) aNil)))))
  (sSeq (sIf (tAndD (tVal (eBin dEq (eMq (eV 3) (aCons (eC (.bl true)) aNil) mCnt) (eC (.int 1)))) (tVal (eUn (dIsXd a d c yesX_ValueError) (eV 2)))) (sSet 1 (eBin dIx (eLst (aCons (eC (.str "deed")) (aCons (eC (.str "mark")) (aCons (eC (.str "number")) (aCons (eC (.str "ready")) (aCons (eC (.str "nothing")) (aCons (eC (.str "great")) aNil))))))) (eMq (eV 3) (aCons (eC (.bl true)) aNil) mIdx)))
  sDone)
  (sIf (tVal (eBin dEq (eV 1) (eC (.str "ready")))) (sSet 1 (eTup (aCons (eV 1) (aCons (eUn (dXf a d c "at") (eV 2)) aNil))))
  sDone))))
theorem hind_word : HInd 2 ok_word isx_NetError hf_word := by
  intro a dd c ks vs σ hx hl
  unfold ok_word at hl
  split at hl
  · simp only [Bool.and_eq_true, decide_eq_true_eq] at hl
    try obtain rfl := hl
    rcases isx_mem hx with rfl | rfl | rfl | rfl | rfl | rfl | rfl | rfl <;> by_cases hk : ks = [] <;> cases hk0 : lookK "at" ks vs <;> simp [hf_word, sSeq_ap, dIsXd_own, dXf_own, hk, mCnt, mIdx, flatD, dV, eqV, findV, dEq, dNe, toP, toPL, SeqAt.shaped, PyData.canLay0, PyData.canLayAll0, PyData.depth, PyData.depthAll, PyData.eqv, PyData.eqvAll, so_0, sb_0_1, sn_0_1, sb_0_2, sn_0_2, sb_0_3, sn_0_3, sb_0_4, sn_0_4, sb_0_5, sn_0_5, sb_0_6, sn_0_6, sb_0_7, sn_0_7, so_1, sb_1_0, sn_1_0, sb_1_2, sn_1_2, sb_1_3, sn_1_3, sb_1_4, sn_1_4, sb_1_5, sn_1_5, sb_1_6, sn_1_6, sb_1_7, sn_1_7, so_2, sb_2_0, sn_2_0, sb_2_1, sn_2_1, sb_2_3, sn_2_3, sb_2_4, sn_2_4, sb_2_5, sn_2_5, sb_2_6, sn_2_6, sb_2_7, sn_2_7, so_3, sb_3_0, sn_3_0, sb_3_1, sn_3_1, sb_3_2, sn_3_2, sb_3_4, sn_3_4, sb_3_5, sn_3_5, sb_3_6, sn_3_6, sb_3_7, sn_3_7, so_4, sb_4_0, sn_4_0, sb_4_1, sn_4_1, sb_4_2, sn_4_2, sb_4_3, sn_4_3, sb_4_5, sn_4_5, sb_4_6, sn_4_6, sb_4_7, sn_4_7, so_5, sb_5_0, sn_5_0, sb_5_1, sn_5_1, sb_5_2, sn_5_2, sb_5_3, sn_5_3, sb_5_4, sn_5_4, sb_5_6, sn_5_6, sb_5_7, sn_5_7, so_6, sb_6_0, sn_6_0, sb_6_1, sn_6_1, sb_6_2, sn_6_2, sb_6_3, sn_6_3, sb_6_4, sn_6_4, sb_6_5, sn_6_5, sb_6_7, sn_6_7, so_7, sb_7_0, sn_7_0, sb_7_1, sn_7_1, sb_7_2, sn_7_2, sb_7_3, sn_7_3, sb_7_4, sn_7_4, sb_7_5, sn_7_5, sb_7_6, sn_7_6, yv_NoDeed_NetError, yv_NoDeed_BadNet, yv_NoDeed_NotReady, yv_NoDeed_NoDeed, yv_NoDeed_NoMark, yv_NoDeed_NoNumber, yv_NoDeed_TooGreat, yv_NoDeed_NothingDone, yv_NoMark_NetError, yv_NoMark_BadNet, yv_NoMark_NotReady, yv_NoMark_NoDeed, yv_NoMark_NoMark, yv_NoMark_NoNumber, yv_NoMark_TooGreat, yv_NoMark_NothingDone, yv_NoNumber_NetError, yv_NoNumber_BadNet, yv_NoNumber_NotReady, yv_NoNumber_NoDeed, yv_NoNumber_NoMark, yv_NoNumber_NoNumber, yv_NoNumber_TooGreat, yv_NoNumber_NothingDone, yv_NotReady_NetError, yv_NotReady_BadNet, yv_NotReady_NotReady, yv_NotReady_NoDeed, yv_NotReady_NoMark, yv_NotReady_NoNumber, yv_NotReady_TooGreat, yv_NotReady_NothingDone, yv_NothingDone_NetError, yv_NothingDone_BadNet, yv_NothingDone_NotReady, yv_NothingDone_NoDeed, yv_NothingDone_NoMark, yv_NothingDone_NoNumber, yv_NothingDone_TooGreat, yv_NothingDone_NothingDone, yv_TooGreat_NetError, yv_TooGreat_BadNet, yv_TooGreat_NotReady, yv_TooGreat_NoDeed, yv_TooGreat_NoMark, yv_TooGreat_NoNumber, yv_TooGreat_TooGreat, yv_TooGreat_NothingDone, yv_ValueError_NetError, yv_ValueError_BadNet, yv_ValueError_NotReady, yv_ValueError_NoDeed, yv_ValueError_NoMark, yv_ValueError_NoNumber, yv_ValueError_TooGreat, yv_ValueError_NothingDone, iv_NetError, iv_BadNet, iv_NotReady, iv_NoDeed, iv_NoMark, iv_NoNumber, iv_TooGreat, iv_NothingDone, hk0]
  · cases hl
def bq_word (cl : EF) : SF := (sSeq (sSet 1 (eC (.str "other")))
  (sSeq (sTry 2 ok_word isx_NetError (sSet 1 (eTup (aCons (eC (.str "told")) (aCons cl aNil)))) hf_word)
  (sRet (eV 1))))
noncomputable def b_word (f c' : Addr) (q : Str) (τ : L2.St) (σ0 : En) (fb : EF) : SF := bq_word (eLam f c' q τ σ0 fb)
abbrev H0_word (fb : EF) : EF := H0of bq_word 3 fb
section
variable {P : Program} {w : World} {K : PySem.W.Frag} {mg : Str → Option Value} {base : Heap}
theorem ls_word {X : Cx} (hP : X.prog = P) (hK : X.K = K) (hM : X.mg = mg) (T : TX P K mg) (T2 : TX2 P K mg T) {g : Addr} {cdv : Value} {s : Shared} {H : Hp} {q : Str} {fb : EF} {f c' : Addr} {τ : L2.St} {σ0 : En} {kr : Nat} (hr : RoomG kr (X.A.deeper (envOfC "_law_word" (defScope s__law_word) s.heap.objs.size g cdv)))
    (act : ∀ (W : WX) (pn : List (Addr × Obj)) (xe : Value → Shared → Prop) (p1 p2 : Pos), Takes ((cxOf C8.CX0 X.prog X.w X.K X.mg X.base ["call", "word", "error", "flags"] "_law_word" (defScope s__law_word) g cdv X.A X.stack s H C8.E0).tr pn xe) W →
        LE ((cxOf C8.CX0 X.prog X.w X.K X.mg X.base ["call", "word", "error", "flags"] "_law_word" (defScope s__law_word) g cdv X.A X.stack s H C8.E0).tr pn xe) W (.Call (.Name "call" p1) [] [] p2) (eLam f c' q τ σ0 fb)) :
    LSs (cxOf C8.CX0 X.prog X.w X.K X.mg X.base ["call", "word", "error", "flags"] "_law_word" (defScope s__law_word) g cdv X.A X.stack s H C8.E0).nox W0 (fun _ => false) (defBody s__law_word) (b_word f c' q τ σ0 fb) := by
  subst hP hK hM
  exact (lss_cons (ls_set rfl sc__law_word.nd rfl (by first | exact .inl rfl | exact .inr rfl) le_str)
    (lss_cons (ls_try (x := "NetError") (cx := .ref T.c_NetError) rfl rfl rfl sc__law_word.nd rfl rfl ⟨rfl, by decide, .inl T.g_NetError⟩ L2.takes0 T2.xm_NetError
      (fun W pn xe tk ps => (lss_one (ls_set rfl sc__law_word.nd rfl (by first | exact .inl rfl | exact .inr rfl) (le_tup (la_cons le_str (la_cons (act W pn xe _ _ tk) la_nil))))))
      (fun a oe c C d pn hx hm hz hf => (lss_cons (ls_set rfl sc__law_word.nd rfl (by first | exact .inl rfl | exact .inr rfl) (le_lst (la_cons (le_shr (le_isX T2.kx_NoDeed (.own T.c_NoDeed) (T2.xe c C hx hm) hm hz hf (pe_glob (by rfl) T.g_NoDeed rfl) (le_var (pv 2)) (by rfl) T.n_isinstance)) (la_cons (le_shr (le_isX T2.kx_NoMark (.own T.c_NoMark) (T2.xe c C hx hm) hm hz hf (pe_glob (by rfl) T.g_NoMark rfl) (le_var (pv 2)) (by rfl) T.n_isinstance)) (la_cons (le_shr (le_isX T2.kx_NoNumber (.own T.c_NoNumber) (T2.xe c C hx hm) hm hz hf (pe_glob (by rfl) T.g_NoNumber rfl) (le_var (pv 2)) (by rfl) T.n_isinstance)) (la_cons (le_shr (le_isX T2.kx_NotReady (.own T.c_NotReady) (T2.xe c C hx hm) hm hz hf (pe_glob (by rfl) T.g_NotReady rfl) (le_var (pv 2)) (by rfl) T.n_isinstance)) la_nil))))))
    (lss_cons (ls_set rfl sc__law_word.nd rfl (by first | exact .inl rfl | exact .inr rfl) (le_bin or_add opd_add (le_var (pv 3)) (le_lst (la_cons (le_shr (le_isX T2.kx_NothingDone (.own T.c_NothingDone) (T2.xe c C hx hm) hm hz hf (pe_glob (by rfl) T.g_NothingDone rfl) (le_var (pv 2)) (by rfl) T.n_isinstance)) (la_cons (le_shr (le_isX T2.kx_TooGreat (.own T.c_TooGreat) (T2.xe c C hx hm) hm hz hf (pe_glob (by rfl) T.g_TooGreat rfl) (le_var (pv 2)) (by rfl) T.n_isinstance)) la_nil)))))
    (lss_cons (ls_if (PW.pt (lw_and (lt_cmp (op_eqD hr.units) opd_eq (le_count (le_var (pv 3)) (la_cons le_bl la_nil)) le_int) (lw_and1 (lt_val (le_isX T2.kx_ValueError (.ty "ValueError") (T2.xe c C hx hm) hm hz hf (pe_bltn (by rfl) T2.n_ValueError bt_ValueError rfl) (le_var (pv 2)) (by rfl) T.n_isinstance))))) (lss_one (ls_set rfl sc__law_word.nd rfl (by first | exact .inl rfl | exact .inr rfl) (le_ix (le_lst (la_cons le_str (la_cons le_str (la_cons le_str (la_cons le_str (la_cons le_str (la_cons le_str la_nil))))))) (le_index (le_var (pv 3)) (la_cons le_bl la_nil)))))
    lss_nil)
    (lss_one (ls_if (lt_cmp (op_eqD hr.units) opd_eq (le_var (pv 1)) le_str) (lss_one (ls_set rfl sc__law_word.nd rfl (by first | exact .inl rfl | exact .inr rfl) (le_tup (la_cons (le_var (pv 1)) (la_cons (le_xf (T2.xf c C hx hm) (T2.xn_at c C hx hm) hz hf (le_var (pv 2))) la_nil)))))
    lss_nil)))))) hind_word)
    (lss_one (ls_ret (le_var (pv 1))))))
end
theorem end_word (f c' : Addr) (q : Str) (τ : L2.St) (σ0 : En) (fb : EF) : LamEnd f c' q τ σ0 (b_word f c' q τ σ0 fb (some (.lam f c' q (sV σ0 τ) (sD σ0)) :: List.replicate 3 none)) (H0_word fb σ0) := by
  intro d σ' e
  change H0of bq_word 3 fb σ0 = _ at e
  have hs : ∀ r, sget (some (.lam f c' q (sV σ0 τ) (sD σ0)) :: r) 0 = some (.lam f c' q (sV σ0 τ) (sD σ0)) := fun r => rfl
  cases ef : fb σ0 with
  | err => unfold H0of at e; rw [ef] at e; cases e
  | ok h σ1 =>
    cases h with
    | sl k => unfold H0of at e; rw [ef] at e; cases e
    | val d1 =>
      by_cases hp : patB σ1 σ0 = true
      · rw [H0of_ok ef hp] at e
        simp [bq_word, sSeq_ap] at e
        all_goals first
          | (cases e; done)
          | (obtain ⟨e1, e2⟩ := e
             subst e1 e2
             exact ⟨hp, _, .inl (by
               unfold b_word bq_word
               simp [sSeq_ap, eLam_ok ef]
               first | done | rfl | exact ⟨rfl, rfl⟩)⟩)
      · unfold H0of at e; rw [ef] at e; dsimp only at e; rw [if_neg hp] at e; cases e
  | exc c ks vs σ1 =>
    by_cases hp : patB σ1 σ0 = true
    · rw [H0of_exc ef hp] at e
      by_cases hx : isx_NetError c = some true
      · rcases isx_mem hx with rfl | rfl | rfl | rfl | rfl | rfl | rfl | rfl <;> by_cases hk : ks = [] <;> cases hk0 : lookK "at" ks vs <;> simp [bq_word, hf_word, ok_word, sSeq_ap, dIsXd_own, dXf_own, hk, mCnt, mIdx, flatD, dV, eqV, findV, dEq, dNe, toP, toPL, SeqAt.shaped, PyData.canLay0, PyData.canLayAll0, PyData.depth, PyData.depthAll, PyData.eqv, PyData.eqvAll, so_0, sb_0_1, sn_0_1, sb_0_2, sn_0_2, sb_0_3, sn_0_3, sb_0_4, sn_0_4, sb_0_5, sn_0_5, sb_0_6, sn_0_6, sb_0_7, sn_0_7, so_1, sb_1_0, sn_1_0, sb_1_2, sn_1_2, sb_1_3, sn_1_3, sb_1_4, sn_1_4, sb_1_5, sn_1_5, sb_1_6, sn_1_6, sb_1_7, sn_1_7, so_2, sb_2_0, sn_2_0, sb_2_1, sn_2_1, sb_2_3, sn_2_3, sb_2_4, sn_2_4, sb_2_5, sn_2_5, sb_2_6, sn_2_6, sb_2_7, sn_2_7, so_3, sb_3_0, sn_3_0, sb_3_1, sn_3_1, sb_3_2, sn_3_2, sb_3_4, sn_3_4, sb_3_5, sn_3_5, sb_3_6, sn_3_6, sb_3_7, sn_3_7, so_4, sb_4_0, sn_4_0, sb_4_1, sn_4_1, sb_4_2, sn_4_2, sb_4_3, sn_4_3, sb_4_5, sn_4_5, sb_4_6, sn_4_6, sb_4_7, sn_4_7, so_5, sb_5_0, sn_5_0, sb_5_1, sn_5_1, sb_5_2, sn_5_2, sb_5_3, sn_5_3, sb_5_4, sn_5_4, sb_5_6, sn_5_6, sb_5_7, sn_5_7, so_6, sb_6_0, sn_6_0, sb_6_1, sn_6_1, sb_6_2, sn_6_2, sb_6_3, sn_6_3, sb_6_4, sn_6_4, sb_6_5, sn_6_5, sb_6_7, sn_6_7, so_7, sb_7_0, sn_7_0, sb_7_1, sn_7_1, sb_7_2, sn_7_2, sb_7_3, sn_7_3, sb_7_4, sn_7_4, sb_7_5, sn_7_5, sb_7_6, sn_7_6, yv_NoDeed_NetError, yv_NoDeed_BadNet, yv_NoDeed_NotReady, yv_NoDeed_NoDeed, yv_NoDeed_NoMark, yv_NoDeed_NoNumber, yv_NoDeed_TooGreat, yv_NoDeed_NothingDone, yv_NoMark_NetError, yv_NoMark_BadNet, yv_NoMark_NotReady, yv_NoMark_NoDeed, yv_NoMark_NoMark, yv_NoMark_NoNumber, yv_NoMark_TooGreat, yv_NoMark_NothingDone, yv_NoNumber_NetError, yv_NoNumber_BadNet, yv_NoNumber_NotReady, yv_NoNumber_NoDeed, yv_NoNumber_NoMark, yv_NoNumber_NoNumber, yv_NoNumber_TooGreat, yv_NoNumber_NothingDone, yv_NotReady_NetError, yv_NotReady_BadNet, yv_NotReady_NotReady, yv_NotReady_NoDeed, yv_NotReady_NoMark, yv_NotReady_NoNumber, yv_NotReady_TooGreat, yv_NotReady_NothingDone, yv_NothingDone_NetError, yv_NothingDone_BadNet, yv_NothingDone_NotReady, yv_NothingDone_NoDeed, yv_NothingDone_NoMark, yv_NothingDone_NoNumber, yv_NothingDone_TooGreat, yv_NothingDone_NothingDone, yv_TooGreat_NetError, yv_TooGreat_BadNet, yv_TooGreat_NotReady, yv_TooGreat_NoDeed, yv_TooGreat_NoMark, yv_TooGreat_NoNumber, yv_TooGreat_TooGreat, yv_TooGreat_NothingDone, yv_ValueError_NetError, yv_ValueError_BadNet, yv_ValueError_NotReady, yv_ValueError_NoDeed, yv_ValueError_NoMark, yv_ValueError_NoNumber, yv_ValueError_TooGreat, yv_ValueError_NothingDone, iv_NetError, iv_BadNet, iv_NotReady, iv_NoDeed, iv_NoMark, iv_NoNumber, iv_TooGreat, iv_NothingDone, hk0] at e
        all_goals
          obtain ⟨e1, e2⟩ := e
          subst e1 e2
          exact ⟨hp, _, .inl (by
            unfold b_word bq_word
            simp [sSeq_ap, eLam_exc ef, hf_word, ok_word, dIsXd_own, dXf_own, mCnt, mIdx, flatD, dV, eqV, findV, dEq, dNe, toP, toPL, SeqAt.shaped, PyData.canLay0, PyData.canLayAll0, PyData.depth, PyData.depthAll, PyData.eqv, PyData.eqvAll, so_0, sb_0_1, sn_0_1, sb_0_2, sn_0_2, sb_0_3, sn_0_3, sb_0_4, sn_0_4, sb_0_5, sn_0_5, sb_0_6, sn_0_6, sb_0_7, sn_0_7, so_1, sb_1_0, sn_1_0, sb_1_2, sn_1_2, sb_1_3, sn_1_3, sb_1_4, sn_1_4, sb_1_5, sn_1_5, sb_1_6, sn_1_6, sb_1_7, sn_1_7, so_2, sb_2_0, sn_2_0, sb_2_1, sn_2_1, sb_2_3, sn_2_3, sb_2_4, sn_2_4, sb_2_5, sn_2_5, sb_2_6, sn_2_6, sb_2_7, sn_2_7, so_3, sb_3_0, sn_3_0, sb_3_1, sn_3_1, sb_3_2, sn_3_2, sb_3_4, sn_3_4, sb_3_5, sn_3_5, sb_3_6, sn_3_6, sb_3_7, sn_3_7, so_4, sb_4_0, sn_4_0, sb_4_1, sn_4_1, sb_4_2, sn_4_2, sb_4_3, sn_4_3, sb_4_5, sn_4_5, sb_4_6, sn_4_6, sb_4_7, sn_4_7, so_5, sb_5_0, sn_5_0, sb_5_1, sn_5_1, sb_5_2, sn_5_2, sb_5_3, sn_5_3, sb_5_4, sn_5_4, sb_5_6, sn_5_6, sb_5_7, sn_5_7, so_6, sb_6_0, sn_6_0, sb_6_1, sn_6_1, sb_6_2, sn_6_2, sb_6_3, sn_6_3, sb_6_4, sn_6_4, sb_6_5, sn_6_5, sb_6_7, sn_6_7, so_7, sb_7_0, sn_7_0, sb_7_1, sn_7_1, sb_7_2, sn_7_2, sb_7_3, sn_7_3, sb_7_4, sn_7_4, sb_7_5, sn_7_5, sb_7_6, sn_7_6, yv_NoDeed_NetError, yv_NoDeed_BadNet, yv_NoDeed_NotReady, yv_NoDeed_NoDeed, yv_NoDeed_NoMark, yv_NoDeed_NoNumber, yv_NoDeed_TooGreat, yv_NoDeed_NothingDone, yv_NoMark_NetError, yv_NoMark_BadNet, yv_NoMark_NotReady, yv_NoMark_NoDeed, yv_NoMark_NoMark, yv_NoMark_NoNumber, yv_NoMark_TooGreat, yv_NoMark_NothingDone, yv_NoNumber_NetError, yv_NoNumber_BadNet, yv_NoNumber_NotReady, yv_NoNumber_NoDeed, yv_NoNumber_NoMark, yv_NoNumber_NoNumber, yv_NoNumber_TooGreat, yv_NoNumber_NothingDone, yv_NotReady_NetError, yv_NotReady_BadNet, yv_NotReady_NotReady, yv_NotReady_NoDeed, yv_NotReady_NoMark, yv_NotReady_NoNumber, yv_NotReady_TooGreat, yv_NotReady_NothingDone, yv_NothingDone_NetError, yv_NothingDone_BadNet, yv_NothingDone_NotReady, yv_NothingDone_NoDeed, yv_NothingDone_NoMark, yv_NothingDone_NoNumber, yv_NothingDone_TooGreat, yv_NothingDone_NothingDone, yv_TooGreat_NetError, yv_TooGreat_BadNet, yv_TooGreat_NotReady, yv_TooGreat_NoDeed, yv_TooGreat_NoMark, yv_TooGreat_NoNumber, yv_TooGreat_TooGreat, yv_TooGreat_NothingDone, yv_ValueError_NetError, yv_ValueError_BadNet, yv_ValueError_NotReady, yv_ValueError_NoDeed, yv_ValueError_NoMark, yv_ValueError_NoNumber, yv_ValueError_TooGreat, yv_ValueError_NothingDone, iv_NetError, iv_BadNet, iv_NotReady, iv_NoDeed, iv_NoMark, iv_NoNumber, iv_TooGreat, iv_NothingDone, *]
            try first | rfl | exact ⟨rfl, rfl⟩)⟩
      · have hn : isx_NetError c = none := by
          unfold isx_NetError at hx ⊢
          split <;> simp_all
        simp [bq_word, sSeq_ap, hn] at e
    · unfold H0of at e; rw [ef] at e; dsimp only at e; rw [if_neg hp] at e; cases e
end Toy
namespace Toy
open PySem PySem.Spec PyProof.Rows L2 DL
theorem dEq_int (i j : Int) : dEq (.int i) (.int j) = some (.bl (decide (i = j))) := by
  simp [dEq, toP, SeqAt.shaped, PyData.canLay0, PyData.depth, PyData.eqv]
  rfl
/-- the hand from which the law draws -/
abbrev handD (cs : List Int) (i b c e : Int) : D := .lst true [.lst false (cs.map .int), .int i, .int b, .int c, .int e]
def Hand (h : D) : Prop := ∃ cs i b c e, h = handD cs i b c e ∧ 0 ≤ i
theorem p_draw {h : D} {n : Int} (H : Hand h) (h0 : 0 < n) (h1 : n < 1073741824) :
    ∃ z h', m__law_draw [h, .int n] = .ret (.int z) [h', .int n] ∧ 0 ≤ z ∧ z < n ∧ Hand h' := by
  obtain ⟨cs, i, b, c, e, rfl, hi⟩ := H
  have hn : n ≠ 0 := by omega
  have hd : ∀ x, CDivN x n := fun x => ⟨hn, by omega⟩
  have fm : ∀ x : Int, 0 ≤ x.fmod n ∧ x.fmod n < n := fun x => ⟨Int.fmod_nonneg_of_pos x h0, Int.fmod_lt_of_pos x h0⟩
  have cdiv : ∀ x y : Int, 0 < y → y < 1073741824 → CDivN x y := fun x y a b => ⟨by omega, by omega⟩
  have fl : ∀ (x : Int) (m : Int), 0 < m → m < 2 ^ 64 → -(2 ^ 64) < x.fmod m ∧ x.fmod m < 2 ^ 64 := fun x m a b => by
    have := Int.fmod_nonneg_of_pos x a; have := Int.fmod_lt_of_pos x a; omega
  have cm : ∀ (x : Int) (m y : Int), 0 < m → m < 2 ^ 64 → CMul (x.fmod m) y := fun x m y a b => .inl (fl x m a b)
  have cr : ∀ (x y : Int), -(2 ^ 64) < y → y < 2 ^ 64 → CMul x y := fun x y a b => .inr ⟨a, b⟩
  have cl : ∀ (x y : Int), -(2 ^ 64) < x → x < 2 ^ 64 → CMul x y := fun x y a b => .inl ⟨a, b⟩
  unfold m__law_draw
  refine mdef_go (R := fun r => ∃ z h', r = .ret (.int z) [h', .int n] ∧ 0 ≤ z ∧ z < n ∧ Hand h') rfl ?_
  refine go_seqI (fun σ1 => ∃ i' b' c' o2, 0 ≤ i' ∧ σ1 = [some (handD cs i' b' c' e), some (.int n), o2, none, none]) ?_ ?_
  · by_cases hb : b = 0
    · subst hb
      by_cases hl : i < cs.length
      · obtain ⟨k, rfl⟩ : ∃ k : Nat, i = k := ⟨i.toNat, by omega⟩
        have hk : k < cs.length := by omega
        have hp : CPow 10 18 := ⟨by decide, by decide, by decide⟩
        by_cases hg : 1000000000000000000 ≤ cs[k]
        · simp [dEq_int, hl, hk, sSeq_ap, hp, cr, cl, hg]
          omega
        · simp [dEq_int, hl, hk, sSeq_ap, hp, cr, cl, hg]
          omega
      · simp [dEq_int, hl, hi]
    · simp [dEq_int, hb, hi]
  · rintro σ1 ⟨i', b', c', o2, hi', rfl⟩
    rw [go_seq]
    by_cases hb : 0 < b'
    · simp [hb, sSeq_ap, hn, hd]
      exact ⟨_, _, ⟨rfl, rfl⟩, (fm _).1, (fm _).2, _, _, _, _, _, rfl, hi'⟩
    · simp [hb, sSeq_ap, hn, hd, cr, cl, cm, cdiv]
      exact ⟨_, _, ⟨rfl, rfl⟩, (fm _).1, (fm _).2, _, _, _, _, _, rfl, hi'⟩
theorem cutL_map {α β : Type} (f : α → β) (xs : List α) (lo hi : Option Int) : cutL (xs.map f) lo hi = (cutL xs lo hi).map f := by
  simp [cutL, List.map_take, List.map_drop]
theorem cutL_length {α : Type} (xs : List α) (lo hi : Option Int) : (cutL xs lo hi).length ≤ xs.length := by
  simp [cutL]; omega
theorem p_hand {d : D} {ns : List Int} (hl : ns.length ≤ 63) (hd : d = .scr ns ∨ d = .lst true (ns.map .int)) : ∃ h, m__law_hand [d] = .ret h [d] ∧ Hand h := by
  unfold m__law_hand
  refine mdef_go (R := fun r => ∃ h, r = .ret h [d] ∧ Hand h) rfl ?_
  have hc : dCut d none (some 63) = some (.lst true ((cutL ns none (some 63)).map .int)) := by
    rcases hd with rfl | rfl
    · rfl
    · simp [dCut, cutL_map]
  have hll := cutL_length ns none (some 63)
  have hs := shareL_map D.int (fun _ => rfl) (cutL ns none (some 63))
  have cr : ∀ (x y : Int), -(2 ^ 64) < x → x < 2 ^ 64 → CMul x y := fun x y a b => .inl ⟨a, b⟩
  refine go_step _ (by
    simp [hc, hs]
    rw [lc_mapA D.int (fun i => .int (if i < 0 then -i else i)) (cutL ns none (some 63)) rfl (by omega) (fun x _ => by simp [lcStep])]
    simp
    rfl) ?_
  have e5 : CMul 5 ((cutL ns none (some 63)).length : Int) := cr _ _ (by decide) (by decide)
  simp [e5]
  exact ⟨(cutL ns none (some 63)).map (fun i => if i < 0 then -i else i), 0, 0, _, 0, by simp [handD, Function.comp_def]; rfl, by omega⟩
theorem Hand.fz {h : D} (H : Hand h) : DL.fz h = false := by obtain ⟨_, _, _, _, _, rfl, _⟩ := H; rfl
theorem p_some {h : D} {ds : List D} {o : Bool} (H : Hand h) (h0 : 0 < ds.length) (h1 : ds.length < 1073741824) (hz : ds.all fz = true) :
    ∃ x h', x ∈ ds ∧ m__law_some [h, .lst o ds] = .ret x [h', .lst o ds] ∧ Hand h' := by
  obtain ⟨z, h', e, z0, z1, H'⟩ := p_draw (n := ds.length) H (by omega) (by omega)
  obtain ⟨k, rfl⟩ : ∃ k : Nat, z = k := ⟨z.toNat, by omega⟩
  have hk : k < ds.length := by omega
  refine ⟨ds[k], h', List.getElem_mem hk, ?_, H'⟩
  have hzk : fz ds[k] = true := List.all_eq_true.mp hz _ (List.getElem_mem hk)
  unfold m__law_some; rw [mDef_ap _ _ _ _ rfl]
  simp [e, H.fz, H'.fz, hk, hzk]
end Toy
namespace Toy
open PySem PySem.Spec PyProof.Rows L2 DL
/-- what may be handed as a value to a check -/
def plainK : D → Bool
  | .non => true | .bl _ => true | .int _ => true | .str _ => true | .tup _ => true | .lst false _ => true | .dct false _ _ => true | .ins false c _ _ => decide (c = "Net") | _ => false
def isI : D → Bool
  | .int _ => true | _ => false
theorem p_integer {d : D} (h : plainK d = true) : m_is_integer [d] = .ret (.bl (isI d)) [d] := by
  cases d <;> simp [plainK] at h
  case non => rfl
  case bl b => rfl
  case int i => rfl
  case str s => rfl
  case tup ds => rfl
  case lst o xs => cases o <;> first | rfl | simp at h
  case dct o ks vs => cases o <;> first | rfl | simp at h
  case ins o c ks vs =>
    cases o <;> simp at h
    subst h
    rfl
def wi (d : D) (a b : Int) : Bool := match d with
  | .int i => decide (a ≤ i) && decide (i ≤ b)
  | _ => false
@[simp] theorem wi_int (i a b : Int) : wi (.int i) a b = (decide (a ≤ i) && decide (i ≤ b)) := rfl
theorem fz_plain {d : D} (h : plainK d = true) : fz d = true := by
  cases d <;> simp [plainK] at h <;> try rfl
  case lst o xs => cases o <;> first | rfl | simp at h
  case dct o ks vs => cases o <;> first | rfl | simp at h
  case ins o c ks vs => cases o <;> first | rfl | simp at h
theorem p_within {d : D} {a b : Int} (h : plainK d = true) : m_is_within [d, .int a, .int b] = .ret (.bl (wi d a b)) [d, .int a, .int b] := by
  have hz := fz_plain h
  have hi := p_integer h
  unfold m_is_within; rw [mDef_ap _ _ _ _ rfl]
  cases hI : isI d with
  | false =>
    have hw : wi d a b = false := by cases d <;> first | rfl | simp [isI] at hI
    simp [hz, hi, hI, hw]
  | true =>
    obtain ⟨i, rfl⟩ : ∃ i, d = .int i := by cases d <;> first | exact ⟨_, rfl⟩ | simp [isI] at hI
    by_cases h1 : a ≤ i <;> simp [hi, hI, h1]
theorem p_withinI {i a b : Int} : m_is_within [.int i, .int a, .int b] = .ret (.bl (decide (a ≤ i) && decide (i ≤ b))) [.int i, .int a, .int b] := p_within rfl
def ti (d : D) (a b : Int) : Bool := match d with
  | .tup ds => decide (a ≤ ds.length) && decide ((ds.length : Int) ≤ b)
  | _ => false
@[simp] theorem ti_tup (ds : List D) (a b : Int) : ti (.tup ds) a b = (decide (a ≤ ds.length) && decide ((ds.length : Int) ≤ b)) := rfl
def isT : D → Bool
  | .tup _ => true | _ => false
theorem k_tup {d : D} (h : plainK d = true) : dIsi yesT_tuple yesC_tuple d = some (.bl (isT d)) := by
  cases d <;> simp [plainK] at h
  case non => rfl
  case bl b => rfl
  case int i => rfl
  case str s => rfl
  case tup ds => rfl
  case lst o xs => cases o <;> first | rfl | simp at h
  case dct o ks vs => cases o <;> first | rfl | simp at h
  case ins o c ks vs =>
    cases o <;> simp at h
    subst h
    rfl
theorem p_tuple {d : D} {a b : Int} (h : plainK d = true) : m_is_tuple [d, .int a, .int b] = .ret (.bl (ti d a b)) [d, .int a, .int b] := by
  have hz := fz_plain h
  have hk := k_tup h
  unfold m_is_tuple; rw [mDef_ap _ _ _ _ rfl]
  cases hI : isT d with
  | false =>
    have hw : ti d a b = false := by cases d <;> first | rfl | simp [isT] at hI
    simp [hz, hk, hI, hw]
  | true =>
    obtain ⟨ds, rfl⟩ : ∃ i, d = .tup i := by cases d <;> first | exact ⟨_, rfl⟩ | simp [isT] at hI
    by_cases h1 : a ≤ ds.length <;> simp [hk, hI, h1]
/-- the frame is as it was, the slots wiped -/
theorem set_none {σ : En} {i : Nat} (hn : σ[i]? = some none) : σ.set i none = σ := by
  obtain ⟨h1, h2⟩ := List.getElem?_eq_some_iff.mp hn
  rw [← h2]; exact List.set_getElem_self h1
/-- the items' comprehension under all -/
theorem all_within {σ : En} {i : Nat} {a b : Int} {f : EF} (items : List D) (hi : i < σ.length) (hn : σ[i]? = some none) (hp : ∀ x ∈ items, plainK x = true) (hl : items.length ≤ 16777216)
    (hf : ∀ x ∈ items, f (σ.set i (some x)) = .ok (.val (.bl (wi x a b))) (σ.set i (some x))) :
    lcLoop [i] (gdName i) tYesD f items [] σ = .ok (items.map fun x => .bl (wi x a b)) σ := by
  refine lc_mapA id _ items (by simp) hl fun x hx => ?_
  simp [lcStep, hi, hf x hx, set_none hn]
def cts (p : Int) (d : D) (m : Int) : Bool := match d with
  | .tup ds => decide ((ds.length : Int) = p) && ds.all fun x => wi x 0 m
  | _ => false
/-- what a check of a row of things asks of it -/
def plainT (d : D) : Prop := plainK d = true ∧ ∀ ds, d = .tup ds → (∀ x ∈ ds, plainK x = true) ∧ ds.length ≤ 16777216
theorem plainT_of {d : D} (h : plainK d = true) (n : ∀ ds, d ≠ .tup ds) : plainT d := ⟨h, fun ds e => (n ds e).elim⟩
theorem plainT_tup {ds : List D} (h : ∀ x ∈ ds, plainK x = true) (hl : ds.length ≤ 16777216) : plainT (.tup ds) := ⟨rfl, fun es e => by cases e; exact ⟨h, hl⟩⟩
theorem p_counts {p : Int} {d : D} (h : plainT d) : m_is_counts [.int p, d] = .ret (.bl (cts p d 9)) [.int p, d] := by
  obtain ⟨h, hp⟩ := h
  have hz := fz_plain h
  have ht := p_tuple (a := p) (b := p) h
  unfold m_is_counts; rw [mDef_ap _ _ _ _ rfl]
  cases hI : ti d p p with
  | false =>
    have hw : cts p d 9 = false := by
      cases d <;> try rfl
      rename_i ds
      have : ¬ ((ds.length : Int) = p) := fun z => by simp [z] at hI
      simp [cts, this]
    simp [hz, ht, hI, hw]
  | true =>
    obtain ⟨ds, rfl⟩ : ∃ i, d = .tup i := by cases d <;> first | exact ⟨_, rfl⟩ | simp [ti] at hI
    obtain ⟨h1, h2⟩ := hp ds rfl
    have hl : (ds.length : Int) = p := by simp at hI; omega
    simp [ht, hI]
    rw [all_within (a := 0) (b := 9) ds (by simp) rfl h1 h2 (fun x hx => by simp [fz_plain (h1 x hx), p_within (h1 x hx)])]
    simp [dAll_map, cts, hl]
/-! ### nets and marks as trees -/
abbrev netO (o : Bool) (p : Int) (ds : D) : D := .ins o "Net" ["places", "deeds"] [.int p, ds]
abbrev netD (p : Int) (ds : D) : D := .ins false "Net" ["places", "deeds"] [.int p, ds]
@[simp] theorem f_places (o : Bool) (p : Int) (ds : D) : dFld "places" (netO o p ds) = some (.int p) := rfl
@[simp] theorem f_deeds (o : Bool) (p : Int) (ds : List D) : dFld "deeds" (netO o p (.tup ds)) = some (.tup ds) := rfl
abbrev tI (xs : List Int) : D := .tup (xs.map .int)
abbrev Deed := List Int × List Int
abbrev deedD (x : Deed) : D := .tup [tI x.1, tI x.2]
abbrev deedsD (ds : List Deed) : D := .tup (ds.map deedD)
theorem cts_tI (p : Int) (xs : List Int) (m : Int) : cts p (tI xs) m = (decide ((xs.length : Int) = p) && xs.all fun x => decide (0 ≤ x) && decide (x ≤ m)) := by
  simp [cts]; rfl
theorem plainT_tI {xs : List Int} (hl : xs.length ≤ 16777216) : plainT (tI xs) := plainT_tup (fun x hx => by obtain ⟨i, _, rfl⟩ := List.mem_map.mp hx; rfl) (by simpa using hl)
theorem p_mark {o : Bool} {p : Int} {e d : D} (h : plainT d) : m_is_mark [netO o p e, d] = .ret (.bl (cts p d 1000000)) [netO o p e, d] := by
  cases o with
  | false =>
    obtain ⟨h, hp⟩ := h
    have hz := fz_plain h
    have ht := p_tuple (a := p) (b := p) h
    unfold m_is_mark; rw [mDef_ap _ _ _ _ rfl]
    cases hI : ti d p p with
    | false =>
      have hw : cts p d 1000000 = false := by
        cases d <;> try rfl
        rename_i ds
        have : ¬ ((ds.length : Int) = p) := fun z => by simp [z] at hI
        simp [cts, this]
      simp [hz, ht, hI, hw]
    | true =>
      obtain ⟨ds, rfl⟩ : ∃ i, d = .tup i := by cases d <;> first | exact ⟨_, rfl⟩ | simp [ti] at hI
      obtain ⟨h1, h2⟩ := hp ds rfl
      have hl : (ds.length : Int) = p := by simp at hI; omega
      simp [ht, hI]
      rw [all_within (a := 0) (b := 1000000) ds (by simp) rfl h1 h2 (fun x hx => by simp [fz_plain (h1 x hx), p_within (h1 x hx)])]
      simp [dAll_map, cts, hl]
  | true =>
    obtain ⟨h, hp⟩ := h
    have hz := fz_plain h
    have ht := p_tuple (a := p) (b := p) h
    unfold m_is_mark; rw [mDef_ap _ _ _ _ rfl]
    cases hI : ti d p p with
    | false =>
      have hw : cts p d 1000000 = false := by
        cases d <;> try rfl
        rename_i ds
        have : ¬ ((ds.length : Int) = p) := fun z => by simp [z] at hI
        simp [cts, this]
      simp [hz, ht, hI, hw]
    | true =>
      obtain ⟨ds, rfl⟩ : ∃ i, d = .tup i := by cases d <;> first | exact ⟨_, rfl⟩ | simp [ti] at hI
      obtain ⟨h1, h2⟩ := hp ds rfl
      have hl : (ds.length : Int) = p := by simp at hI; omega
      simp [ht, hI]
      rw [all_within (a := 0) (b := 1000000) ds (by simp) rfl h1 h2 (fun x hx => by simp [fz_plain (h1 x hx), p_within (h1 x hx)])]
      simp [dAll_map, cts, hl]
theorem p_check_mark {o : Bool} {p : Int} {e d : D} (h : plainT d) : m_check_mark [netO o p e, d] = if cts p d 1000000 then .ret .non [netO o p e, d] else .exc "NoMark" [] [] [netO o p e, d] := by
  cases o with
  | false =>
    have hz := fz_plain h.1
    unfold m_check_mark; rw [mDef_ap _ _ _ _ rfl]
    cases hc : cts p d 1000000 <;> simp [hz, p_mark h, hc]
  | true =>
    have hz := fz_plain h.1
    unfold m_check_mark; rw [mDef_ap _ _ _ _ rfl]
    cases hc : cts p d 1000000 <;> simp [hz, p_mark h, hc]
end Toy
namespace Toy
open PySem PySem.Spec PyProof.Rows L2 DL
/-! ### trees that are the same just where Python says so -/
mutual
def intT : D → Bool
  | .int _ => true
  | .non => true
  | .str z => PyData.strOk z
  | .tup ds => intTL ds
  | _ => false
def intTL : List D → Bool
  | [] => true
  | d :: ds => intT d && intTL ds
end
mutual
def dep : D → Nat
  | .tup ds => depL ds + 1
  | _ => 0
def depL : List D → Nat
  | [] => 0
  | d :: ds => max (dep d) (depL ds)
end
mutual
theorem toP_int : ∀ (d : D), intT d = true → ∃ q, toP d = some q ∧ q.canLay0 = true ∧ q.depth = dep d
  | .int i, _ => ⟨.int i, rfl, rfl, rfl⟩
  | .non, _ => ⟨.none, rfl, rfl, rfl⟩
  | .str z, h => ⟨.str z, rfl, h, rfl⟩
  | .tup ds, h => by
    obtain ⟨qs, e1, e2, e3⟩ := toPL_int ds (by simpa [intT] using h)
    exact ⟨.tuple qs, by simp [toP, e1], by simpa [PyData.canLay0] using e2, by simp [PyData.depth, dep, e3]⟩
theorem toPL_int : ∀ (ds : List D), intTL ds = true → ∃ qs, toPL ds = some qs ∧ PyData.canLayAll0 qs = true ∧ PyData.depthAll qs = depL ds
  | [], _ => ⟨[], rfl, rfl, rfl⟩
  | d :: ds, h => by
    simp only [intTL, Bool.and_eq_true] at h
    obtain ⟨q, e1, e2, e3⟩ := toP_int d h.1
    obtain ⟨qs, f1, f2, f3⟩ := toPL_int ds h.2
    exact ⟨q :: qs, by simp [toPL, e1, f1], by simp [PyData.canLayAll0, e2, f2], by simp [PyData.depthAll, depL, e3, f3]⟩
end
mutual
theorem eqv_int : ∀ (a b : D) (p q : PyData), intT a = true → intT b = true → toP a = some p → toP b = some q → (PyData.eqv p q = true ↔ a = b)
  | .int i, .int j, p, q, _, _, hp, hq => by
    simp [toP] at hp hq; subst hp hq; simp [PyData.eqv]
  | .int i, .non, p, q, _, _, hp, hq => by simp [toP] at hp hq; subst hp hq; simp [PyData.eqv]
  | .int i, .tup ds, p, q, _, _, hp, hq => by
    simp [toP] at hp hq; subst hp; obtain ⟨qs, _, rfl⟩ := hq; simp [PyData.eqv]
  | .non, .int j, p, q, _, _, hp, hq => by simp [toP] at hp hq; subst hp hq; simp [PyData.eqv]
  | .non, .non, p, q, _, _, hp, hq => by simp [toP] at hp hq; subst hp hq; simp [PyData.eqv]
  | .non, .tup ds, p, q, _, _, hp, hq => by
    simp [toP] at hp hq; subst hp; obtain ⟨qs, _, rfl⟩ := hq; simp [PyData.eqv]
  | .str a, .str b, p, q, _, _, hp, hq => by
    simp [toP] at hp hq; subst hp hq; simp [PyData.eqv]
  | .str a, .int j, p, q, _, _, hp, hq => by simp [toP] at hp hq; subst hp hq; simp [PyData.eqv]
  | .str a, .non, p, q, _, _, hp, hq => by simp [toP] at hp hq; subst hp hq; simp [PyData.eqv]
  | .int j, .str a, p, q, _, _, hp, hq => by simp [toP] at hp hq; subst hp hq; simp [PyData.eqv]
  | .non, .str a, p, q, _, _, hp, hq => by simp [toP] at hp hq; subst hp hq; simp [PyData.eqv]
  | .str a, .tup ds, p, q, _, _, hp, hq => by
    simp [toP] at hp hq; subst hp; obtain ⟨qs, _, rfl⟩ := hq; simp [PyData.eqv]
  | .tup ds, .str a, p, q, _, _, hp, hq => by
    simp [toP] at hp hq; subst hq; obtain ⟨qs, _, rfl⟩ := hp; simp [PyData.eqv]
  | .tup ds, .int j, p, q, _, _, hp, hq => by
    simp [toP] at hp hq; subst hq; obtain ⟨qs, _, rfl⟩ := hp; simp [PyData.eqv]
  | .tup ds, .non, p, q, _, _, hp, hq => by
    simp [toP] at hp hq; subst hq; obtain ⟨qs, _, rfl⟩ := hp; simp [PyData.eqv]
  | .tup ds, .tup es, p, q, ha, hb, hp, hq => by
    simp [toP] at hp hq
    obtain ⟨ps, e1, rfl⟩ := hp
    obtain ⟨qs, e2, rfl⟩ := hq
    have := eqvL_int ds es ps qs (by simpa [intT] using ha) (by simpa [intT] using hb) e1 e2
    simp [PyData.eqv, this]
theorem eqvL_int : ∀ (a b : List D) (p q : List PyData), intTL a = true → intTL b = true → toPL a = some p → toPL b = some q → (PyData.eqvAll p q = true ↔ a = b)
  | [], [], p, q, _, _, hp, hq => by simp [toPL] at hp hq; subst hp hq; simp [PyData.eqvAll]
  | [], b :: bs, p, q, ha, hb, hp, hq => by
    obtain ⟨qs, e, _⟩ := toPL_int (b :: bs) hb
    simp [toPL] at hp; subst hp
    simp only [toPL] at hq
    split at hq
    · cases hq; simp [PyData.eqvAll]
    · cases hq
  | a :: as, [], p, q, ha, hb, hp, hq => by
    simp [toPL] at hq; subst hq
    simp only [toPL] at hp
    split at hp
    · cases hp; simp [PyData.eqvAll]
    · cases hp
  | a :: as, b :: bs, p, q, ha, hb, hp, hq => by
    simp only [intTL, Bool.and_eq_true] at ha hb
    simp only [toPL] at hp hq
    split at hp
    · rename_i p1 ps1 h1 h2
      cases hp
      split at hq
      · rename_i q1 qs1 h3 h4
        cases hq
        have r1 := eqv_int a b p1 q1 ha.1 hb.1 h1 h3
        have r2 := eqvL_int as bs ps1 qs1 ha.2 hb.2 h2 h4
        simp [PyData.eqvAll, r1, r2]
      · cases hq
    · cases hp
end
theorem dEq_T {a b : D} {P : Prop} [Decidable P] (ha : intT a = true) (hb : intT b = true) (da : dep a ≤ 64) (db : dep b ≤ 64) (h : a = b ↔ P) : dEq a b = some (.bl (decide P)) := by
  obtain ⟨p, e1, e2, e3⟩ := toP_int a ha
  obtain ⟨q, f1, f2, f3⟩ := toP_int b hb
  have hv := eqv_int a b p q ha hb e1 f1
  have s1 : SeqAt.shaped p = true := by simp [SeqAt.shaped, e2, e3, da]
  have s2 : SeqAt.shaped q = true := by simp [SeqAt.shaped, f2, f3, db]
  unfold dEq
  simp only [e1, f1, s1, s2, Bool.and_self, if_true]
  congr 2
  rw [Bool.eq_iff_iff, hv, h]; simp
theorem dNe_T {a b : D} {P : Prop} [Decidable P] (ha : intT a = true) (hb : intT b = true) (da : dep a ≤ 64) (db : dep b ≤ 64) (h : a = b ↔ P) : dNe a b = some (.bl (!decide P)) := by
  obtain ⟨p, e1, e2, e3⟩ := toP_int a ha
  obtain ⟨q, f1, f2, f3⟩ := toP_int b hb
  have hv := eqv_int a b p q ha hb e1 f1
  have s1 : SeqAt.shaped p = true := by simp [SeqAt.shaped, e2, e3, da]
  have s2 : SeqAt.shaped q = true := by simp [SeqAt.shaped, f2, f3, db]
  unfold dNe
  simp only [e1, f1, s1, s2, Bool.and_self, if_true]
  congr 3
  rw [Bool.eq_iff_iff, hv, h]; simp
theorem intTL_map {α : Type} (f : α → D) (h : ∀ x, intT (f x) = true) : ∀ xs : List α, intTL (xs.map f) = true
  | [] => rfl
  | x :: xs => by simp [intTL, h x, intTL_map f h xs]
theorem depL_map {α : Type} (f : α → D) (n : Nat) (h : ∀ x, dep (f x) ≤ n) : ∀ xs : List α, depL (xs.map f) ≤ n
  | [] => by simp [depL]
  | x :: xs => by
    have := h x; have := depL_map f n h xs
    simp only [List.map_cons, depL]; omega
theorem intT_tI (xs : List Int) : intT (tI xs) = true := by simp only [intT]; exact intTL_map _ (fun _ => rfl) _
theorem dep_tI (xs : List Int) : dep (tI xs) ≤ 1 := by
  have := depL_map D.int 0 (fun _ => by simp [dep]) xs
  simp only [dep]; omega
theorem intT_deedD (x : Deed) : intT (deedD x) = true := by
  have h1 := intT_tI x.1; have h2 := intT_tI x.2
  simp only [intT, intTL] at h1 h2 ⊢; simp [h1, h2]
theorem dep_deedD (x : Deed) : dep (deedD x) ≤ 2 := by
  have h1 := dep_tI x.1; have h2 := dep_tI x.2
  simp only [dep, depL] at h1 h2 ⊢; omega
theorem intT_deedsD (ds : List Deed) : intT (deedsD ds) = true := by simp only [intT]; exact intTL_map _ intT_deedD _
theorem dep_deedsD (ds : List Deed) : dep (deedsD ds) ≤ 3 := by
  have := depL_map deedD 2 dep_deedD ds
  simp only [dep]; omega
theorem int_inj (xs ys : List Int) : xs.map D.int = ys.map D.int ↔ xs = ys := by
  constructor
  · intro h
    exact (List.map_inj_right (fun a b e => by cases e; rfl)).mp h
  · rintro rfl; rfl
theorem tI_inj (xs ys : List Int) : tI xs = tI ys ↔ xs = ys := by
  rw [← int_inj]; simp only [D.tup.injEq]
theorem deedD_inj (x y : Deed) : deedD x = deedD y ↔ x = y := by
  constructor
  · intro h
    simp only [D.tup.injEq, List.cons.injEq, and_true, int_inj] at h
    exact Prod.ext h.1 h.2
  · rintro rfl; rfl
theorem deedsD_inj (xs ys : List Deed) : deedsD xs = deedsD ys ↔ xs = ys := by
  constructor
  · intro h
    have h : xs.map deedD = ys.map deedD := by simpa only [D.tup.injEq] using h
    exact (List.map_inj_right (fun a b e => (deedD_inj a b).mp e)).mp h
  · rintro rfl; rfl
theorem p_Net_eq {p p' : Int} {a b : List Deed} : m_Net_eq [netD p (deedsD a), netD p' (deedsD b)] = .ret (.bl (decide (p = p' ∧ a = b))) [netD p (deedsD a), netD p' (deedsD b)] := by
  have hE : dEq (.tup [.int p, deedsD a]) (.tup [.int p', deedsD b]) = some (.bl (decide (p = p' ∧ a = b))) := by
    refine dEq_T ?_ ?_ ?_ ?_ ?_
    · have := intT_deedsD a; simp only [intT, intTL] at this ⊢; simp [this]
    · have := intT_deedsD b; simp only [intT, intTL] at this ⊢; simp [this]
    · have := dep_deedsD a; simp only [dep, depL] at this ⊢; omega
    · have := dep_deedsD b; simp only [dep, depL] at this ⊢; omega
    · constructor
      · intro h
        simp only [D.tup.injEq, List.cons.injEq, and_true, D.int.injEq] at h
        exact ⟨h.1, (deedsD_inj a b).mp (by show D.tup _ = D.tup _; rw [h.2])⟩
      · rintro ⟨rfl, rfl⟩; rfl
  have hi : dIsi yesT_Net yesC_Net (netD p' (deedsD b)) = some (.bl true) := rfl
  unfold m_Net_eq; rw [mDef_ap _ _ _ _ rfl]
  simp [hi, hE]
/-! ### a net is made -/
structure NetOk (p : Int) (ds : List Deed) : Prop where
  h0 : 0 ≤ p
  h1 : p ≤ 12
  hd : ds.length ≤ 16
  l1 : ∀ x ∈ ds, (x.1.length : Int) = p
  l2 : ∀ x ∈ ds, (x.2.length : Int) = p
  b1 : ∀ x ∈ ds, ∀ z ∈ x.1, 0 ≤ z ∧ z ≤ 9
  b2 : ∀ x ∈ ds, ∀ z ∈ x.2, 0 ≤ z ∧ z ≤ 9
theorem cts_ok {p : Int} {xs : List Int} {m : Int} (hl : (xs.length : Int) = p) (hb : ∀ z ∈ xs, 0 ≤ z ∧ z ≤ m) : cts p (tI xs) m = true := by
  rw [cts_tI]; simp [hl]; exact fun z hz => hb z hz
theorem p_Net_init {p : Int} {ds : List Deed} (h : NetOk p ds) : m_Net_init [.ins true "Net" [] [], .int p, deedsD ds] = .ret .non [.ins true "Net" ["places", "deeds"] [.int p, deedsD ds], .int p, deedsD ds] := by
  obtain ⟨h0, h1, hd, l1, l2, b1, b2⟩ := h
  unfold m_Net_init
  refine mdef_eq rfl ?_
  refine go_step _ (by simp [p_withinI, h0, h1]; rfl) ?_
  have ht : m_is_tuple [deedsD ds, .int 0, .int 16] = .ret (.bl true) [deedsD ds, .int 0, .int 16] := by
    rw [p_tuple rfl]; simp; omega
  refine go_step _ (by simp [ht]; rfl) ?_
  refine go_seqI (fun σ => ∃ o3 o4, σ = [some (.ins true "Net" [] []), some (.int p), some (deedsD ds), o3, o4, none]) ?_ ?_
  · refine go_forM (fun x : Deed × Nat => .tup [.int (x.2 : Nat), deedD x.1]) ds.zipIdx (fun _ σ => ∃ o3 o4, σ = [some (.ins true "Net" [] []), some (.int p), some (deedsD ds), o3, o4, none]) (by simp [enum_map]) ⟨none, none, rfl⟩ ?_ (fun σ h => h)
    rintro i ⟨x, k⟩ σ hx ⟨o3, o4, rfl⟩
    refine ⟨_, by simp; rfl, ?_⟩
    have hm : x ∈ ds := by
      have := List.mem_of_getElem? hx
      exact List.fst_mem_of_mem_zipIdx this
    have ht : m_is_tuple [deedD x, .int 2, .int 2] = .ret (.bl true) [deedD x, .int 2, .int 2] := by
      rw [p_tuple rfl]; simp
    have c1 : m_is_counts [.int p, tI x.1] = .ret (.bl true) [.int p, tI x.1] := by
      have := l1 x hm
      rw [p_counts (plainT_tI (by omega)), cts_ok this (b1 x hm)]
    have c2 : m_is_counts [.int p, tI x.2] = .ret (.bl true) [.int p, tI x.2] := by
      have := l2 x hm
      rw [p_counts (plainT_tI (by omega)), cts_ok this (b2 x hm)]
    refine go_last _ (by
      simp [ht]
      rw [lc_mapA tI (fun _ => .bl true) [x.1, x.2] ?hi (by simp) (fun y hy => by simp at hy; rcases hy with rfl | rfl <;> simp [lcStep, c1, c2])]
      · simp [dAll, toB]
        exact ⟨rfl, rfl⟩
      · rfl) ⟨_, _, rfl⟩
  · rintro σ ⟨o3, o4, rfl⟩
    refine go_step _ (by simp; rfl) ?_
    have hne : ("places" : Str) ≠ "deeds" := by decide
    refine go_last _ (by simp [putKs, putDs, hne]; rfl) ?_
    simp
end Toy
namespace Toy
open PySem PySem.Spec PyProof.Rows L2 DL
/-! ### what can be done -/
def canDo (m : List Int) (x : Deed) : Bool := (List.zip m x.1).all fun p => decide (p.2 ≤ p.1)
def behindP (m : List Int) (x : Deed) : List Int := (List.zip m (List.zip x.1 x.2)).map fun p => p.1 - p.2.1 + p.2.2
theorem p_can_do {p : Int} {ds : List Deed} {m : List Int} {k : Nat} {x : Deed} (hx : ds[k]? = some x) (hl : m.length ≤ 1000) : m_can_do [netD p (deedsD ds), tI m, .int k] = .ret (.bl (canDo m x)) [netD p (deedsD ds), tI m, .int k] := by
  unfold m_can_do; rw [mDef_ap _ _ _ _ rfl]
  simp [hx]
  rw [zip2_map, lc_mapA _ (fun p : Int × Int => .bl (decide (p.2 ≤ p.1))) (List.zip m x.1) rfl (by simp; omega) (fun q _ => by simp [lcStep])]
  simp [dAll_map, canDo]
theorem p_behind {p : Int} {ds : List Deed} {m : List Int} {k : Nat} {x : Deed} (hx : ds[k]? = some x) (hl : m.length ≤ 1000) : m_behind [netD p (deedsD ds), tI m, .int k] = .ret (tI (behindP m x)) [netD p (deedsD ds), tI m, .int k] := by
  unfold m_behind; rw [mDef_ap _ _ _ _ rfl]
  simp [hx, sSeq_ap]
  rw [zip3_map, lc_mapA _ (fun p : Int × Int × Int => .int (p.1 - p.2.1 + p.2.2)) (List.zip m (List.zip x.1 x.2)) rfl (by simp; omega) (fun q _ => by simp [lcStep])]
  simp [behindP, Function.comp_def]
theorem filterMap_ite {α β : Type} (p : α → Bool) (f : α → β) : ∀ L : List α, L.filterMap (fun x => if p x = true then some (f x) else none) = (L.filter p).map f
  | [] => rfl
  | x :: L => by
    have := filterMap_ite p f L
    cases h : p x <;> simp [h, this]
def canAt (ds : List Deed) (m : List Int) (k : Nat) : Bool := match ds[k]? with
  | some x => canDo m x
  | none => false
def readyP (ds : List Deed) (m : List Int) : List Nat := (List.range ds.length).filter (canAt ds m)
theorem p_ready_of {p : Int} {ds : List Deed} {m : List Int} (hl : m.length ≤ 1000) (hd : ds.length ≤ 1000) : m_ready_of [netD p (deedsD ds), tI m] = .ret (.lst true ((readyP ds m).map fun k : Nat => .int (k : Int))) [netD p (deedsD ds), tI m] := by
  have hr : rngOk (ds.length : Int) := rngOk_nat (by omega)
  unfold m_ready_of; rw [mDef_ap _ _ _ _ rfl]
  simp [hr]
  rw [lc_mapL (fun k : Nat => .int (k : Int)) (fun k : Nat => if canAt ds m k = true then some (.int (k : Int)) else none) (List.range ds.length) rfl (by rw [List.length_range]; omega) (fun k hk => ?_)]
  · rw [filterMap_ite]
    simp [readyP]
  · have hk : k < ds.length := by simpa using hk
    have hx := List.getElem?_eq_getElem hk
    have hc : canAt ds m k = canDo m ds[k] := by simp [canAt, hx]
    simp [lcStep, p_can_do hx hl, hc]
    cases canDo m ds[k] <;> simp
end Toy
namespace Toy
open PySem PySem.Spec PyProof.Rows L2 DL
/-! ### states, lives, acts -/
structure St where
  p : Int
  ds : List Deed
  m : List Int
abbrev pD (s : St) : D := .tup [netD s.p (deedsD s.ds), tI s.m]
abbrev stD (s : St) : D := .tup [.int s.p, deedsD s.ds, tI s.m]
abbrev lifeD (pr : D) (es ss : List D) : D := .ins true "Life" ["present", "elders", "said"] [pr, .lst true es, .lst true ss]
structure StOk (s : St) : Prop where
  net : NetOk s.p s.ds
  p1 : 1 ≤ s.p
  p4 : s.p ≤ 4
  lm : (s.m.length : Int) = s.p
  bm : ∀ z ∈ s.m, 0 ≤ z ∧ z ≤ 1000000
inductive Act where
  | dO (d : D) | leave (d : D) | add (r : List Int) (b : D) | put (x y : D) | take (x y : D)
def actD : Act → D
  | .dO d => .tup [.str "do", d]
  | .leave d => .tup [.str "leave", d]
  | .add r b => .tup [.str "add", tI r, b]
  | .put x y => .tup [.str "put", x, y]
  | .take x y => .tup [.str "take", x, y]
inductive Res where
  | ok (s : St) | bad (w : D) (c : Str) (ks : List Str) (vs : List D)
def deedB : Res := .bad (.str "deed") "NoDeed" [] []
def readyB (d : D) : Res := .bad (.tup [.str "ready", d]) "NotReady" ["at"] [d]
def greatB : Res := .bad (.str "great") "TooGreat" [] []
def numB : Res := .bad (.str "number") "NoNumber" [] []
def markB : Res := .bad (.str "mark") "NoMark" [] []
/-- a number as a place -/
def natOf (d : D) : Nat := match d with
  | .int i => i.toNat
  | _ => 0
def intOf (d : D) : Int := match d with
  | .int i => i
  | _ => 0
def intsOf (d : D) : List Int := match d with
  | .tup ds => ds.map intOf
  | _ => []
def few (m : List Int) : Bool := m.all fun z => decide (z ≤ 1000000)
def resDo (s : St) (d : D) : Res := if wi d 0 (s.ds.length - 1) then (match s.ds[natOf d]? with
  | some x => if canDo s.m x then (if few (behindP s.m x) then .ok { s with m := behindP s.m x } else greatB) else readyB d
  | none => deedB) else deedB
def resLeave (s : St) (d : D) : Res := if wi d 0 (s.ds.length - 1) then .ok { s with ds := s.ds.take (natOf d) ++ s.ds.drop (natOf d + 1) } else deedB
def resAdd (s : St) (r : List Int) (b : D) : Res := if cts s.p (tI r) 9 && cts s.p b 9 then (if s.ds.length = 16 then greatB else .ok { s with ds := s.ds ++ [(r, intsOf b)] }) else deedB
def resPut (s : St) (x y : D) : Res := if wi x 0 (s.p - 1) && wi y 0 1000000 then (if s.m.getD (natOf x) 0 + intOf y ≤ 1000000 then .ok { s with m := s.m.take (natOf x) ++ [s.m.getD (natOf x) 0 + intOf y] ++ s.m.drop (natOf x + 1) } else greatB) else numB
def resTake (s : St) (x y : D) : Res := if wi x 0 (s.p - 1) && wi y 0 1000000 then (if intOf y ≤ s.m.getD (natOf x) 0 then .ok { s with m := s.m.take (natOf x) ++ [s.m.getD (natOf x) 0 - intOf y] ++ s.m.drop (natOf x + 1) } else markB) else numB
def resP (s : St) : Act → Res
  | .dO d => resDo s d
  | .leave d => resLeave s d
  | .add r b => resAdd s r b
  | .put x y => resPut s x y
  | .take x y => resTake s x y
/-- how the life's method ends -/
def outP (s : St) (es ss : List D) (as : List D) (w : D) : Res → OutC
  | .ok s' => .ret .non (lifeD (pD s') (es ++ [pD s]) (ss ++ [w]) :: as)
  | .bad _ c ks vs => .exc c ks vs (lifeD (pD s) es ss :: as)
@[simp] theorem f_present (o : Bool) (x : List D) (es ss : D) : dFld "present" (.ins o "Life" ["present", "elders", "said"] [.tup x, es, ss]) = some (.tup x) := rfl
theorem so_k : ("present" : Str) ≠ "elders" ∧ ("present" : Str) ≠ "said" ∧ ("elders" : Str) ≠ "said" ∧ ("elders" : Str) ≠ "present" ∧ ("said" : Str) ≠ "present" ∧ ("said" : Str) ≠ "elders" := by decide
@[simp] theorem lk_present (x es ss : D) : lookK "present" ["present", "elders", "said"] [x, es, ss] = some x := rfl
@[simp] theorem lk_elders (x es ss : D) : lookK "elders" ["present", "elders", "said"] [x, es, ss] = some es := rfl
@[simp] theorem lk_said (x es ss : D) : lookK "said" ["present", "elders", "said"] [x, es, ss] = some ss := rfl
@[simp] theorem pd_present (y x es ss : D) : putDs "present" y ["present", "elders", "said"] [x, es, ss] = [y, es, ss] := rfl
@[simp] theorem pd_elders (y x es ss : D) : putDs "elders" y ["present", "elders", "said"] [x, es, ss] = [x, y, ss] := rfl
@[simp] theorem pd_said (y x es ss : D) : putDs "said" y ["present", "elders", "said"] [x, es, ss] = [x, es, y] := rfl
@[simp] theorem pk_present : putKs "present" (["present", "elders", "said"] : List Str) = (["present", "elders", "said"] : List Str) := by simp [putKs]
theorem appF2_ins (f : Str) (i : Nat) (n : Str) (ks : List Str) (vs ds : List D) (d : D) (σ : En) (h : lookK f ks vs = some (.lst true ds)) (hl : ds.length < 16777216) : appF2 f i (some (.ins true n ks vs)) (some d) σ = .nx (σ.set i (some (.ins true n ks (putDs f (.lst true (ds ++ [d])) ks vs)))) := by
  unfold appF2; simp only [h]; rw [if_pos hl]
theorem p_go_on {pr : List D} {es ss : List D} {o : Bool} {p : Int} {ds : List Deed} {m : List Int} {w : List D} (hle : es.length < 10000) (hls : ss.length < 10000) :
    m_Life_go_on [lifeD (.tup pr) es ss, netO o p (deedsD ds), tI m, .tup w] = .ret .non [lifeD (.tup [netD p (deedsD ds), tI m]) (es ++ [.tup pr]) (ss ++ [.tup w]), netD p (deedsD ds), tI m, .tup w] := by
  unfold m_Life_go_on
  refine mdef_eq rfl ?_
  have h1 : es.length < 16777216 := by omega
  have h2 : ss.length < 16777216 := by omega
  refine go_step [some (lifeD (.tup pr) (es ++ [.tup pr]) ss), some (netO o p (deedsD ds)), some (tI m), some (.tup w)] (by
    simp
    rw [appF2_ins _ _ _ _ _ es _ _ rfl h1]; rfl) ?_
  refine go_step [some (lifeD (.tup pr) (es ++ [.tup pr]) (ss ++ [.tup w])), some (netO o p (deedsD ds)), some (tI m), some (.tup w)] (by
    simp [shAt, sget]
    rw [appF2_ins _ _ _ _ _ ss _ _ rfl h2]; rfl) ?_
  cases o with
  | false => exact go_last _ (by simp; rfl) (by simp)
  | true => exact go_last _ (by simp; rfl) (by simp)
theorem p_init {p : Int} {ds : List Deed} {d : D} (h : plainT d) : m_Life_init [.ins true "Life" [] [], netD p (deedsD ds), d] =
    if cts p d 1000000 then .ret .non [lifeD (.tup [netD p (deedsD ds), d]) [] [], netD p (deedsD ds), d] else .exc "NoMark" [] [] [.ins true "Life" [] [], netD p (deedsD ds), d] := by
  have hz := fz_plain h.1
  have hs := share_fz hz
  unfold m_Life_init
  cases hc : cts p d 1000000 with
  | false =>
    refine mdef_eq rfl ?_
    exact go_seq_xc "NoMark" [] [] [some (.ins true "Life" [] []), some (netD p (deedsD ds)), some d] (by simp [hz, p_check_mark h, hc]) (by simp)
  | true =>
    refine mdef_eq rfl ?_
    obtain ⟨k1, k2, k3, k4, k5, k6⟩ := so_k
    refine go_step _ (by simp [hz, p_check_mark h, hc]; rfl) ?_
    refine go_step _ (by simp [hz, hs, putKs, putDs]; rfl) ?_
    refine go_step _ (by simp [hz, putKs, putDs, k1]; rfl) ?_
    exact go_last [some (lifeD (.tup [netD p (deedsD ds), d]) [] []), some (netD p (deedsD ds)), some d] (by simp [hz, putKs, putDs, k1, k2, k3]) (by simp)
theorem p_check_deed {p : Int} {es : List D} {d : D} (h : plainK d) (hl : es.length ≤ 1000) : m_check_deed [netD p (.tup es), d] = if wi d 0 (es.length - 1) then .ret .non [netD p (.tup es), d] else .exc "NoDeed" [] [] [netD p (.tup es), d] := by
  have hz := fz_plain h
  have hl2 : es.length ≤ 16777216 := by omega
  unfold m_check_deed; rw [mDef_ap _ _ _ _ rfl]
  cases hc : wi d 0 (es.length - 1) <;> simp [hz, p_within h, hc, hl2]
theorem wi_int_of {d : D} {a b : Int} (h : wi d a b = true) : ∃ i : Int, d = .int i ∧ a ≤ i ∧ i ≤ b := by
  cases d <;> simp [wi] at h
  exact ⟨_, rfl, h.1, h.2⟩
theorem methK_life (m : Str) (x es ss : D) (h : (["present", "elders", "said"] : List Str).contains m = false) : methK "Life" m (some (.ins true "Life" ["present", "elders", "said"] [x, es, ss])) = true := by
  unfold methK; simp [h]
  have := h
  simp at this
  exact this
theorem no_meth : (["present", "elders", "said"] : List Str).contains "do" = false ∧ (["present", "elders", "said"] : List Str).contains "leave" = false ∧ (["present", "elders", "said"] : List Str).contains "add" = false ∧ (["present", "elders", "said"] : List Str).contains "put" = false ∧ (["present", "elders", "said"] : List Str).contains "take" = false ∧
    (["present", "elders", "said"] : List Str).contains "go_on" = false ∧ (["present", "elders", "said"] : List Str).contains "now" = false ∧ (["present", "elders", "said"] : List Str).contains "ready" = false ∧ (["present", "elders", "said"] : List Str).contains "tokens" = false := by decide
@[simp] theorem mk_do (x es ss : D) : methK "Life" "do" (some (.ins true "Life" ["present", "elders", "said"] [x, es, ss])) = true := methK_life _ _ _ _ no_meth.1
@[simp] theorem mk_leave (x es ss : D) : methK "Life" "leave" (some (.ins true "Life" ["present", "elders", "said"] [x, es, ss])) = true := methK_life _ _ _ _ no_meth.2.1
@[simp] theorem mk_add (x es ss : D) : methK "Life" "add" (some (.ins true "Life" ["present", "elders", "said"] [x, es, ss])) = true := methK_life _ _ _ _ no_meth.2.2.1
@[simp] theorem mk_put (x es ss : D) : methK "Life" "put" (some (.ins true "Life" ["present", "elders", "said"] [x, es, ss])) = true := methK_life _ _ _ _ no_meth.2.2.2.1
@[simp] theorem mk_take (x es ss : D) : methK "Life" "take" (some (.ins true "Life" ["present", "elders", "said"] [x, es, ss])) = true := methK_life _ _ _ _ no_meth.2.2.2.2.1
@[simp] theorem mk_go (x es ss : D) : methK "Life" "go_on" (some (.ins true "Life" ["present", "elders", "said"] [x, es, ss])) = true := methK_life _ _ _ _ no_meth.2.2.2.2.2.1
@[simp] theorem mk_now (x es ss : D) : methK "Life" "now" (some (.ins true "Life" ["present", "elders", "said"] [x, es, ss])) = true := methK_life _ _ _ _ no_meth.2.2.2.2.2.2.1
@[simp] theorem mk_ready (x es ss : D) : methK "Life" "ready" (some (.ins true "Life" ["present", "elders", "said"] [x, es, ss])) = true := methK_life _ _ _ _ no_meth.2.2.2.2.2.2.2.1
@[simp] theorem mk_tokens (x es ss : D) : methK "Life" "tokens" (some (.ins true "Life" ["present", "elders", "said"] [x, es, ss])) = true := methK_life _ _ _ _ no_meth.2.2.2.2.2.2.2.2
theorem maxOf_le (b : Int) : ∀ (ns : List Int) (n : Int), PySem.W.maxOf n ns ≤ b ↔ n ≤ b ∧ ∀ z ∈ ns, z ≤ b := by
  intro ns
  induction ns with
  | nil => intro n; simp [PySem.W.maxOf]
  | cons x xs ih =>
    intro n
    have e : PySem.W.maxOf n (x :: xs) = PySem.W.maxOf (if n < x then x else n) xs := by
      unfold PySem.W.maxOf
      simp only [List.foldl_cons]
      congr 1
      by_cases h : n < x <;> simp [h, PySem.W.DatumOrd.lt]
    rw [e, ih]
    constructor
    · rintro ⟨h1, h2⟩
      refine ⟨by split at h1 <;> omega, fun z hz => ?_⟩
      rcases List.mem_cons.mp hz with rfl | hz
      · split at h1 <;> omega
      · exact h2 z hz
    · rintro ⟨h1, h2⟩
      have := h2 x (by simp)
      exact ⟨by split <;> omega, fun z hz => h2 z (by simp [hz])⟩
theorem few_iff (m : List Int) : few m = true ↔ ∀ z ∈ m, z ≤ 1000000 := by
  unfold few; rw [List.all_eq_true]; simp
theorem max_few (m : List Int) : decide (1000000 < PySem.W.maxOf 0 m) = !few m := by
  rw [Bool.eq_iff_iff, decide_eq_true_eq]
  have := maxOf_le 1000000 m 0
  rw [Bool.not_eq_true', ← Bool.not_eq_true, few_iff]
  constructor
  · intro h z
    have := this.mpr ⟨by decide, z⟩
    omega
  · intro h
    have h2 : ¬ PySem.W.maxOf 0 m ≤ 1000000 := fun z => h (this.mp z).2
    omega
theorem dMaxT_tI (z : Int) (m : List Int) : dMaxT (.tup (.int z :: m.map .int)) = some (.int (PySem.W.maxOf z m)) := by
  have : toI (.int z :: m.map .int) = some (z :: m) := by
    have := toI_map (z :: m)
    simpa using this
  simp only [dMaxT, this]
theorem behind_len (m : List Int) (x : Deed) : (behindP m x).length ≤ m.length := by simp [behindP]; omega
theorem p_Life_do {s : St} {es ss : List D} {d : D} (h : StOk s) (hd : plainK d) (hle : es.length < 10000) (hls : ss.length < 10000) :
    m_Life_do [lifeD (pD s) es ss, d] = outP s es ss [d] (.tup [.str "do", d]) (resDo s d) := by
  have hz := fz_plain hd
  have hs := share_fz hz
  have hn := h.net.hd
  have cd := p_check_deed (p := s.p) (es := s.ds.map deedD) hd (by simp; omega)
  simp only [List.length_map] at cd
  have hlm : s.m.length ≤ 1000 := by have := h.lm; have := h.p4; omega
  unfold m_Life_do
  refine mdef_eq rfl ?_
  refine go_step [some (lifeD (pD s) es ss), some d, some (netD s.p (deedsD s.ds)), some (tI s.m), none] (by simp) ?_
  unfold resDo
  cases hw : wi d 0 (s.ds.length - 1) with
  | false => exact go_seq_xc "NoDeed" [] [] [some (lifeD (pD s) es ss), some d, some (netD s.p (deedsD s.ds)), some (tI s.m), none] (by simp [hz, cd, hw]) (by simp [outP, deedB])
  | true =>
    obtain ⟨i, rfl, h0, h1⟩ := wi_int_of hw
    obtain ⟨k, rfl⟩ : ∃ k : Nat, i = k := ⟨i.toNat, by omega⟩
    have hk : k < s.ds.length := by omega
    have hx := List.getElem?_eq_getElem hk
    have e0 : natOf (.int (k : Int)) = k := by simp [natOf]
    refine go_step [some (lifeD (pD s) es ss), some (.int k), some (netD s.p (deedsD s.ds)), some (tI s.m), none] (by simp [cd, hw]) ?_
    simp only [e0, hx, if_true]
    have c1 := p_can_do (p := s.p) hx hlm
    have b1 := p_behind (p := s.p) hx hlm
    generalize s.ds[k] = x at c1 b1
    cases hc : canDo s.m x with
    | false => exact go_seq_xc "NotReady" ["at"] [.int k] [some (lifeD (pD s) es ss), some (.int k), some (netD s.p (deedsD s.ds)), some (tI s.m), none] (by simp [c1, hc]) (by simp [outP, readyB])
    | true =>
      have bl : (behindP s.m x).length + 1 ≤ 16777216 := by have := behind_len s.m x; omega
      have bl2 : 1 + (behindP s.m x).length ≤ 16777216 := by omega
      refine go_step _ (by simp [c1, hc]; rfl) ?_
      refine go_step _ (by simp [b1]; rfl) ?_
      have mf := max_few (behindP s.m x)
      cases hf : few (behindP s.m x) with
      | false =>
        rw [hf] at mf
        exact go_seq_xc "TooGreat" [] [] [some (lifeD (pD s) es ss), some (.int k), some (netD s.p (deedsD s.ds)), some (tI s.m), some (tI (behindP s.m x))] (by simp [bl, bl2, dMaxT_tI, mf]) (by simp [outP, greatB])
      | true =>
        rw [hf] at mf
        have mf' : ¬ 1000000 < PySem.W.maxOf 0 (behindP s.m x) := by simpa using mf
        refine go_step [some (lifeD (pD s) es ss), some (.int k), some (netD s.p (deedsD s.ds)), some (tI s.m), some (tI (behindP s.m x))] (by simp [bl, bl2, dMaxT_tI, mf]) ?_
        have g := p_go_on (pr := [netD s.p (deedsD s.ds), tI s.m]) (o := false) (p := s.p) (ds := s.ds) (m := behindP s.m x) (w := [.str "do", .int k]) hle hls
        exact go_last [some (lifeD (pD { s with m := behindP s.m x }) (es ++ [pD s]) (ss ++ [.tup [.str "do", .int k]])), some (.int k), some (netD s.p (deedsD s.ds)), some (tI s.m), some (tI (behindP s.m x))] (by simp [g]) (by simp [outP])
end Toy
namespace Toy
open PySem PySem.Spec PyProof.Rows L2 DL
theorem cut_lo {α : Type} (xs : List α) {k : Nat} (hk : k ≤ xs.length) : cutL xs none (some (k : Int)) = xs.take k := by
  have h0 : ¬ ((k : Int) < 0) := by omega
  simp [cutL, HT.sIx, h0]
theorem cut_hi {α : Type} (xs : List α) {k : Nat} (hk : k < xs.length) : cutL xs (some ((k : Int) + 1)) none = xs.drop (k + 1) := by
  have e : ((k : Int) + 1) = ((k + 1 : Nat) : Int) := by omega
  have h0 : ¬ (((k + 1 : Nat) : Int) < 0) := by omega
  rw [e]
  have h2 : min (k + 1) xs.length = k + 1 := by omega
  simp only [cutL, HT.sIx, h0, if_false, Int.toNat_natCast, h2]
  rw [List.take_of_length_le (by simp)]
theorem mark_at {s : St} (h : StOk s) {k : Nat} (h1 : (k : Int) ≤ s.p - 1) : k < s.m.length := by have := h.lm; omega
theorem p_Life_put {s : St} {es ss : List D} {x y : D} (h : StOk s) (hx : plainK x) (hy : plainK y) (hle : es.length < 10000) (hls : ss.length < 10000) :
    m_Life_put [lifeD (pD s) es ss, x, y] = outP s es ss [x, y] (.tup [.str "put", x, y]) (resPut s x y) := by
  have zx := fz_plain hx
  have zy := fz_plain hy
  have c1 := p_within (a := 0) (b := s.p - 1) hx
  have c2 := p_within (a := 0) (b := 1000000) hy
  have hlm : s.m.length ≤ 1000 := by have := h.lm; have := h.p4; omega
  unfold m_Life_put
  refine mdef_eq rfl ?_
  refine go_step [some (lifeD (pD s) es ss), some x, some y, some (netD s.p (deedsD s.ds)), some (tI s.m)] (by simp) ?_
  unfold resPut
  cases hw : wi x 0 (s.p - 1) with
  | false => exact go_seq_xc "NoNumber" [] [] [some (lifeD (pD s) es ss), some x, some y, some (netD s.p (deedsD s.ds)), some (tI s.m)] (by simp [zx, zy, c1, hw]) (by simp [outP, numB])
  | true =>
    cases hw2 : wi y 0 1000000 with
    | false => exact go_seq_xc "NoNumber" [] [] [some (lifeD (pD s) es ss), some x, some y, some (netD s.p (deedsD s.ds)), some (tI s.m)] (by simp [zx, zy, c1, hw, c2, hw2]) (by simp [outP, numB])
    | true =>
      refine go_step [some (lifeD (pD s) es ss), some x, some y, some (netD s.p (deedsD s.ds)), some (tI s.m)] (by simp [zx, zy, c1, hw, c2, hw2]) ?_
      obtain ⟨i, rfl, h0, h1⟩ := wi_int_of hw
      obtain ⟨j, rfl, j0, j1⟩ := wi_int_of hw2
      obtain ⟨k, rfl⟩ : ∃ k : Nat, i = k := ⟨i.toNat, by omega⟩
      have hk := mark_at h h1
      have e0 : natOf (.int (k : Int)) = k := by simp [natOf]
      have e1 : intOf (.int j) = j := rfl
      have e2 : s.m.getD k 0 = s.m[k] := by simp [List.getD, hk]
      simp only [e0, e1, e2, Bool.and_self, if_true]
      by_cases hf : s.m[k] + j ≤ 1000000
      · have hf' : ¬ 1000000 < s.m[k] + j := by omega
        refine go_step [some (lifeD (pD s) es ss), some (.int k), some (.int j), some (netD s.p (deedsD s.ds)), some (tI s.m)] (by simp [hk, hf']) ?_
        have g := p_go_on (pr := [netD s.p (deedsD s.ds), tI s.m]) (o := false) (p := s.p) (ds := s.ds) (m := s.m.take k ++ [s.m[k] + j] ++ s.m.drop (k + 1)) (w := [.str "put", .int k, .int j]) hle hls
        have q1 : dCut (tI s.m) none (some (k : Int)) = some (tI (s.m.take k)) := by
          show some (D.tup _) = _; rw [cutL_map, cut_lo _ (by omega)]
        have q2 : dCut (tI s.m) (some ((k : Int) + 1)) none = some (tI (s.m.drop (k + 1))) := by
          show some (D.tup _) = _; rw [cutL_map, cut_hi _ hk]
        have l1 : (s.m.take k).length + 1 ≤ 16777216 := by simp; omega
        have l2 : (s.m.take k).length + 1 + (s.m.drop (k + 1)).length ≤ 16777216 := by simp; omega
        rw [if_pos hf]
        generalize s.m.take k = A at q1 g l1 l2 ⊢
        generalize s.m.drop (k + 1) = B at q2 g l2 ⊢
        refine go_last [some (lifeD (pD { s with m := A ++ [s.m[k] + j] ++ B }) (es ++ [pD s]) (ss ++ [.tup [.str "put", .int k, .int j]])), some (.int k), some (.int j), some (netD s.p (deedsD s.ds)), some (tI s.m)] ?_ (by simp [outP])
        simp only [tI, List.map_append, List.map_cons, List.map_nil, List.append_assoc, List.cons_append, List.nil_append] at g
        simp [hk, q1, q2, l1, l2, g]
      · have hf' : 1000000 < s.m[k] + j := by omega
        rw [if_neg hf]
        exact go_seq_xc "TooGreat" [] [] [some (lifeD (pD s) es ss), some (.int k), some (.int j), some (netD s.p (deedsD s.ds)), some (tI s.m)] (by simp [hk, hf']) (by simp [outP, greatB])
theorem p_Life_take {s : St} {es ss : List D} {x y : D} (h : StOk s) (hx : plainK x) (hy : plainK y) (hle : es.length < 10000) (hls : ss.length < 10000) :
    m_Life_take [lifeD (pD s) es ss, x, y] = outP s es ss [x, y] (.tup [.str "take", x, y]) (resTake s x y) := by
  have zx := fz_plain hx
  have zy := fz_plain hy
  have c1 := p_within (a := 0) (b := s.p - 1) hx
  have c2 := p_within (a := 0) (b := 1000000) hy
  have hlm : s.m.length ≤ 1000 := by have := h.lm; have := h.p4; omega
  unfold m_Life_take
  refine mdef_eq rfl ?_
  refine go_step [some (lifeD (pD s) es ss), some x, some y, some (netD s.p (deedsD s.ds)), some (tI s.m)] (by simp) ?_
  unfold resTake
  cases hw : wi x 0 (s.p - 1) with
  | false => exact go_seq_xc "NoNumber" [] [] [some (lifeD (pD s) es ss), some x, some y, some (netD s.p (deedsD s.ds)), some (tI s.m)] (by simp [zx, zy, c1, hw]) (by simp [outP, numB])
  | true =>
    cases hw2 : wi y 0 1000000 with
    | false => exact go_seq_xc "NoNumber" [] [] [some (lifeD (pD s) es ss), some x, some y, some (netD s.p (deedsD s.ds)), some (tI s.m)] (by simp [zx, zy, c1, hw, c2, hw2]) (by simp [outP, numB])
    | true =>
      refine go_step [some (lifeD (pD s) es ss), some x, some y, some (netD s.p (deedsD s.ds)), some (tI s.m)] (by simp [zx, zy, c1, hw, c2, hw2]) ?_
      obtain ⟨i, rfl, h0, h1⟩ := wi_int_of hw
      obtain ⟨j, rfl, j0, j1⟩ := wi_int_of hw2
      obtain ⟨k, rfl⟩ : ∃ k : Nat, i = k := ⟨i.toNat, by omega⟩
      have hk := mark_at h h1
      have e0 : natOf (.int (k : Int)) = k := by simp [natOf]
      have e1 : intOf (.int j) = j := rfl
      have e2 : s.m.getD k 0 = s.m[k] := by simp [List.getD, hk]
      simp only [e0, e1, e2, Bool.and_self, if_true]
      by_cases hf : j ≤ s.m[k]
      · have hf' : ¬ s.m[k] < j := by omega
        refine go_step [some (lifeD (pD s) es ss), some (.int k), some (.int j), some (netD s.p (deedsD s.ds)), some (tI s.m)] (by simp [hk, hf']) ?_
        have g := p_go_on (pr := [netD s.p (deedsD s.ds), tI s.m]) (o := false) (p := s.p) (ds := s.ds) (m := s.m.take k ++ [s.m[k] - j] ++ s.m.drop (k + 1)) (w := [.str "take", .int k, .int j]) hle hls
        have q1 : dCut (tI s.m) none (some (k : Int)) = some (tI (s.m.take k)) := by
          show some (D.tup _) = _; rw [cutL_map, cut_lo _ (by omega)]
        have q2 : dCut (tI s.m) (some ((k : Int) + 1)) none = some (tI (s.m.drop (k + 1))) := by
          show some (D.tup _) = _; rw [cutL_map, cut_hi _ hk]
        have l1 : (s.m.take k).length + 1 ≤ 16777216 := by simp; omega
        have l2 : (s.m.take k).length + 1 + (s.m.drop (k + 1)).length ≤ 16777216 := by simp; omega
        rw [if_pos hf]
        generalize s.m.take k = A at q1 g l1 l2 ⊢
        generalize s.m.drop (k + 1) = B at q2 g l2 ⊢
        refine go_last [some (lifeD (pD { s with m := A ++ [s.m[k] - j] ++ B }) (es ++ [pD s]) (ss ++ [.tup [.str "take", .int k, .int j]])), some (.int k), some (.int j), some (netD s.p (deedsD s.ds)), some (tI s.m)] ?_ (by simp [outP])
        simp only [tI, List.map_append, List.map_cons, List.map_nil, List.append_assoc, List.cons_append, List.nil_append] at g
        simp [hk, q1, q2, l1, l2, g]
      · have hf' : s.m[k] < j := by omega
        rw [if_neg hf]
        exact go_seq_xc "NoMark" [] [] [some (lifeD (pD s) es ss), some (.int k), some (.int j), some (netD s.p (deedsD s.ds)), some (tI s.m)] (by simp [hk, hf']) (by simp [outP, markB])
theorem netOk_sub {p : Int} {ds ds' : List Deed} (h : NetOk p ds) (hs : ∀ x ∈ ds', x ∈ ds) (hl : ds'.length ≤ 16) : NetOk p ds' :=
  ⟨h.h0, h.h1, hl, fun x hx => h.l1 x (hs x hx), fun x hx => h.l2 x (hs x hx), fun x hx => h.b1 x (hs x hx), fun x hx => h.b2 x (hs x hx)⟩
theorem netOk_leave {p : Int} {ds : List Deed} (h : NetOk p ds) (k : Nat) : NetOk p (ds.take k ++ ds.drop (k + 1)) := by
  refine netOk_sub h (fun x hx => ?_) (by have := h.hd; simp; omega)
  rcases List.mem_append.mp hx with hx | hx
  · exact List.mem_of_mem_take hx
  · exact List.mem_of_mem_drop hx
theorem p_Life_leave {s : St} {es ss : List D} {d : D} (h : StOk s) (hd : plainK d) (hle : es.length < 10000) (hls : ss.length < 10000) :
    m_Life_leave [lifeD (pD s) es ss, d] = outP s es ss [d] (.tup [.str "leave", d]) (resLeave s d) := by
  have hz := fz_plain hd
  have hn := h.net.hd
  have cd := p_check_deed (p := s.p) (es := s.ds.map deedD) hd (by simp; omega)
  simp only [List.length_map] at cd
  unfold m_Life_leave
  refine mdef_eq rfl ?_
  refine go_step [some (lifeD (pD s) es ss), some d, some (netD s.p (deedsD s.ds)), some (tI s.m)] (by simp) ?_
  unfold resLeave
  cases hw : wi d 0 (s.ds.length - 1) with
  | false => exact go_seq_xc "NoDeed" [] [] [some (lifeD (pD s) es ss), some d, some (netD s.p (deedsD s.ds)), some (tI s.m)] (by simp [hz, cd, hw]) (by simp [outP, deedB])
  | true =>
    obtain ⟨i, rfl, h0, h1⟩ := wi_int_of hw
    obtain ⟨k, rfl⟩ : ∃ k : Nat, i = k := ⟨i.toNat, by omega⟩
    have hk : k < s.ds.length := by omega
    have e0 : natOf (.int (k : Int)) = k := by simp [natOf]
    refine go_step [some (lifeD (pD s) es ss), some (.int k), some (netD s.p (deedsD s.ds)), some (tI s.m)] (by simp [cd, hw]) ?_
    simp only [e0, if_true]
    have ok2 := netOk_leave h.net k
    have ni := p_Net_init ok2
    have g := p_go_on (pr := [netD s.p (deedsD s.ds), tI s.m]) (o := true) (p := s.p) (ds := s.ds.take k ++ s.ds.drop (k + 1)) (m := s.m) (w := [.str "leave", .int k]) hle hls
    have q1 : dCut (deedsD s.ds) none (some (k : Int)) = some (deedsD (s.ds.take k)) := by
      show some (D.tup _) = _; rw [cutL_map, cut_lo _ (by omega)]
    have q2 : dCut (deedsD s.ds) (some ((k : Int) + 1)) none = some (deedsD (s.ds.drop (k + 1))) := by
      show some (D.tup _) = _; rw [cutL_map, cut_hi _ hk]
    have l2 : (s.ds.take k).length + (s.ds.drop (k + 1)).length ≤ 16777216 := by simp; omega
    generalize s.ds.take k = A at q1 g ni l2 ⊢
    generalize s.ds.drop (k + 1) = B at q2 g ni l2 ⊢
    refine go_last [some (lifeD (pD { s with ds := A ++ B }) (es ++ [pD s]) (ss ++ [.tup [.str "leave", .int k]])), some (.int k), some (netD s.p (deedsD s.ds)), some (tI s.m)] ?_ (by simp [outP])
    simp only [deedsD, List.map_append] at g ni
    simp [q1, q2, l2, ni, g]
theorem netOk_add {p : Int} {ds : List Deed} {x : Deed} (h : NetOk p ds) (hl : ds.length < 16) (l1 : (x.1.length : Int) = p) (l2 : (x.2.length : Int) = p) (b1 : ∀ z ∈ x.1, 0 ≤ z ∧ z ≤ 9) (b2 : ∀ z ∈ x.2, 0 ≤ z ∧ z ≤ 9) : NetOk p (ds ++ [x]) := by
  have key : ∀ {P : Deed → Prop}, (∀ y ∈ ds, P y) → P x → ∀ y ∈ ds ++ [x], P y := fun a b y hy => by
    rcases List.mem_append.mp hy with hy | hy
    · exact a y hy
    · rw [List.mem_singleton.mp hy]; exact b
  exact ⟨h.h0, h.h1, by simp; omega, key h.l1 l1, key h.l2 l2, key h.b1 b1, key h.b2 b2⟩
theorem cts_tup {p : Int} {d : D} {m : Int} (h : cts p d m = true) : ∃ xs : List Int, d = tI xs ∧ (xs.length : Int) = p ∧ ∀ z ∈ xs, 0 ≤ z ∧ z ≤ m := by
  cases d <;> simp [cts] at h
  rename_i ds
  obtain ⟨h1, h2⟩ := h
  refine ⟨ds.map intOf, ?_, by simpa using h1, fun z hz => ?_⟩
  · show D.tup ds = D.tup _
    rw [List.map_map]
    congr 1
    conv => lhs; rw [← List.map_id ds]
    apply List.map_congr_left
    intro x hx
    obtain ⟨i, rfl, _⟩ := wi_int_of (h2 x hx)
    rfl
  · obtain ⟨x, hx, rfl⟩ := List.mem_map.mp hz
    obtain ⟨i, rfl, a, b⟩ := wi_int_of (h2 x hx)
    exact ⟨a, b⟩
theorem intsOf_tI (xs : List Int) : intsOf (tI xs) = xs := by
  simp [intsOf, Function.comp_def, intOf]
theorem p_Life_add {s : St} {es ss : List D} {r : List Int} {b : D} (h : StOk s) (hr : r.length ≤ 1000) (hb : plainT b) (hle : es.length < 10000) (hls : ss.length < 10000) :
    m_Life_add [lifeD (pD s) es ss, tI r, b] = outP s es ss [tI r, b] (.tup [.str "add", tI r, b]) (resAdd s r b) := by
  have hz := fz_plain hb.1
  have hn := h.net.hd
  have c1 := p_counts (p := s.p) (plainT_tI (xs := r) (by omega))
  have c2 := p_counts (p := s.p) hb
  unfold m_Life_add
  refine mdef_eq rfl ?_
  refine go_step [some (lifeD (pD s) es ss), some (tI r), some b, some (netD s.p (deedsD s.ds)), some (tI s.m)] (by simp) ?_
  unfold resAdd
  cases hw : cts s.p (tI r) 9 with
  | false => exact go_seq_xc "NoDeed" [] [] [some (lifeD (pD s) es ss), some (tI r), some b, some (netD s.p (deedsD s.ds)), some (tI s.m)] (by simp [hz, c1, hw]) (by simp [outP, deedB])
  | true =>
    cases hw2 : cts s.p b 9 with
    | false => exact go_seq_xc "NoDeed" [] [] [some (lifeD (pD s) es ss), some (tI r), some b, some (netD s.p (deedsD s.ds)), some (tI s.m)] (by simp [hz, c1, hw, c2, hw2]) (by simp [outP, deedB])
    | true =>
      refine go_step [some (lifeD (pD s) es ss), some (tI r), some b, some (netD s.p (deedsD s.ds)), some (tI s.m)] (by simp [hz, c1, hw, c2, hw2]) ?_
      obtain ⟨r', er, r1, r2⟩ := cts_tup hw
      obtain rfl := (tI_inj _ _).mp er
      obtain ⟨ys, rfl, y1, y2⟩ := cts_tup hw2
      rw [intsOf_tI]
      simp only [Bool.and_self, if_true]
      by_cases hf : s.ds.length = 16
      · rw [if_pos hf]
        exact go_seq_xc "TooGreat" [] [] [some (lifeD (pD s) es ss), some (tI r), some (tI ys), some (netD s.p (deedsD s.ds)), some (tI s.m)] (by simp [hf, dEq_int]) (by simp [outP, greatB])
      · rw [if_neg hf]
        have hf' : ¬ (s.ds.length : Int) = 16 := by omega
        have hl2 : s.ds.length ≤ 16777216 := by omega
        refine go_step [some (lifeD (pD s) es ss), some (tI r), some (tI ys), some (netD s.p (deedsD s.ds)), some (tI s.m)] (by simp [hf', hl2, dEq_int]) ?_
        have ok2 := netOk_add (x := (r, ys)) h.net (by omega) r1 y1 r2 y2
        have ni := p_Net_init ok2
        have g := p_go_on (pr := [netD s.p (deedsD s.ds), tI s.m]) (o := true) (p := s.p) (ds := s.ds ++ [(r, ys)]) (m := s.m) (w := [.str "add", tI r, tI ys]) hle hls
        have l2 : s.ds.length + 1 ≤ 16777216 := by omega
        refine go_last [some (lifeD (pD { s with ds := s.ds ++ [(r, ys)] }) (es ++ [pD s]) (ss ++ [.tup [.str "add", tI r, tI ys]])), some (tI r), some (tI ys), some (netD s.p (deedsD s.ds)), some (tI s.m)] ?_ (by simp [outP])
        simp only [deedsD, List.map_append, List.map_cons, List.map_nil] at g ni
        simp [l2, ni, g]
theorem p_Life_now (x : List D) (es ss : List D) : m_Life_now [lifeD (.tup x) es ss] = .ret (.tup x) [lifeD (.tup x) es ss] := by
  unfold m_Life_now; rw [mDef_ap _ _ _ _ rfl]; simp
theorem p_Life_ready {s : St} {es ss : List D} (h : StOk s) : m_Life_ready [lifeD (pD s) es ss] = .ret (.lst true ((readyP s.ds s.m).map fun k : Nat => .int (k : Int))) [lifeD (pD s) es ss] := by
  have := p_ready_of (p := s.p) (ds := s.ds) (m := s.m) (by have := h.lm; have := h.p4; omega) (by have := h.net.hd; omega)
  unfold m_Life_ready; rw [mDef_ap _ _ _ _ rfl]
  simp [this]
theorem p_Life_tokens {s : St} {es ss : List D} : m_Life_tokens [lifeD (pD s) es ss] = .ret (.int s.m.sum) [lifeD (pD s) es ss] := by
  have e : dSum (.lst false (s.m.map .int)) = some (.int s.m.sum) := by simp only [dSum, toI_map]
  unfold m_Life_tokens; rw [mDef_ap _ _ _ _ rfl]
  simp [e]
/-- acts that are drawn -/
def ActOk : Act → Prop
  | .dO d => plainK d = true
  | .leave d => plainK d = true
  | .add r b => r.length ≤ 1000 ∧ plainT b
  | .put x y => plainK x = true ∧ plainK y = true
  | .take x y => plainK x = true ∧ plainK y = true
theorem dEq_str {a b : Str} (ha : PyData.strOk a = true) (hb : PyData.strOk b = true) : dEq (.str a) (.str b) = some (.bl (decide (a = b))) :=
  dEq_T (by simpa [intT] using ha) (by simpa [intT] using hb) (by simp [dep]) (by simp [dep]) (by simp)
theorem dNe_str {a b : Str} (ha : PyData.strOk a = true) (hb : PyData.strOk b = true) : dNe (.str a) (.str b) = some (.bl (!decide (a = b))) :=
  dNe_T (by simpa [intT] using ha) (by simpa [intT] using hb) (by simp [dep]) (by simp [dep]) (by simp)
theorem so_w : PyData.strOk ("do" : Str) = true ∧ PyData.strOk ("leave" : Str) = true ∧ PyData.strOk ("add" : Str) = true ∧ PyData.strOk ("put" : Str) = true ∧ PyData.strOk ("take" : Str) = true := by decide +kernel
theorem ne_w : ("leave" : Str) ≠ "do" ∧ ("add" : Str) ≠ "do" ∧ ("add" : Str) ≠ "leave" ∧ ("put" : Str) ≠ "do" ∧ ("put" : Str) ≠ "leave" ∧ ("put" : Str) ≠ "add" ∧ ("take" : Str) ≠ "do" ∧ ("take" : Str) ≠ "leave" ∧ ("take" : Str) ≠ "add" ∧ ("take" : Str) ≠ "put" := by decide +kernel
theorem p_law_do {s : St} {es ss : List D} {a : Act} (h : StOk s) (ha : ActOk a) (hle : es.length < 10000) (hls : ss.length < 10000) : m__law_do [lifeD (pD s) es ss, actD a] = outP s es ss [actD a] (actD a) (resP s a) := by
  obtain ⟨s1, s2, s3, s4, s5⟩ := so_w
  obtain ⟨n1, n2, n3, n4, n5, n6, n7, n8, n9, n10⟩ := ne_w
  unfold m__law_do; rw [mDef_ap _ _ _ _ rfl]
  cases a with
  | dO d =>
    have hd : plainK d = true := ha
    have q := p_Life_do h hd hle hls
    simp only [actD, resP]
    cases hr : resDo s d with
    | ok s' => rw [hr] at q; simp [dEq_str, s1, q, outP, fz_plain hd, sSeq_ap]
    | bad w c ks vs => rw [hr] at q; simp [dEq_str, s1, q, outP, fz_plain hd, sSeq_ap]
  | leave d =>
    have hd : plainK d = true := ha
    have q := p_Life_leave h hd hle hls
    simp only [actD, resP]
    cases hr : resLeave s d with
    | ok s' => rw [hr] at q; simp [dEq_str, s1, s2, n1, q, outP, fz_plain hd, sSeq_ap]
    | bad w c ks vs => rw [hr] at q; simp [dEq_str, s1, s2, n1, q, outP, fz_plain hd, sSeq_ap]
  | add r b =>
    have q := p_Life_add h ha.1 ha.2 hle hls
    have zb := fz_plain ha.2.1
    simp only [actD, resP]
    cases hr : resAdd s r b with
    | ok s' => rw [hr] at q; simp [dEq_str, s1, s2, s3, n1, n2, n3, q, outP, zb, sSeq_ap]
    | bad w c ks vs => rw [hr] at q; simp [dEq_str, s1, s2, s3, n1, n2, n3, q, outP, zb, sSeq_ap]
  | put x y =>
    have q := p_Life_put h ha.1 ha.2 hle hls
    have zx := fz_plain ha.1
    have zy := fz_plain ha.2
    simp only [actD, resP]
    cases hr : resPut s x y with
    | ok s' => rw [hr] at q; simp [dEq_str, s1, s2, s3, s4, n4, n5, n6, q, outP, zx, zy, sSeq_ap]
    | bad w c ks vs => rw [hr] at q; simp [dEq_str, s1, s2, s3, s4, n4, n5, n6, q, outP, zx, zy, sSeq_ap]
  | take x y =>
    have q := p_Life_take h ha.1 ha.2 hle hls
    have zx := fz_plain ha.1
    have zy := fz_plain ha.2
    simp only [actD, resP]
    cases hr : resTake s x y with
    | ok s' => rw [hr] at q; simp [dEq_str, s1, s2, s3, s4, s5, n7, n8, n9, n10, q, outP, zx, zy, sSeq_ap]
    | bad w c ks vs => rw [hr] at q; simp [dEq_str, s1, s2, s3, s4, s5, n7, n8, n9, n10, q, outP, zx, zy, sSeq_ap]
end Toy
namespace Toy
open PySem PySem.Spec PyProof.Rows L2 DL
/-! ### comprehensions that draw -/
theorem lc_handO {α : Type} (q : α → D) {vs : List Nat} {g : GF} {t : TF} {f : EF} (E : D → En) (Q : α → Prop) (n : Nat) (hn : n ≤ 16777216)
    (step : ∀ (h : D) (k : Nat), k < n → Hand h → ∃ (o : Option α) (h' : D), Hand h' ∧ (∀ x, o = some x → Q x) ∧ lcStep vs g t f (.int (k : Int)) (E h) = some (o.map q, E h'))
    {h : D} (H : Hand h) : ∃ (xs : List α) (h' : D), Hand h' ∧ xs.length ≤ n ∧ (∀ x ∈ xs, Q x) ∧ lcLoop vs g t f ((List.range n).map fun k : Nat => D.int (k : Int)) [] (E h) = .ok (xs.map q) (E h') := by
  obtain ⟨acc, σ', ee, xs, h', H', a1, a2, a3, a4⟩ := lc_go (vs := vs) (g := g) (t := t) (f := f)
    (fun k acc σ => ∃ (xs : List α) (h' : D), Hand h' ∧ acc = xs.map q ∧ xs.length ≤ k ∧ (∀ x ∈ xs, Q x) ∧ σ = E h')
    ((List.range n).map fun k : Nat => D.int (k : Int)) 0 [] (E h) ⟨[], h, H, rfl, by simp, by simp, rfl⟩ (by simpa using hn) (by
      rintro i d acc σ hi ⟨xs, h', H', rfl, hl, hb, rfl⟩
      obtain ⟨hi1, hi2⟩ := List.getElem?_eq_some_iff.mp hi
      have hik : i < n := by simpa using hi1
      have hd : d = .int (i : Int) := by rw [← hi2]; simp
      subst hd
      obtain ⟨o, h2, H2, hq, es⟩ := step h' i hik H'
      refine ⟨o.map q, E h2, es, xs ++ o.toList, h2, H2, by cases o <;> simp, ?_, ?_, rfl⟩
      · cases o <;> simp <;> omega
      · intro x hx
        rcases List.mem_append.mp hx with hx | hx
        · exact hb x hx
        · cases o with
          | none => simp at hx
          | some y => simp at hx; subst hx; exact hq _ rfl)
  subst a1 a4
  exact ⟨xs, h', H', by simpa using a2, a3, ee⟩
theorem lc_handA {α : Type} (q : α → D) {vs : List Nat} {g : GF} {t : TF} {f : EF} (E : D → En) (Q : α → Prop) (n : Nat) (hn : n ≤ 16777216)
    (step : ∀ (h : D) (k : Nat), k < n → Hand h → ∃ (x : α) (h' : D), Hand h' ∧ Q x ∧ lcStep vs g t f (.int (k : Int)) (E h) = some (some (q x), E h'))
    {h : D} (H : Hand h) : ∃ (xs : List α) (h' : D), Hand h' ∧ xs.length = n ∧ (∀ x ∈ xs, Q x) ∧ lcLoop vs g t f ((List.range n).map fun k : Nat => D.int (k : Int)) [] (E h) = .ok (xs.map q) (E h') := by
  obtain ⟨acc, σ', ee, xs, h', H', a1, a2, a3, a4⟩ := lc_go (vs := vs) (g := g) (t := t) (f := f)
    (fun k acc σ => ∃ (xs : List α) (h' : D), Hand h' ∧ acc = xs.map q ∧ xs.length = k ∧ (∀ x ∈ xs, Q x) ∧ σ = E h')
    ((List.range n).map fun k : Nat => D.int (k : Int)) 0 [] (E h) ⟨[], h, H, rfl, by simp, by simp, rfl⟩ (by simpa using hn) (by
      rintro i d acc σ hi ⟨xs, h', H', rfl, hl, hb, rfl⟩
      obtain ⟨hi1, hi2⟩ := List.getElem?_eq_some_iff.mp hi
      have hik : i < n := by simpa using hi1
      have hd : d = .int (i : Int) := by rw [← hi2]; simp
      subst hd
      obtain ⟨o, h2, H2, hq, es⟩ := step h' i hik H'
      refine ⟨some (q o), E h2, es, xs ++ [o], h2, H2, by simp, by simp; omega, ?_, rfl⟩
      intro x hx
      rcases List.mem_append.mp hx with hx | hx
      · exact hb x hx
      · simp at hx; subst hx; exact hq)
  subst a1 a4
  exact ⟨xs, h', H', by simpa using a2, a3, ee⟩
theorem wide_mem {x : D} (h : x ∈ [D.int 2, D.int 2, D.int 3]) : ∃ w : Int, x = .int w ∧ 2 ≤ w ∧ w ≤ 3 := by
  simp at h
  rcases h with rfl | rfl
  · exact ⟨2, rfl, by omega, by omega⟩
  · exact ⟨3, rfl, by omega, by omega⟩
/-- the drawn net -/
theorem p_law_net {h : D} {m : Int} (H : Hand h) (hm : 0 < m) (hm2 : m ≤ 10) : ∃ (p : Nat) (ds : List Deed) (h' : D), m__law_net [h, .int m] = .ret (.tup [.int p, deedsD ds]) [h', .int m] ∧ Hand h' ∧ 1 ≤ p ∧ p ≤ 4 ∧ 1 ≤ ds.length ∧ (ds.length : Int) ≤ m ∧ NetOk p ds := by
  unfold m__law_net
  refine mdef_go (R := fun r => ∃ (p : Nat) (ds : List Deed) (h' : D), r = .ret (.tup [.int p, deedsD ds]) [h', .int m] ∧ Hand h' ∧ 1 ≤ p ∧ p ≤ 4 ∧ 1 ≤ ds.length ∧ (ds.length : Int) ≤ m ∧ NetOk p ds) rfl ?_
  obtain ⟨z1, h1, e1, l1, u1, H1⟩ := p_draw (n := 4) H (by omega) (by omega)
  obtain ⟨z2, h2, e2, l2, u2, H2⟩ := p_draw (n := 2) H1 (by omega) (by omega)
  refine go_step _ (by simp [H.fz, H1.fz, e1, e2]; rfl) ?_
  obtain ⟨p, hp⟩ : ∃ k : Nat, 1 + z1 = k := ⟨(1 + z1).toNat, by omega⟩
  rw [hp]
  obtain ⟨x3, h3, m3, e3, H3⟩ := p_some (ds := [.int 2, .int 2, .int 3]) (o := true) H2 (by simp) (by simp) rfl
  obtain ⟨wd, rfl, w0, w1⟩ := wide_mem m3
  refine go_step _ (by simp [H2.fz, H3.fz, e3]; rfl) ?_
  obtain ⟨z4, h4, e4, l4, u4, H4⟩ := p_draw (n := m) H3 (by omega) (by omega)
  obtain ⟨c, hc⟩ : ∃ k : Nat, 1 + z4 = k := ⟨(1 + z4).toNat, by omega⟩
  have hr : rngOk (c : Int) := rngOk_nat (by omega)
  have rp : rngOk (p : Int) := rngOk_nat (by omega)
  let F : Nat → En → Prop := fun k σ => ∃ (h : D) (ds : List Deed) (o6 o7 o8 : Option D), Hand h ∧ ds.length = k ∧ NetOk p ds ∧ σ = [some h, some (.int m), some (.int p), some (.int (2 + z2)), some (.lst true (ds.map deedD)), some (.int wd), o6, o7, o8, none]
  refine go_seqI (F c) ?_ ?_
  · refine go_forR c F (by simp [H3.fz, H4.fz, e4, hc, hr]) ⟨h4, [], none, none, none, H4, rfl, ⟨by omega, by omega, by simp, by simp, by simp, by simp, by simp⟩, rfl⟩ ?_ (fun σ h => h)
    clear e1 e2 e3 e4
    rintro k σ hk ⟨h, ds, o6, o7, o8, H, hl, nok, rfl⟩
    refine ⟨_, by simp; rfl, ?_⟩
    refine go_step _ (by simp; rfl) ?_
    let G : Nat → En → Prop := fun j σ => ∃ (h : D) (rows : List (List Int)) (o8 : Option D), Hand h ∧ rows.length = j ∧ (∀ r ∈ rows, r.length = p ∧ ∀ z ∈ r, 0 ≤ z ∧ z ≤ 9) ∧ σ = [some h, some (.int m), some (.int p), some (.int (2 + z2)), some (.lst true (ds.map deedD)), some (.int wd), some (.int k), some (.lst true (rows.map tI)), o8, none]
    refine go_seqI (G 2) ?_ ?_
    · refine go_forM (fun z : Int => D.int z) [0, 1] G (by simp) ⟨h, [], o8, H, rfl, by simp, rfl⟩ ?_ (fun σ h => h)
      rintro j side σ hj ⟨h, rows, o8, H, hrl, hrb, rfl⟩
      refine ⟨_, by simp; rfl, ?_⟩
      -- the row's places, one draw or two each
      have lc : ∃ (xs : List Int) (h' : D), Hand h' ∧ xs.length = p ∧ (∀ z ∈ xs, 0 ≤ z ∧ z ≤ 9) ∧
          lcLoop [9] (gdName 9) tYesD (eIf (tVal (eBin dEq (eCall m__law_draw (aCons (eV 0) (aCons (eV 3) aNil))) (eC (.int 0)))) (eBin dAdd (eC (.int 1)) (eCall m__law_draw (aCons (eV 0) (aCons (eBin dSub (eV 5) (eC (.int 1))) aNil)))) (eC (.int 0))) ((List.range p).map fun k : Nat => D.int (k : Int)) []
            [some h, some (.int m), some (.int p), some (.int (2 + z2)), some (.lst true (ds.map deedD)), some (.int wd), some (.int k), some (.lst true (rows.map tI)), some (.int side), none]
          = .ok (xs.map D.int) [some h', some (.int m), some (.int p), some (.int (2 + z2)), some (.lst true (ds.map deedD)), some (.int wd), some (.int k), some (.lst true (rows.map tI)), some (.int side), none] := by
        obtain ⟨acc, σ', ee, xs, h', H', a1, a2, a3, a4⟩ := lc_go (vs := [9]) (g := gdName 9) (t := tYesD) (f := eIf (tVal (eBin dEq (eCall m__law_draw (aCons (eV 0) (aCons (eV 3) aNil))) (eC (.int 0)))) (eBin dAdd (eC (.int 1)) (eCall m__law_draw (aCons (eV 0) (aCons (eBin dSub (eV 5) (eC (.int 1))) aNil)))) (eC (.int 0)))
          (fun q acc σ => ∃ (xs : List Int) (h' : D), Hand h' ∧ acc = xs.map D.int ∧ xs.length = q ∧ (∀ z ∈ xs, 0 ≤ z ∧ z ≤ 9) ∧ σ = [some h', some (.int m), some (.int p), some (.int (2 + z2)), some (.lst true (ds.map deedD)), some (.int wd), some (.int k), some (.lst true (rows.map tI)), some (.int side), none])
          ((List.range p).map fun k : Nat => D.int (k : Int)) 0 [] [some h, some (.int m), some (.int p), some (.int (2 + z2)), some (.lst true (ds.map deedD)), some (.int wd), some (.int k), some (.lst true (rows.map tI)), some (.int side), none] ⟨[], h, H, rfl, rfl, by simp, rfl⟩ (by simp; omega) (by
            rintro q d acc σ hq ⟨xs, h', H', rfl, hxl, hxb, rfl⟩
            obtain ⟨y1, g1, f1, b1, t1, G1⟩ := p_draw (n := 2 + z2) H' (by omega) (by omega)
            by_cases hy : y1 = 0
            · obtain ⟨y2, g2, f2, b2, t2, G2⟩ := p_draw (n := wd - 1) G1 (by omega) (by omega)
              refine ⟨some (.int (1 + y2)), _, by simp [lcStep, H'.fz, G1.fz, f1, dEq_int, hy, f2], xs ++ [1 + y2], g2, G2, by simp, by simp [hxl], ?_, rfl⟩
              intro z hz
              rcases List.mem_append.mp hz with hz | hz
              · exact hxb z hz
              · simp at hz; omega
            · refine ⟨some (.int 0), _, by simp [lcStep, H'.fz, f1, dEq_int, hy], xs ++ [0], g1, G1, by simp, by simp [hxl], ?_, rfl⟩
              intro z hz
              rcases List.mem_append.mp hz with hz | hz
              · exact hxb z hz
              · simp at hz; omega)
        subst a1 a4
        exact ⟨xs, h', H', by simpa using a2, a3, ee⟩
      obtain ⟨xs, h', H', hxl, hxb, ee⟩ := lc
      have hz := fzAll_map D.int (fun _ => rfl) xs
      have hrl2 : rows.length < 16777216 := by
        have : j < 2 := by
          have := (List.getElem?_eq_some_iff.mp hj).1
          simpa using this
        omega
      refine go_last _ (by simp [rp, ee, hz, hrl2]; rfl) ⟨h', rows ++ [xs], some (.int side), H', by simp [hrl], ?_, by simp⟩
      intro r hr
      rcases List.mem_append.mp hr with hr | hr
      · exact hrb r hr
      · simp at hr; subst hr; exact ⟨hxl, hxb⟩
    · rintro σ ⟨h, rows, o8, H, hrl, hrb, rfl⟩
      match rows, hrl, hrb with
      | [a, b], _, hrb =>
        have ha := hrb a (by simp)
        have hb := hrb b (by simp)
        obtain ⟨q0, q1, q2, q3, q4, q5, q6⟩ := nok
        have hl2 : ds.length < 16777216 := by omega
        refine go_last _ (by simp [hl2]; rfl) ⟨h, ds ++ [(a, b)], _, _, _, H, by simp [hl], ?_, by simp; exact ⟨rfl, rfl, rfl⟩⟩
        refine ⟨q0, q1, by simp; omega, ?_, ?_, ?_, ?_⟩
        · intro x hx; rcases List.mem_append.mp hx with hx | hx
          · exact q3 x hx
          · simp at hx; subst hx; simp [ha.1]
        · intro x hx; rcases List.mem_append.mp hx with hx | hx
          · exact q4 x hx
          · simp at hx; subst hx; simp [hb.1]
        · intro x hx; rcases List.mem_append.mp hx with hx | hx
          · exact q5 x hx
          · simp at hx; subst hx; exact ha.2
        · intro x hx; rcases List.mem_append.mp hx with hx | hx
          · exact q6 x hx
          · simp at hx; subst hx; exact hb.2
  · rintro σ ⟨h, ds, o6, o7, o8, H, hl, nok, rfl⟩
    have hz := fzAll_map deedD (fun _ => rfl) ds
    exact go_ret (.tup [.int p, deedsD ds]) _ (by simp [hz]; rfl) ⟨[h, .int m], by simp, p, ds, h, rfl, H, by omega, by omega, by omega, by omega, nok⟩
end Toy
namespace Toy
open PySem PySem.Spec PyProof.Rows L2 DL
theorem p_law_int {d : D} {a b : Int} (h : plainK d = true) : m__law_is_int [d, .int a, .int b] = .ret (.bl (wi d a b)) [d, .int a, .int b] := by
  have hz := fz_plain h
  unfold m__law_is_int; rw [mDef_ap _ _ _ _ rfl]
  cases d <;> simp [plainK] at h
  case non => rfl
  case bl b => rfl
  case int i =>
    have k1 : dIsi yesT_int yesC_int (.int i) = some (.bl true) := rfl
    have k2 : dIsi yesT_bool yesC_bool (.int i) = some (.bl false) := rfl
    by_cases h1 : a ≤ i <;> simp [k1, k2, h1, sSeq_ap]
  case str s => rfl
  case tup ds => rfl
  case lst o xs => cases o <;> first | rfl | simp at h
  case dct o ks vs => cases o <;> first | rfl | simp at h
  case ins o c ks vs =>
    cases o <;> simp at h
    subst h
    rfl
theorem fm_congr {α β : Type} {f g : α → Option β} : ∀ {L : List α}, (∀ x ∈ L, f x = g x) → L.filterMap f = L.filterMap g
  | [], _ => rfl
  | x :: L, h => by
    have h1 := h x (by simp)
    have h2 := fm_congr (L := L) fun y hy => h y (by simp [hy])
    simp only [List.filterMap_cons, h1, h2]
theorem dNe_int (i j : Int) : dNe (.int i) (.int j) = some (.bl (!decide (i = j))) := by
  simp [dNe, toP, SeqAt.shaped, PyData.canLay0, PyData.depth, PyData.eqv]
  try rfl
theorem zipIdx_filter (ds : List Deed) (f : Nat → Bool) (m : List Int) (hf : ∀ k x, ds[k]? = some x → f k = canDo m x) :
    (ds.zipIdx.filter fun y => canDo m y.1).map (fun y => y.2) = (List.range ds.length).filter f := by
  have e : ds.zipIdx = (List.range ds.length).filterMap fun k => (ds[k]?).map fun x => (x, k) := by
    apply List.ext_getElem?
    intro i
    have h1 : ∀ k ∈ List.range ds.length, ((ds[k]?).map fun x => (x, k)) = some ((ds[k]?).getD ([], []), k) := fun k hk => by
      have hk : k < ds.length := by simpa using hk
      simp [hk]
    rw [fm_congr h1, List.filterMap_eq_map']
    by_cases hi : i < ds.length
    · simp [hi]
    · simp [List.getElem?_eq_none, Nat.le_of_not_lt hi]
  rw [e]
  rw [List.filter_filterMap, List.map_filterMap]
  have h2 : ∀ k ∈ List.range ds.length, Option.map (fun y : Deed × Nat => y.2) (Option.filter (fun y => canDo m y.1) ((ds[k]?).map fun x => (x, k))) = if f k = true then some k else none := fun k hk => by
    have hk : k < ds.length := by simpa using hk
    have hx := List.getElem?_eq_getElem hk
    have := hf k _ hx
    rw [hx]
    simp only [Option.map_some, this]
    cases hc : canDo m ds[k] <;> simp [Option.filter, hc]
  rw [fm_congr h2]
  have e3 := filterMap_ite f (fun k : Nat => k) (List.range ds.length)
  rw [e3]; simp
theorem p_law_ready {ds : List Deed} {m : List Int} (hl : m.length ≤ 1000) (hd : ds.length ≤ 1000) : m__law_ready [deedsD ds, tI m] = .ret (.lst true ((readyP ds m).map fun k : Nat => .int (k : Int))) [deedsD ds, tI m] := by
  unfold m__law_ready; rw [mDef_ap _ _ _ _ rfl]
  simp [enum_map]
  rw [lc_mapL (fun y : Deed × Nat => .tup [.int (y.2 : Nat), deedD y.1]) (fun y : Deed × Nat => if canDo m y.1 = true then some (.int (y.2 : Int)) else none) ds.zipIdx rfl (by simp; omega) (fun y hy => ?_)]
  · rw [filterMap_ite]
    have := zipIdx_filter ds (canAt ds m) m (fun k x hx => by simp [canAt, hx])
    have e2 : (ds.zipIdx.filter fun y => canDo m y.1).map (fun y : Deed × Nat => D.int (y.2 : Int)) = (readyP ds m).map fun k : Nat => .int (k : Int) := by
      unfold readyP
      rw [← this, List.map_map]; rfl
    simp [e2]
  · simp [lcStep]
    rw [zip2_map, lc_mapA _ (fun p : Int × Int => .bl (decide (p.2 ≤ p.1))) (List.zip m y.1.1) rfl (by simp; omega) (fun q _ => by simp [lcStep])]
    have : dAll (.lst true ((List.zip m y.1.1).map fun p : Int × Int => .bl (decide (p.2 ≤ p.1)))) = some (.bl (canDo m y.1)) := by rw [dAll_map]; rfl
    simp [this]
    cases canDo m y.1 <;> simp
theorem p_law_is_deed {p : Int} {r : List Int} {b : D} (hr : r.length ≤ 1000) (hb : plainT b) : m__law_is_deed [.int p, .tup [tI r, b]] = .ret (.bl (cts p (tI r) 9 && cts p b 9)) [.int p, .tup [tI r, b]] := by
  have zb := fz_plain hb.1
  unfold m__law_is_deed
  refine mdef_eq rfl ?_
  let rows : List D := [tI r, b]
  have pl : ∀ y ∈ rows, plainT y := fun y hy => by
    simp [rows] at hy
    rcases hy with rfl | rfl
    · exact plainT_tI (by omega)
    · exact hb
  let I : Nat → En → Prop := fun i σ => (∀ y ∈ rows.take i, cts p y 9 = true) ∧ ∃ o2 o3, σ = [some (.int p), some (.tup [tI r, b]), o2, none] ∧ o3 = o2
  refine go_seqI (I 2) ?_ ?_
  · refine go_forM (fun y : D => y) rows I (σ1 := [some (.int p), some (.tup [tI r, b]), none, none]) (by simp [rows]) ⟨by simp, none, none, rfl, rfl⟩ ?_ (fun σ h => h)
    rintro i y σ hy ⟨hi, o2, o3, rfl, _⟩
    have hm := List.mem_of_getElem? hy
    obtain ⟨py, pt⟩ := pl y hm
    have zy := fz_plain py
    have bad : cts p y 9 = false → (cts p (tI r) 9 && cts p b 9) = false := fun z => by
      simp [rows] at hm
      rcases hm with rfl | rfl
      · rw [z]; rfl
      · rw [z, Bool.and_false]
    refine ⟨_, by simp; rfl, ?_⟩
    have kt := k_tup py
    cases hT : isT y with
    | false =>
      have hc : cts p y 9 = false := by cases y <;> first | rfl | simp [isT] at hT
      exact go_seq_rt (.bl false) [some (.int p), some (.tup [tI r, b]), some y, none] (by simp [kt, hT]) (by simp [bad hc])
    | true =>
      obtain ⟨ds, rfl⟩ : ∃ i, y = .tup i := by cases y <;> first | exact ⟨_, rfl⟩ | simp [isT] at hT
      obtain ⟨h1, h2⟩ := pt ds rfl
      refine go_step [some (.int p), some (.tup [tI r, b]), some (.tup ds), none] (by simp [kt, hT]) ?_
      by_cases hl : (ds.length : Int) = p
      · refine go_step [some (.int p), some (.tup [tI r, b]), some (.tup ds), none] (by simp [h2, hl, dNe_int]) ?_
        have lc := lc_mapA (vs := [3]) (g := gdName 3) (t := tYesD) (f := eCall m__law_is_int (aCons (eV 3) (aCons (eC (.int 0)) (aCons (eC (.int 9)) aNil)))) (σ := [some (.int p), some (.tup [tI r, b]), some (.tup ds), none]) (items := ds) (id : D → D) (fun x => .bl (wi x 0 9)) ds (by simp) h2 (fun x hx => by simp [lcStep, fz_plain (h1 x hx), p_law_int (h1 x hx)])
        have ct : cts p (.tup ds) 9 = ds.all (fun x => wi x 0 9) := by simp [cts, hl]
        cases ha : cts p (.tup ds) 9 with
        | false =>
          rw [ct] at ha
          exact go_ret (.bl false) [some (.int p), some (.tup [tI r, b]), some (.tup ds), none] (by simp [lc, dAll_map, ha]) (by simp [bad (ct.trans ha)])
        | true =>
          have ha' := ha
          rw [ct] at ha
          refine go_last [some (.int p), some (.tup [tI r, b]), some (.tup ds), none] (by simp [lc, dAll_map, ha]) ⟨fun z hz => ?_, _, _, rfl, rfl⟩
          rw [List.take_add_one, hy] at hz
          rcases List.mem_append.mp hz with hz | hz
          · exact hi z hz
          · simp at hz; subst hz; exact ha'
      · have hc : cts p (.tup ds) 9 = false := by simp [cts, hl]
        exact go_seq_rt (.bl false) [some (.int p), some (.tup [tI r, b]), some (.tup ds), none] (by simp [h2, hl, dNe_int]) (by simp [bad hc])
  · rintro σ ⟨hi, o2, o3, rfl, _⟩
    have a1 := hi (tI r) (by simp [rows])
    have a2 := hi b (by simp [rows])
    exact go_ret (.bl true) [some (.int p), some (.tup [tI r, b]), o2, none] (by simp) (by simp [a1, a2])
end Toy
namespace Toy
open PySem PySem.Spec PyProof.Rows L2 DL
/-! ### what is due -/
def dueD (s : St) : Res → D
  | .ok s' => .tup [.str "told", stD s']
  | .bad w _ _ _ => w
theorem max_fewN {m : List Int} (h : m ≠ []) : ∃ x xs, m = x :: xs ∧ decide (PySem.W.maxOf x xs ≤ 1000000) = few m := by
  cases m with
  | nil => exact (h rfl).elim
  | cons x xs =>
    refine ⟨x, xs, rfl, ?_⟩
    rw [Bool.eq_iff_iff, decide_eq_true_eq, maxOf_le, few_iff]
    simp
theorem inU_int (neg : Bool) (k : Nat) (L : List Nat) : dInU neg (.int (k : Int)) (.lst true (L.map fun j : Nat => .int (j : Int))) = some (.bl (if neg then !decide (k ∈ L) else decide (k ∈ L))) := by
  have h1 : (L.map fun j : Nat => D.int (j : Int)).all flatD = true := by simp [flatD]
  have h2 : inV (dV (.int (k : Int))) ((L.map fun j : Nat => D.int (j : Int)).map dV) = decide (k ∈ L) := by
    unfold inV
    rw [List.map_map, List.any_map]
    rw [Bool.eq_iff_iff, List.any_eq_true, decide_eq_true_eq]
    constructor
    · rintro ⟨j, hj, e⟩
      simp only [Function.comp_apply, dV, eqV, beq_iff_eq] at e
      have : j = k := by omega
      rwa [← this]
    · intro h
      exact ⟨k, h, by simp [dV, eqV]⟩
  show dInQ neg _ _ = _
  unfold dInQ
  rw [if_pos (by rw [h1]; rfl), h2]
theorem in_w : dInU false (.str "do") (.tup [.str "do", .str "leave"]) = some (.bl true) ∧ dInU false (.str "leave") (.tup [.str "do", .str "leave"]) = some (.bl true) ∧ dInU false (.str "add") (.tup [.str "do", .str "leave"]) = some (.bl false) ∧
    dInU false (.str "put") (.tup [.str "do", .str "leave"]) = some (.bl false) ∧ dInU false (.str "take") (.tup [.str "do", .str "leave"]) = some (.bl false) := ⟨rfl, rfl, rfl, rfl, rfl⟩
theorem mem_ready {ds : List Deed} {m : List Int} {k : Nat} {x : Deed} (h : ds[k]? = some x) : decide (k ∈ readyP ds m) = canDo m x := by
  unfold readyP
  rw [Bool.eq_iff_iff, decide_eq_true_eq, List.mem_filter]
  have : canAt ds m k = canDo m x := by simp [canAt, h]
  rw [this]
  have hk := (List.getElem?_eq_some_iff.mp h).1
  simp [hk]
theorem go_ift {t : TF} {f g : SF} {σ σ1 : En} {T : Tgt} (e : t σ = .ok true σ1) (h : Go (f σ1) T) : Go (sIf t f g σ) T := by
  rw [sIf_ap, e]; simpa using h
theorem behind_ne {s : St} (h : StOk s) {x : Deed} (hx : x ∈ s.ds) : behindP s.m x ≠ [] := by
  have l1 := h.net.l1 _ hx
  have l2 := h.net.l2 _ hx
  intro z
  have := congrArg List.length z
  simp [behindP] at this
  have h1 := h.lm
  have h2 := h.p1
  rcases this with z | z | z
  · rw [z] at h1; simp at h1; omega
  · rw [z] at l1; simp at l1; omega
  · rw [z] at l2; simp at l2; omega
theorem dMaxT_tIc (x : Int) (xs : List Int) : dMaxT (tI (x :: xs)) = some (.int (PySem.W.maxOf x xs)) := dMaxT_tI x xs
theorem CPow6 : CPow 10 6 := ⟨by decide, by decide, by decide⟩
theorem p_law_due {s : St} {a : Act} (h : StOk s) (ha : ActOk a) : m__law_due [stD s, actD a] = .ret (dueD s (resP s a)) [stD s, actD a] := by
  obtain ⟨s1, s2, s3, s4, s5⟩ := so_w
  obtain ⟨n1, n2, n3, n4, n5, n6, n7, n8, n9, n10⟩ := ne_w
  obtain ⟨i1, i2, i3, i4, i5⟩ := in_w
  have hlm : s.m.length ≤ 1000 := by have := h.lm; have := h.p4; omega
  have hld := h.net.hd
  have hl2 : s.ds.length ≤ 16777216 := by omega
  have p6 := CPow6
  have ez := fzAll_map deedD (fun _ => rfl) s.ds
  unfold m__law_due
  refine mdef_eq rfl ?_
  refine go_step [some (stD s), some (actD a), some (.int s.p), some (deedsD s.ds), some (tI s.m), none, none, none, none, none, none, none] (by cases a <;> simp) ?_
  cases a with
  | dO d =>
    have hd : plainK d = true := ha
    have hz := fz_plain hd
    have li := p_law_int (a := 0) (b := s.ds.length - 1) hd
    simp only [actD, resP, resDo]
    cases hw : wi d 0 (s.ds.length - 1) with
    | false => exact go_seq_rt (.str "deed") [some (stD s), some (.tup [.str "do", d]), some (.int s.p), some (deedsD s.ds), some (tI s.m), none, none, none, none, none, none, none] (by simp [i1, hl2, hz, li, hw]) (by simp [dueD, deedB])
    | true =>
      refine go_step [some (stD s), some (.tup [.str "do", d]), some (.int s.p), some (deedsD s.ds), some (tI s.m), none, none, none, none, none, none, none] (by simp [i1, hl2, hz, li, hw]) ?_
      obtain ⟨i, rfl, h0, h1⟩ := wi_int_of hw
      obtain ⟨k, rfl⟩ : ∃ k : Nat, i = k := ⟨i.toNat, by omega⟩
      have hk : k < s.ds.length := by omega
      have hx := List.getElem?_eq_getElem hk
      have e0 : natOf (.int (k : Int)) = k := by simp [natOf]
      have lr := p_law_ready (ds := s.ds) hlm (by omega)
      have iu := inU_int true k (readyP s.ds s.m)
      have mr := mem_ready (m := s.m) hx
      simp only [e0, hx, if_true]
      have bne := behind_ne h (List.getElem_mem hk)
      have eb : behindP s.m s.ds[k] = (List.zip s.m (List.zip s.ds[k].1 s.ds[k].2)).map fun p => p.1 - p.2.1 + p.2.2 := rfl
      have lz : (List.zip s.m (List.zip s.ds[k].1 s.ds[k].2)).length ≤ 16777216 := by simp; omega
      have hk' := hk
      generalize s.ds[k] = x at *
      refine go_seqI (fun _ => False) (go_ift (σ1 := [some (stD s), some (.tup [.str "do", .int k]), some (.int s.p), some (deedsD s.ds), some (tI s.m), none, none, none, none, none, none, none]) (by simp [dEq_str, s1]) ?_) (fun _ z => z.elim)
      cases hc : canDo s.m x with
      | false =>
        rw [hc] at mr
        exact go_seq_rt (.tup [.str "ready", .int k]) [some (stD s), some (.tup [.str "do", .int k]), some (.int s.p), some (deedsD s.ds), some (tI s.m), none, none, none, none, none, none, none] (by simp [lr, iu, mr]) (by simp [dueD, readyB])
      | true =>
        rw [hc] at mr
        refine go_step [some (stD s), some (.tup [.str "do", .int k]), some (.int s.p), some (deedsD s.ds), some (tI s.m), none, none, none, none, none, none, none] (by simp [lr, iu, mr]) ?_
        refine go_step [some (stD s), some (.tup [.str "do", .int k]), some (.int s.p), some (deedsD s.ds), some (tI s.m), some (tI x.1), some (tI x.2), none, none, none, none, none] (by simp [hx]) ?_
        refine go_step [some (stD s), some (.tup [.str "do", .int k]), some (.int s.p), some (deedsD s.ds), some (tI s.m), some (tI x.1), some (tI x.2), some (tI (behindP s.m x)), none, none, none, none] (by
          simp
          rw [zip3_map, lc_mapA _ (fun p : Int × Int × Int => .int (p.1 - p.2.1 + p.2.2)) (List.zip s.m (List.zip x.1 x.2)) rfl lz (fun q _ => by simp [lcStep])]
          simp [eb, Function.comp_def]) ?_
        obtain ⟨y, ys, ey, mf⟩ := max_fewN bne
        have md := dMaxT_tIc y ys
        rw [← ey] at md
        cases hf : few (behindP s.m x) with
        | false =>
          rw [hf] at mf
          exact go_ret (.str "great") [some (stD s), some (.tup [.str "do", .int k]), some (.int s.p), some (deedsD s.ds), some (tI s.m), some (tI x.1), some (tI x.2), some (tI (behindP s.m x)), none, none, none, none] (by simp [md, p6, mf]) (by simp [dueD, greatB])
        | true =>
          rw [hf] at mf
          exact go_ret (.tup [.str "told", .tup [.int s.p, deedsD s.ds, tI (behindP s.m x)]]) [some (stD s), some (.tup [.str "do", .int k]), some (.int s.p), some (deedsD s.ds), some (tI s.m), some (tI x.1), some (tI x.2), some (tI (behindP s.m x)), none, none, none, none] (by simp [md, p6, mf]) (by simp [dueD])
  | leave d =>
    have hd : plainK d = true := ha
    have hz := fz_plain hd
    have li := p_law_int (a := 0) (b := s.ds.length - 1) hd
    simp only [actD, resP, resLeave]
    cases hw : wi d 0 (s.ds.length - 1) with
    | false => exact go_seq_rt (.str "deed") [some (stD s), some (.tup [.str "leave", d]), some (.int s.p), some (deedsD s.ds), some (tI s.m), none, none, none, none, none, none, none] (by simp [i2, hl2, hz, li, hw]) (by simp [dueD, deedB])
    | true =>
      refine go_step [some (stD s), some (.tup [.str "leave", d]), some (.int s.p), some (deedsD s.ds), some (tI s.m), none, none, none, none, none, none, none] (by simp [i2, hl2, hz, li, hw]) ?_
      obtain ⟨i, rfl, h0, h1⟩ := wi_int_of hw
      obtain ⟨k, rfl⟩ : ∃ k : Nat, i = k := ⟨i.toNat, by omega⟩
      have hk : k < s.ds.length := by omega
      have e0 : natOf (.int (k : Int)) = k := by simp [natOf]
      simp only [e0, if_true]
      refine go_step [some (stD s), some (.tup [.str "leave", .int k]), some (.int s.p), some (deedsD s.ds), some (tI s.m), none, none, none, none, none, none, none] (by simp [dEq_str, s1, s2, n1]) ?_
      have q1 : dCut (deedsD s.ds) none (some (k : Int)) = some (deedsD (s.ds.take k)) := by
        show some (D.tup _) = _; rw [cutL_map, cut_lo _ (by omega)]
      have q2 : dCut (deedsD s.ds) (some ((k : Int) + 1)) none = some (deedsD (s.ds.drop (k + 1))) := by
        show some (D.tup _) = _; rw [cutL_map, cut_hi _ hk]
      have l2 : (s.ds.take k).length + (s.ds.drop (k + 1)).length ≤ 16777216 := by simp; omega
      generalize s.ds.take k = A at q1 l2 ⊢
      generalize s.ds.drop (k + 1) = B at q2 l2 ⊢
      exact go_seq_rt (.tup [.str "told", stD { s with ds := A ++ B }]) [some (stD s), some (.tup [.str "leave", .int k]), some (.int s.p), some (deedsD s.ds), some (tI s.m), none, none, none, none, none, none, none] (by simp [dEq_str, s2, q1, q2, l2]) (by simp [dueD])
  | add r b =>
    obtain ⟨hr, hb⟩ := ha
    have zb := fz_plain hb.1
    have ld := p_law_is_deed (p := s.p) hr hb
    have qc : dCut (.tup [.str "add", tI r, b]) (some 1) none = some (.tup [tI r, b]) := rfl
    simp only [actD, resP, resAdd]
    refine go_step [some (stD s), some (.tup [.str "add", tI r, b]), some (.int s.p), some (deedsD s.ds), some (tI s.m), none, none, none, none, none, none, none] (by simp [i3]) ?_
    refine go_step [some (stD s), some (.tup [.str "add", tI r, b]), some (.int s.p), some (deedsD s.ds), some (tI s.m), none, none, none, none, none, none, none] (by simp [dEq_str, s1, s3, n2]) ?_
    refine go_step [some (stD s), some (.tup [.str "add", tI r, b]), some (.int s.p), some (deedsD s.ds), some (tI s.m), none, none, none, none, none, none, none] (by simp [dEq_str, s2, s3, n3]) ?_
    refine go_seqI (fun _ => False) (go_ift (σ1 := [some (stD s), some (.tup [.str "add", tI r, b]), some (.int s.p), some (deedsD s.ds), some (tI s.m), none, none, none, none, none, none, none]) (by simp [dEq_str, s3]) ?_) (fun _ z => z.elim)
    cases hw : (cts s.p (tI r) 9 && cts s.p b 9) with
    | false =>
      rw [hw] at ld
      exact go_seq_rt (.str "deed") [some (stD s), some (.tup [.str "add", tI r, b]), some (.int s.p), some (deedsD s.ds), some (tI s.m), none, none, none, none, none, none, none] (by simp [qc, ld]) (by simp [dueD, deedB])
    | true =>
      rw [hw] at ld
      refine go_step [some (stD s), some (.tup [.str "add", tI r, b]), some (.int s.p), some (deedsD s.ds), some (tI s.m), none, none, none, none, none, none, none] (by simp [qc, ld]) ?_
      rw [Bool.and_eq_true] at hw
      obtain ⟨ys, rfl, y1, y2⟩ := cts_tup hw.2
      rw [intsOf_tI]
      simp only [if_true]
      by_cases hf : s.ds.length = 16
      · rw [if_pos hf]
        exact go_ret (.str "great") [some (stD s), some (.tup [.str "add", tI r, tI ys]), some (.int s.p), some (deedsD s.ds), some (tI s.m), none, none, none, none, none, none, none] (by simp [hf]) (by simp [dueD, greatB])
      · rw [if_neg hf]
        have hf' : s.ds.length < 16 := by omega
        have hf2 : (s.ds.length : Int) < 16 := by omega
        have l2 : s.ds.length + 1 ≤ 16777216 := by omega
        exact go_ret (.tup [.str "told", stD { s with ds := s.ds ++ [(r, ys)] }]) [some (stD s), some (.tup [.str "add", tI r, tI ys]), some (.int s.p), some (deedsD s.ds), some (tI s.m), none, none, none, none, none, none, none] (by simp [hf', hf2, hl2, l2, qc]) (by simp [dueD])
  | put x y =>
    obtain ⟨hx, hy⟩ := ha
    have zx := fz_plain hx
    have zy := fz_plain hy
    have lx := p_law_int (a := 0) (b := s.p - 1) hx
    have ly := p_law_int (a := 0) (b := 1000000) hy
    simp only [actD, resP, resPut]
    refine go_step [some (stD s), some (.tup [.str "put", x, y]), some (.int s.p), some (deedsD s.ds), some (tI s.m), none, none, none, none, none, none, none] (by simp [i4]) ?_
    refine go_step [some (stD s), some (.tup [.str "put", x, y]), some (.int s.p), some (deedsD s.ds), some (tI s.m), none, none, none, none, none, none, none] (by simp [dEq_str, s1, s4, n4]) ?_
    refine go_step [some (stD s), some (.tup [.str "put", x, y]), some (.int s.p), some (deedsD s.ds), some (tI s.m), none, none, none, none, none, none, none] (by simp [dEq_str, s2, s4, n5]) ?_
    refine go_step [some (stD s), some (.tup [.str "put", x, y]), some (.int s.p), some (deedsD s.ds), some (tI s.m), none, none, none, none, none, none, none] (by simp [dEq_str, s3, s4, n6]) ?_
    cases hw : wi x 0 (s.p - 1) with
    | false => exact go_seq_rt (.str "number") [some (stD s), some (.tup [.str "put", x, y]), some (.int s.p), some (deedsD s.ds), some (tI s.m), none, none, none, none, none, none, none] (by simp [lx, zx, hw]) (by simp [dueD, numB])
    | true =>
      refine go_step [some (stD s), some (.tup [.str "put", x, y]), some (.int s.p), some (deedsD s.ds), some (tI s.m), none, none, none, none, none, none, none] (by simp [lx, zx, hw]) ?_
      cases hw2 : wi y 0 1000000 with
      | false => exact go_seq_rt (.str "number") [some (stD s), some (.tup [.str "put", x, y]), some (.int s.p), some (deedsD s.ds), some (tI s.m), none, none, none, none, none, none, none] (by simp [ly, zy, p6, hw2]) (by simp [dueD, numB])
      | true =>
        refine go_step [some (stD s), some (.tup [.str "put", x, y]), some (.int s.p), some (deedsD s.ds), some (tI s.m), none, none, none, none, none, none, none] (by simp [ly, zy, p6, hw2]) ?_
        obtain ⟨i, rfl, h0, h1⟩ := wi_int_of hw
        obtain ⟨j, rfl, j0, j1⟩ := wi_int_of hw2
        obtain ⟨k, rfl⟩ : ∃ k : Nat, i = k := ⟨i.toNat, by omega⟩
        have hk := mark_at h h1
        have e0 : natOf (.int (k : Int)) = k := by simp [natOf]
        have e1 : intOf (.int j) = j := rfl
        have e2 : s.m.getD k 0 = s.m[k] := by simp [List.getD, hk]
        have b0 := h.bm _ (List.getElem_mem hk)
        simp only [e0, e1, e2, Bool.and_self, if_true]
        refine go_step [some (stD s), some (.tup [.str "put", .int k, .int j]), some (.int s.p), some (deedsD s.ds), some (tI s.m), none, none, none, some (.int (s.m[k] + j)), none, none, none] (by simp [hk, dEq_str, s4]) ?_
        have nn : ¬ s.m[k] + j < 0 := by omega
        refine go_step [some (stD s), some (.tup [.str "put", .int k, .int j]), some (.int s.p), some (deedsD s.ds), some (tI s.m), none, none, none, some (.int (s.m[k] + j)), none, none, none] (by simp [nn]) ?_
        have q1 : dCut (tI s.m) none (some (k : Int)) = some (tI (s.m.take k)) := by
          show some (D.tup _) = _; rw [cutL_map, cut_lo _ (by omega)]
        have q2 : dCut (tI s.m) (some ((k : Int) + 1)) none = some (tI (s.m.drop (k + 1))) := by
          show some (D.tup _) = _; rw [cutL_map, cut_hi _ hk]
        have l1 : (s.m.take k).length + 1 ≤ 16777216 := by simp; omega
        have l2 : (s.m.take k).length + 1 + (s.m.drop (k + 1)).length ≤ 16777216 := by simp; omega
        by_cases hf : s.m[k] + j ≤ 1000000
        · rw [if_pos hf]
          generalize s.m.take k = A at q1 l1 l2 ⊢
          generalize s.m.drop (k + 1) = B at q2 l2 ⊢
          exact go_ret (.tup [.str "told", stD { s with m := A ++ [s.m[k] + j] ++ B }]) [some (stD s), some (.tup [.str "put", .int k, .int j]), some (.int s.p), some (deedsD s.ds), some (tI s.m), none, none, none, some (.int (s.m[k] + j)), none, none, none] (by simp [p6, hf, q1, q2, l1, l2]) (by simp [dueD])
        · rw [if_neg hf]
          exact go_ret (.str "great") [some (stD s), some (.tup [.str "put", .int k, .int j]), some (.int s.p), some (deedsD s.ds), some (tI s.m), none, none, none, some (.int (s.m[k] + j)), none, none, none] (by simp [p6, hf]) (by simp [dueD, greatB])
  | take x y =>
    obtain ⟨hx, hy⟩ := ha
    have zx := fz_plain hx
    have zy := fz_plain hy
    have lx := p_law_int (a := 0) (b := s.p - 1) hx
    have ly := p_law_int (a := 0) (b := 1000000) hy
    simp only [actD, resP, resTake]
    refine go_step [some (stD s), some (.tup [.str "take", x, y]), some (.int s.p), some (deedsD s.ds), some (tI s.m), none, none, none, none, none, none, none] (by simp [i5]) ?_
    refine go_step [some (stD s), some (.tup [.str "take", x, y]), some (.int s.p), some (deedsD s.ds), some (tI s.m), none, none, none, none, none, none, none] (by simp [dEq_str, s1, s5, n7]) ?_
    refine go_step [some (stD s), some (.tup [.str "take", x, y]), some (.int s.p), some (deedsD s.ds), some (tI s.m), none, none, none, none, none, none, none] (by simp [dEq_str, s2, s5, n8]) ?_
    refine go_step [some (stD s), some (.tup [.str "take", x, y]), some (.int s.p), some (deedsD s.ds), some (tI s.m), none, none, none, none, none, none, none] (by simp [dEq_str, s3, s5, n9]) ?_
    cases hw : wi x 0 (s.p - 1) with
    | false => exact go_seq_rt (.str "number") [some (stD s), some (.tup [.str "take", x, y]), some (.int s.p), some (deedsD s.ds), some (tI s.m), none, none, none, none, none, none, none] (by simp [lx, zx, hw]) (by simp [dueD, numB])
    | true =>
      refine go_step [some (stD s), some (.tup [.str "take", x, y]), some (.int s.p), some (deedsD s.ds), some (tI s.m), none, none, none, none, none, none, none] (by simp [lx, zx, hw]) ?_
      cases hw2 : wi y 0 1000000 with
      | false => exact go_seq_rt (.str "number") [some (stD s), some (.tup [.str "take", x, y]), some (.int s.p), some (deedsD s.ds), some (tI s.m), none, none, none, none, none, none, none] (by simp [ly, zy, p6, hw2]) (by simp [dueD, numB])
      | true =>
        refine go_step [some (stD s), some (.tup [.str "take", x, y]), some (.int s.p), some (deedsD s.ds), some (tI s.m), none, none, none, none, none, none, none] (by simp [ly, zy, p6, hw2]) ?_
        obtain ⟨i, rfl, h0, h1⟩ := wi_int_of hw
        obtain ⟨j, rfl, j0, j1⟩ := wi_int_of hw2
        obtain ⟨k, rfl⟩ : ∃ k : Nat, i = k := ⟨i.toNat, by omega⟩
        have hk := mark_at h h1
        have e0 : natOf (.int (k : Int)) = k := by simp [natOf]
        have e1 : intOf (.int j) = j := rfl
        have e2 : s.m.getD k 0 = s.m[k] := by simp [List.getD, hk]
        have b0 := h.bm _ (List.getElem_mem hk)
        have e3 : s.m[k] + (0 - j) = s.m[k] - j := by omega
        simp only [e0, e1, e2, Bool.and_self, if_true]
        refine go_step [some (stD s), some (.tup [.str "take", .int k, .int j]), some (.int s.p), some (deedsD s.ds), some (tI s.m), none, none, none, some (.int (s.m[k] - j)), none, none, none] (by simp [hk, dEq_str, s4, s5, n10]; omega) ?_
        by_cases hf : j ≤ s.m[k]
        · rw [if_pos hf]
          have nn : ¬ s.m[k] - j < 0 := by omega
          have n6 : s.m[k] - j ≤ 1000000 := by omega
          refine go_step [some (stD s), some (.tup [.str "take", .int k, .int j]), some (.int s.p), some (deedsD s.ds), some (tI s.m), none, none, none, some (.int (s.m[k] - j)), none, none, none] (by simp [nn]) ?_
          have q1 : dCut (tI s.m) none (some (k : Int)) = some (tI (s.m.take k)) := by
            show some (D.tup _) = _; rw [cutL_map, cut_lo _ (by omega)]
          have q2 : dCut (tI s.m) (some ((k : Int) + 1)) none = some (tI (s.m.drop (k + 1))) := by
            show some (D.tup _) = _; rw [cutL_map, cut_hi _ hk]
          have l1 : (s.m.take k).length + 1 ≤ 16777216 := by simp; omega
          have l2 : (s.m.take k).length + 1 + (s.m.drop (k + 1)).length ≤ 16777216 := by simp; omega
          generalize s.m.take k = A at q1 l1 l2 ⊢
          generalize s.m.drop (k + 1) = B at q2 l2 ⊢
          exact go_ret (.tup [.str "told", stD { s with m := A ++ [s.m[k] - j] ++ B }]) [some (stD s), some (.tup [.str "take", .int k, .int j]), some (.int s.p), some (deedsD s.ds), some (tI s.m), none, none, none, some (.int (s.m[k] - j)), none, none, none] (by simp [p6, n6, q1, q2, l1, l2]) (by simp [dueD])
        · rw [if_neg hf]
          have nn : s.m[k] - j < 0 := by omega
          exact go_seq_rt (.str "mark") [some (stD s), some (.tup [.str "take", .int k, .int j]), some (.int s.p), some (deedsD s.ds), some (tI s.m), none, none, none, some (.int (s.m[k] - j)), none, none, none] (by simp [nn]) (by simp [dueD, markB])
end Toy
namespace Toy
open PySem PySem.Spec PyProof.Rows L2 DL
/-! ### what the helper makes of an outcome -/
theorem word_ok {σ : En} : valR (bq_word (fun σ => .ok (.val .non) σ) (some .non :: List.replicate 3 none)) σ = .ok (.val (.tup [.str "told", .non])) σ := by
  simp [bq_word, sSeq_ap]
theorem word_NoDeed {σ : En} : valR (bq_word (fun σ => .exc "NoDeed" [] [] σ) (some .non :: List.replicate 3 none)) σ = .ok (.val (.str "deed")) σ := by
  simp [bq_word, hf_word, ok_word, sSeq_ap, dIsXd_own, dXf_own, mCnt, mIdx, flatD, dV, eqV, findV, dEq, dNe, toP, toPL, SeqAt.shaped, PyData.canLay0, PyData.canLayAll0, PyData.depth, PyData.depthAll, PyData.eqv, PyData.eqvAll, yv_NoDeed_NetError, yv_NoDeed_BadNet, yv_NoDeed_NotReady, yv_NoDeed_NoDeed, yv_NoDeed_NoMark, yv_NoDeed_NoNumber, yv_NoDeed_TooGreat, yv_NoDeed_NothingDone, yv_NoMark_NetError, yv_NoMark_BadNet, yv_NoMark_NotReady, yv_NoMark_NoDeed, yv_NoMark_NoMark, yv_NoMark_NoNumber, yv_NoMark_TooGreat, yv_NoMark_NothingDone, yv_NoNumber_NetError, yv_NoNumber_BadNet, yv_NoNumber_NotReady, yv_NoNumber_NoDeed, yv_NoNumber_NoMark, yv_NoNumber_NoNumber, yv_NoNumber_TooGreat, yv_NoNumber_NothingDone, yv_NotReady_NetError, yv_NotReady_BadNet, yv_NotReady_NotReady, yv_NotReady_NoDeed, yv_NotReady_NoMark, yv_NotReady_NoNumber, yv_NotReady_TooGreat, yv_NotReady_NothingDone, yv_NothingDone_NetError, yv_NothingDone_BadNet, yv_NothingDone_NotReady, yv_NothingDone_NoDeed, yv_NothingDone_NoMark, yv_NothingDone_NoNumber, yv_NothingDone_TooGreat, yv_NothingDone_NothingDone, yv_TooGreat_NetError, yv_TooGreat_BadNet, yv_TooGreat_NotReady, yv_TooGreat_NoDeed, yv_TooGreat_NoMark, yv_TooGreat_NoNumber, yv_TooGreat_TooGreat, yv_TooGreat_NothingDone, yv_ValueError_NetError, yv_ValueError_BadNet, yv_ValueError_NotReady, yv_ValueError_NoDeed, yv_ValueError_NoMark, yv_ValueError_NoNumber, yv_ValueError_TooGreat, yv_ValueError_NothingDone, iv_NetError, iv_BadNet, iv_NotReady, iv_NoDeed, iv_NoMark, iv_NoNumber, iv_TooGreat, iv_NothingDone, so_0, sb_0_1, sn_0_1, sb_0_2, sn_0_2, sb_0_3, sn_0_3, sb_0_4, sn_0_4, sb_0_5, sn_0_5, sb_0_6, sn_0_6, sb_0_7, sn_0_7, so_1, sb_1_0, sn_1_0, sb_1_2, sn_1_2, sb_1_3, sn_1_3, sb_1_4, sn_1_4, sb_1_5, sn_1_5, sb_1_6, sn_1_6, sb_1_7, sn_1_7, so_2, sb_2_0, sn_2_0, sb_2_1, sn_2_1, sb_2_3, sn_2_3, sb_2_4, sn_2_4, sb_2_5, sn_2_5, sb_2_6, sn_2_6, sb_2_7, sn_2_7, so_3, sb_3_0, sn_3_0, sb_3_1, sn_3_1, sb_3_2, sn_3_2, sb_3_4, sn_3_4, sb_3_5, sn_3_5, sb_3_6, sn_3_6, sb_3_7, sn_3_7, so_4, sb_4_0, sn_4_0, sb_4_1, sn_4_1, sb_4_2, sn_4_2, sb_4_3, sn_4_3, sb_4_5, sn_4_5, sb_4_6, sn_4_6, sb_4_7, sn_4_7, so_5, sb_5_0, sn_5_0, sb_5_1, sn_5_1, sb_5_2, sn_5_2, sb_5_3, sn_5_3, sb_5_4, sn_5_4, sb_5_6, sn_5_6, sb_5_7, sn_5_7, so_6, sb_6_0, sn_6_0, sb_6_1, sn_6_1, sb_6_2, sn_6_2, sb_6_3, sn_6_3, sb_6_4, sn_6_4, sb_6_5, sn_6_5, sb_6_7, sn_6_7, so_7, sb_7_0, sn_7_0, sb_7_1, sn_7_1, sb_7_2, sn_7_2, sb_7_3, sn_7_3, sb_7_4, sn_7_4, sb_7_5, sn_7_5, sb_7_6, sn_7_6]
theorem word_NoMark {σ : En} : valR (bq_word (fun σ => .exc "NoMark" [] [] σ) (some .non :: List.replicate 3 none)) σ = .ok (.val (.str "mark")) σ := by
  simp [bq_word, hf_word, ok_word, sSeq_ap, dIsXd_own, dXf_own, mCnt, mIdx, flatD, dV, eqV, findV, dEq, dNe, toP, toPL, SeqAt.shaped, PyData.canLay0, PyData.canLayAll0, PyData.depth, PyData.depthAll, PyData.eqv, PyData.eqvAll, yv_NoDeed_NetError, yv_NoDeed_BadNet, yv_NoDeed_NotReady, yv_NoDeed_NoDeed, yv_NoDeed_NoMark, yv_NoDeed_NoNumber, yv_NoDeed_TooGreat, yv_NoDeed_NothingDone, yv_NoMark_NetError, yv_NoMark_BadNet, yv_NoMark_NotReady, yv_NoMark_NoDeed, yv_NoMark_NoMark, yv_NoMark_NoNumber, yv_NoMark_TooGreat, yv_NoMark_NothingDone, yv_NoNumber_NetError, yv_NoNumber_BadNet, yv_NoNumber_NotReady, yv_NoNumber_NoDeed, yv_NoNumber_NoMark, yv_NoNumber_NoNumber, yv_NoNumber_TooGreat, yv_NoNumber_NothingDone, yv_NotReady_NetError, yv_NotReady_BadNet, yv_NotReady_NotReady, yv_NotReady_NoDeed, yv_NotReady_NoMark, yv_NotReady_NoNumber, yv_NotReady_TooGreat, yv_NotReady_NothingDone, yv_NothingDone_NetError, yv_NothingDone_BadNet, yv_NothingDone_NotReady, yv_NothingDone_NoDeed, yv_NothingDone_NoMark, yv_NothingDone_NoNumber, yv_NothingDone_TooGreat, yv_NothingDone_NothingDone, yv_TooGreat_NetError, yv_TooGreat_BadNet, yv_TooGreat_NotReady, yv_TooGreat_NoDeed, yv_TooGreat_NoMark, yv_TooGreat_NoNumber, yv_TooGreat_TooGreat, yv_TooGreat_NothingDone, yv_ValueError_NetError, yv_ValueError_BadNet, yv_ValueError_NotReady, yv_ValueError_NoDeed, yv_ValueError_NoMark, yv_ValueError_NoNumber, yv_ValueError_TooGreat, yv_ValueError_NothingDone, iv_NetError, iv_BadNet, iv_NotReady, iv_NoDeed, iv_NoMark, iv_NoNumber, iv_TooGreat, iv_NothingDone, so_0, sb_0_1, sn_0_1, sb_0_2, sn_0_2, sb_0_3, sn_0_3, sb_0_4, sn_0_4, sb_0_5, sn_0_5, sb_0_6, sn_0_6, sb_0_7, sn_0_7, so_1, sb_1_0, sn_1_0, sb_1_2, sn_1_2, sb_1_3, sn_1_3, sb_1_4, sn_1_4, sb_1_5, sn_1_5, sb_1_6, sn_1_6, sb_1_7, sn_1_7, so_2, sb_2_0, sn_2_0, sb_2_1, sn_2_1, sb_2_3, sn_2_3, sb_2_4, sn_2_4, sb_2_5, sn_2_5, sb_2_6, sn_2_6, sb_2_7, sn_2_7, so_3, sb_3_0, sn_3_0, sb_3_1, sn_3_1, sb_3_2, sn_3_2, sb_3_4, sn_3_4, sb_3_5, sn_3_5, sb_3_6, sn_3_6, sb_3_7, sn_3_7, so_4, sb_4_0, sn_4_0, sb_4_1, sn_4_1, sb_4_2, sn_4_2, sb_4_3, sn_4_3, sb_4_5, sn_4_5, sb_4_6, sn_4_6, sb_4_7, sn_4_7, so_5, sb_5_0, sn_5_0, sb_5_1, sn_5_1, sb_5_2, sn_5_2, sb_5_3, sn_5_3, sb_5_4, sn_5_4, sb_5_6, sn_5_6, sb_5_7, sn_5_7, so_6, sb_6_0, sn_6_0, sb_6_1, sn_6_1, sb_6_2, sn_6_2, sb_6_3, sn_6_3, sb_6_4, sn_6_4, sb_6_5, sn_6_5, sb_6_7, sn_6_7, so_7, sb_7_0, sn_7_0, sb_7_1, sn_7_1, sb_7_2, sn_7_2, sb_7_3, sn_7_3, sb_7_4, sn_7_4, sb_7_5, sn_7_5, sb_7_6, sn_7_6]
theorem word_NoNumber {σ : En} : valR (bq_word (fun σ => .exc "NoNumber" [] [] σ) (some .non :: List.replicate 3 none)) σ = .ok (.val (.str "number")) σ := by
  simp [bq_word, hf_word, ok_word, sSeq_ap, dIsXd_own, dXf_own, mCnt, mIdx, flatD, dV, eqV, findV, dEq, dNe, toP, toPL, SeqAt.shaped, PyData.canLay0, PyData.canLayAll0, PyData.depth, PyData.depthAll, PyData.eqv, PyData.eqvAll, yv_NoDeed_NetError, yv_NoDeed_BadNet, yv_NoDeed_NotReady, yv_NoDeed_NoDeed, yv_NoDeed_NoMark, yv_NoDeed_NoNumber, yv_NoDeed_TooGreat, yv_NoDeed_NothingDone, yv_NoMark_NetError, yv_NoMark_BadNet, yv_NoMark_NotReady, yv_NoMark_NoDeed, yv_NoMark_NoMark, yv_NoMark_NoNumber, yv_NoMark_TooGreat, yv_NoMark_NothingDone, yv_NoNumber_NetError, yv_NoNumber_BadNet, yv_NoNumber_NotReady, yv_NoNumber_NoDeed, yv_NoNumber_NoMark, yv_NoNumber_NoNumber, yv_NoNumber_TooGreat, yv_NoNumber_NothingDone, yv_NotReady_NetError, yv_NotReady_BadNet, yv_NotReady_NotReady, yv_NotReady_NoDeed, yv_NotReady_NoMark, yv_NotReady_NoNumber, yv_NotReady_TooGreat, yv_NotReady_NothingDone, yv_NothingDone_NetError, yv_NothingDone_BadNet, yv_NothingDone_NotReady, yv_NothingDone_NoDeed, yv_NothingDone_NoMark, yv_NothingDone_NoNumber, yv_NothingDone_TooGreat, yv_NothingDone_NothingDone, yv_TooGreat_NetError, yv_TooGreat_BadNet, yv_TooGreat_NotReady, yv_TooGreat_NoDeed, yv_TooGreat_NoMark, yv_TooGreat_NoNumber, yv_TooGreat_TooGreat, yv_TooGreat_NothingDone, yv_ValueError_NetError, yv_ValueError_BadNet, yv_ValueError_NotReady, yv_ValueError_NoDeed, yv_ValueError_NoMark, yv_ValueError_NoNumber, yv_ValueError_TooGreat, yv_ValueError_NothingDone, iv_NetError, iv_BadNet, iv_NotReady, iv_NoDeed, iv_NoMark, iv_NoNumber, iv_TooGreat, iv_NothingDone, so_0, sb_0_1, sn_0_1, sb_0_2, sn_0_2, sb_0_3, sn_0_3, sb_0_4, sn_0_4, sb_0_5, sn_0_5, sb_0_6, sn_0_6, sb_0_7, sn_0_7, so_1, sb_1_0, sn_1_0, sb_1_2, sn_1_2, sb_1_3, sn_1_3, sb_1_4, sn_1_4, sb_1_5, sn_1_5, sb_1_6, sn_1_6, sb_1_7, sn_1_7, so_2, sb_2_0, sn_2_0, sb_2_1, sn_2_1, sb_2_3, sn_2_3, sb_2_4, sn_2_4, sb_2_5, sn_2_5, sb_2_6, sn_2_6, sb_2_7, sn_2_7, so_3, sb_3_0, sn_3_0, sb_3_1, sn_3_1, sb_3_2, sn_3_2, sb_3_4, sn_3_4, sb_3_5, sn_3_5, sb_3_6, sn_3_6, sb_3_7, sn_3_7, so_4, sb_4_0, sn_4_0, sb_4_1, sn_4_1, sb_4_2, sn_4_2, sb_4_3, sn_4_3, sb_4_5, sn_4_5, sb_4_6, sn_4_6, sb_4_7, sn_4_7, so_5, sb_5_0, sn_5_0, sb_5_1, sn_5_1, sb_5_2, sn_5_2, sb_5_3, sn_5_3, sb_5_4, sn_5_4, sb_5_6, sn_5_6, sb_5_7, sn_5_7, so_6, sb_6_0, sn_6_0, sb_6_1, sn_6_1, sb_6_2, sn_6_2, sb_6_3, sn_6_3, sb_6_4, sn_6_4, sb_6_5, sn_6_5, sb_6_7, sn_6_7, so_7, sb_7_0, sn_7_0, sb_7_1, sn_7_1, sb_7_2, sn_7_2, sb_7_3, sn_7_3, sb_7_4, sn_7_4, sb_7_5, sn_7_5, sb_7_6, sn_7_6]
theorem word_TooGreat {σ : En} : valR (bq_word (fun σ => .exc "TooGreat" [] [] σ) (some .non :: List.replicate 3 none)) σ = .ok (.val (.str "great")) σ := by
  simp [bq_word, hf_word, ok_word, sSeq_ap, dIsXd_own, dXf_own, mCnt, mIdx, flatD, dV, eqV, findV, dEq, dNe, toP, toPL, SeqAt.shaped, PyData.canLay0, PyData.canLayAll0, PyData.depth, PyData.depthAll, PyData.eqv, PyData.eqvAll, yv_NoDeed_NetError, yv_NoDeed_BadNet, yv_NoDeed_NotReady, yv_NoDeed_NoDeed, yv_NoDeed_NoMark, yv_NoDeed_NoNumber, yv_NoDeed_TooGreat, yv_NoDeed_NothingDone, yv_NoMark_NetError, yv_NoMark_BadNet, yv_NoMark_NotReady, yv_NoMark_NoDeed, yv_NoMark_NoMark, yv_NoMark_NoNumber, yv_NoMark_TooGreat, yv_NoMark_NothingDone, yv_NoNumber_NetError, yv_NoNumber_BadNet, yv_NoNumber_NotReady, yv_NoNumber_NoDeed, yv_NoNumber_NoMark, yv_NoNumber_NoNumber, yv_NoNumber_TooGreat, yv_NoNumber_NothingDone, yv_NotReady_NetError, yv_NotReady_BadNet, yv_NotReady_NotReady, yv_NotReady_NoDeed, yv_NotReady_NoMark, yv_NotReady_NoNumber, yv_NotReady_TooGreat, yv_NotReady_NothingDone, yv_NothingDone_NetError, yv_NothingDone_BadNet, yv_NothingDone_NotReady, yv_NothingDone_NoDeed, yv_NothingDone_NoMark, yv_NothingDone_NoNumber, yv_NothingDone_TooGreat, yv_NothingDone_NothingDone, yv_TooGreat_NetError, yv_TooGreat_BadNet, yv_TooGreat_NotReady, yv_TooGreat_NoDeed, yv_TooGreat_NoMark, yv_TooGreat_NoNumber, yv_TooGreat_TooGreat, yv_TooGreat_NothingDone, yv_ValueError_NetError, yv_ValueError_BadNet, yv_ValueError_NotReady, yv_ValueError_NoDeed, yv_ValueError_NoMark, yv_ValueError_NoNumber, yv_ValueError_TooGreat, yv_ValueError_NothingDone, iv_NetError, iv_BadNet, iv_NotReady, iv_NoDeed, iv_NoMark, iv_NoNumber, iv_TooGreat, iv_NothingDone, so_0, sb_0_1, sn_0_1, sb_0_2, sn_0_2, sb_0_3, sn_0_3, sb_0_4, sn_0_4, sb_0_5, sn_0_5, sb_0_6, sn_0_6, sb_0_7, sn_0_7, so_1, sb_1_0, sn_1_0, sb_1_2, sn_1_2, sb_1_3, sn_1_3, sb_1_4, sn_1_4, sb_1_5, sn_1_5, sb_1_6, sn_1_6, sb_1_7, sn_1_7, so_2, sb_2_0, sn_2_0, sb_2_1, sn_2_1, sb_2_3, sn_2_3, sb_2_4, sn_2_4, sb_2_5, sn_2_5, sb_2_6, sn_2_6, sb_2_7, sn_2_7, so_3, sb_3_0, sn_3_0, sb_3_1, sn_3_1, sb_3_2, sn_3_2, sb_3_4, sn_3_4, sb_3_5, sn_3_5, sb_3_6, sn_3_6, sb_3_7, sn_3_7, so_4, sb_4_0, sn_4_0, sb_4_1, sn_4_1, sb_4_2, sn_4_2, sb_4_3, sn_4_3, sb_4_5, sn_4_5, sb_4_6, sn_4_6, sb_4_7, sn_4_7, so_5, sb_5_0, sn_5_0, sb_5_1, sn_5_1, sb_5_2, sn_5_2, sb_5_3, sn_5_3, sb_5_4, sn_5_4, sb_5_6, sn_5_6, sb_5_7, sn_5_7, so_6, sb_6_0, sn_6_0, sb_6_1, sn_6_1, sb_6_2, sn_6_2, sb_6_3, sn_6_3, sb_6_4, sn_6_4, sb_6_5, sn_6_5, sb_6_7, sn_6_7, so_7, sb_7_0, sn_7_0, sb_7_1, sn_7_1, sb_7_2, sn_7_2, sb_7_3, sn_7_3, sb_7_4, sn_7_4, sb_7_5, sn_7_5, sb_7_6, sn_7_6]
theorem word_NothingDone {σ : En} : valR (bq_word (fun σ => .exc "NothingDone" [] [] σ) (some .non :: List.replicate 3 none)) σ = .ok (.val (.str "nothing")) σ := by
  simp [bq_word, hf_word, ok_word, sSeq_ap, dIsXd_own, dXf_own, mCnt, mIdx, flatD, dV, eqV, findV, dEq, dNe, toP, toPL, SeqAt.shaped, PyData.canLay0, PyData.canLayAll0, PyData.depth, PyData.depthAll, PyData.eqv, PyData.eqvAll, yv_NoDeed_NetError, yv_NoDeed_BadNet, yv_NoDeed_NotReady, yv_NoDeed_NoDeed, yv_NoDeed_NoMark, yv_NoDeed_NoNumber, yv_NoDeed_TooGreat, yv_NoDeed_NothingDone, yv_NoMark_NetError, yv_NoMark_BadNet, yv_NoMark_NotReady, yv_NoMark_NoDeed, yv_NoMark_NoMark, yv_NoMark_NoNumber, yv_NoMark_TooGreat, yv_NoMark_NothingDone, yv_NoNumber_NetError, yv_NoNumber_BadNet, yv_NoNumber_NotReady, yv_NoNumber_NoDeed, yv_NoNumber_NoMark, yv_NoNumber_NoNumber, yv_NoNumber_TooGreat, yv_NoNumber_NothingDone, yv_NotReady_NetError, yv_NotReady_BadNet, yv_NotReady_NotReady, yv_NotReady_NoDeed, yv_NotReady_NoMark, yv_NotReady_NoNumber, yv_NotReady_TooGreat, yv_NotReady_NothingDone, yv_NothingDone_NetError, yv_NothingDone_BadNet, yv_NothingDone_NotReady, yv_NothingDone_NoDeed, yv_NothingDone_NoMark, yv_NothingDone_NoNumber, yv_NothingDone_TooGreat, yv_NothingDone_NothingDone, yv_TooGreat_NetError, yv_TooGreat_BadNet, yv_TooGreat_NotReady, yv_TooGreat_NoDeed, yv_TooGreat_NoMark, yv_TooGreat_NoNumber, yv_TooGreat_TooGreat, yv_TooGreat_NothingDone, yv_ValueError_NetError, yv_ValueError_BadNet, yv_ValueError_NotReady, yv_ValueError_NoDeed, yv_ValueError_NoMark, yv_ValueError_NoNumber, yv_ValueError_TooGreat, yv_ValueError_NothingDone, iv_NetError, iv_BadNet, iv_NotReady, iv_NoDeed, iv_NoMark, iv_NoNumber, iv_TooGreat, iv_NothingDone, so_0, sb_0_1, sn_0_1, sb_0_2, sn_0_2, sb_0_3, sn_0_3, sb_0_4, sn_0_4, sb_0_5, sn_0_5, sb_0_6, sn_0_6, sb_0_7, sn_0_7, so_1, sb_1_0, sn_1_0, sb_1_2, sn_1_2, sb_1_3, sn_1_3, sb_1_4, sn_1_4, sb_1_5, sn_1_5, sb_1_6, sn_1_6, sb_1_7, sn_1_7, so_2, sb_2_0, sn_2_0, sb_2_1, sn_2_1, sb_2_3, sn_2_3, sb_2_4, sn_2_4, sb_2_5, sn_2_5, sb_2_6, sn_2_6, sb_2_7, sn_2_7, so_3, sb_3_0, sn_3_0, sb_3_1, sn_3_1, sb_3_2, sn_3_2, sb_3_4, sn_3_4, sb_3_5, sn_3_5, sb_3_6, sn_3_6, sb_3_7, sn_3_7, so_4, sb_4_0, sn_4_0, sb_4_1, sn_4_1, sb_4_2, sn_4_2, sb_4_3, sn_4_3, sb_4_5, sn_4_5, sb_4_6, sn_4_6, sb_4_7, sn_4_7, so_5, sb_5_0, sn_5_0, sb_5_1, sn_5_1, sb_5_2, sn_5_2, sb_5_3, sn_5_3, sb_5_4, sn_5_4, sb_5_6, sn_5_6, sb_5_7, sn_5_7, so_6, sb_6_0, sn_6_0, sb_6_1, sn_6_1, sb_6_2, sn_6_2, sb_6_3, sn_6_3, sb_6_4, sn_6_4, sb_6_5, sn_6_5, sb_6_7, sn_6_7, so_7, sb_7_0, sn_7_0, sb_7_1, sn_7_1, sb_7_2, sn_7_2, sb_7_3, sn_7_3, sb_7_4, sn_7_4, sb_7_5, sn_7_5, sb_7_6, sn_7_6]
theorem word_NotReady {d : D} (hd : fz d = true) {σ : En} : valR (bq_word (fun σ => .exc "NotReady" ["at"] [d] σ) (some .non :: List.replicate 3 none)) σ = .ok (.val (.tup [.str "ready", d])) σ := by
  have hk : (["at"] : List Str) ≠ [] := by simp
  have hl : lookK "at" ["at"] [d] = some d := by simp [lookK]
  have hs := share_fz hd
  simp [bq_word, hf_word, ok_word, sSeq_ap, dIsXd_own, dXf_own, mCnt, mIdx, flatD, dV, eqV, findV, dEq, dNe, toP, toPL, SeqAt.shaped, PyData.canLay0, PyData.canLayAll0, PyData.depth, PyData.depthAll, PyData.eqv, PyData.eqvAll, yv_NoDeed_NetError, yv_NoDeed_BadNet, yv_NoDeed_NotReady, yv_NoDeed_NoDeed, yv_NoDeed_NoMark, yv_NoDeed_NoNumber, yv_NoDeed_TooGreat, yv_NoDeed_NothingDone, yv_NoMark_NetError, yv_NoMark_BadNet, yv_NoMark_NotReady, yv_NoMark_NoDeed, yv_NoMark_NoMark, yv_NoMark_NoNumber, yv_NoMark_TooGreat, yv_NoMark_NothingDone, yv_NoNumber_NetError, yv_NoNumber_BadNet, yv_NoNumber_NotReady, yv_NoNumber_NoDeed, yv_NoNumber_NoMark, yv_NoNumber_NoNumber, yv_NoNumber_TooGreat, yv_NoNumber_NothingDone, yv_NotReady_NetError, yv_NotReady_BadNet, yv_NotReady_NotReady, yv_NotReady_NoDeed, yv_NotReady_NoMark, yv_NotReady_NoNumber, yv_NotReady_TooGreat, yv_NotReady_NothingDone, yv_NothingDone_NetError, yv_NothingDone_BadNet, yv_NothingDone_NotReady, yv_NothingDone_NoDeed, yv_NothingDone_NoMark, yv_NothingDone_NoNumber, yv_NothingDone_TooGreat, yv_NothingDone_NothingDone, yv_TooGreat_NetError, yv_TooGreat_BadNet, yv_TooGreat_NotReady, yv_TooGreat_NoDeed, yv_TooGreat_NoMark, yv_TooGreat_NoNumber, yv_TooGreat_TooGreat, yv_TooGreat_NothingDone, yv_ValueError_NetError, yv_ValueError_BadNet, yv_ValueError_NotReady, yv_ValueError_NoDeed, yv_ValueError_NoMark, yv_ValueError_NoNumber, yv_ValueError_TooGreat, yv_ValueError_NothingDone, iv_NetError, iv_BadNet, iv_NotReady, iv_NoDeed, iv_NoMark, iv_NoNumber, iv_TooGreat, iv_NothingDone, so_0, sb_0_1, sn_0_1, sb_0_2, sn_0_2, sb_0_3, sn_0_3, sb_0_4, sn_0_4, sb_0_5, sn_0_5, sb_0_6, sn_0_6, sb_0_7, sn_0_7, so_1, sb_1_0, sn_1_0, sb_1_2, sn_1_2, sb_1_3, sn_1_3, sb_1_4, sn_1_4, sb_1_5, sn_1_5, sb_1_6, sn_1_6, sb_1_7, sn_1_7, so_2, sb_2_0, sn_2_0, sb_2_1, sn_2_1, sb_2_3, sn_2_3, sb_2_4, sn_2_4, sb_2_5, sn_2_5, sb_2_6, sn_2_6, sb_2_7, sn_2_7, so_3, sb_3_0, sn_3_0, sb_3_1, sn_3_1, sb_3_2, sn_3_2, sb_3_4, sn_3_4, sb_3_5, sn_3_5, sb_3_6, sn_3_6, sb_3_7, sn_3_7, so_4, sb_4_0, sn_4_0, sb_4_1, sn_4_1, sb_4_2, sn_4_2, sb_4_3, sn_4_3, sb_4_5, sn_4_5, sb_4_6, sn_4_6, sb_4_7, sn_4_7, so_5, sb_5_0, sn_5_0, sb_5_1, sn_5_1, sb_5_2, sn_5_2, sb_5_3, sn_5_3, sb_5_4, sn_5_4, sb_5_6, sn_5_6, sb_5_7, sn_5_7, so_6, sb_6_0, sn_6_0, sb_6_1, sn_6_1, sb_6_2, sn_6_2, sb_6_3, sn_6_3, sb_6_4, sn_6_4, sb_6_5, sn_6_5, sb_6_7, sn_6_7, so_7, sb_7_0, sn_7_0, sb_7_1, sn_7_1, sb_7_2, sn_7_2, sb_7_3, sn_7_3, sb_7_4, sn_7_4, sb_7_5, sn_7_5, sb_7_6, sn_7_6, hk, hl, hd, hs]
theorem lamE {Tb : Addr} {tt : Nat} {fb : EF} {σ σ' : En} {c : Str} {ks vs} {d : D} (h : sget σ tt = some (.tab Tb qL)) (e : fb σ = .exc c ks vs σ') (p : patB σ' σ = true)
    (v : valR (bq_word (fun σ => .exc c ks vs σ) (some .non :: List.replicate 3 none)) σ' = .ok (.val d) σ') : eLamC Tb qL tt H0_word fb σ = .ok (.val d) σ' := eLamC_val h ((H0of_exc e p).trans v)
theorem lamV {Tb : Addr} {tt : Nat} {fb : EF} {σ σ' : En} {d d' : D} (h : sget σ tt = some (.tab Tb qL)) (e : fb σ = .ok (.val d') σ') (p : patB σ' σ = true)
    (v : valR (bq_word (fun σ => .ok (.val d') σ) (some .non :: List.replicate 3 none)) σ' = .ok (.val d) σ') : eLamC Tb qL tt H0_word fb σ = .ok (.val d) σ' := eLamC_val h ((H0of_ok e p).trans v)
/-- the word of an outcome -/
def wordD : Res → D
  | .ok _ => .tup [.str "told", .non]
  | .bad w _ _ _ => w
/-- the life behind an outcome -/
def lifeP (s : St) (es ss : List D) (w : D) : Res → D
  | .ok s' => lifeD (pD s') (es ++ [pD s]) (ss ++ [w])
  | .bad _ _ _ _ => lifeD (pD s) es ss
theorem bad_word {s : St} {a : Act} (ha : ActOk a) {w : D} {c : Str} {ks vs} (h : resP s a = .bad w c ks vs) {σ : En} : valR (bq_word (fun σ => .exc c ks vs σ) (some .non :: List.replicate 3 none)) σ = .ok (.val w) σ := by
  have key : ∀ r : Res, r = .bad w c ks vs → (r = deedB ∨ r = greatB ∨ r = numB ∨ r = markB ∨ ∃ d, fz d = true ∧ r = readyB d) → valR (bq_word (fun σ => .exc c ks vs σ) (some .non :: List.replicate 3 none)) σ = .ok (.val w) σ := by
    rintro r hr (rfl | rfl | rfl | rfl | ⟨d, hd, rfl⟩)
    · cases hr; exact word_NoDeed
    · cases hr; exact word_TooGreat
    · cases hr; exact word_NoNumber
    · cases hr; exact word_NoMark
    · cases hr; exact word_NotReady hd
  have nok : ∀ s', resP s a ≠ .ok s' := fun s' z => by rw [h] at z; cases z
  refine key _ h ?_
  cases a with
  | dO d =>
    have hz := fz_plain (show plainK d = true from ha)
    simp only [resP, resDo] at nok ⊢
    split at nok
    · rename_i hw
      rw [if_pos hw]
      split at nok
      · rename_i x hx
        split at nok
        · rename_i hc
          rw [if_pos hc]
          split at nok
          · exact (nok _ rfl).elim
          · rename_i hf; rw [if_neg hf]; exact .inr (.inl rfl)
        · rename_i hc; rw [if_neg hc]; exact .inr (.inr (.inr (.inr ⟨d, hz, rfl⟩)))
      · exact .inl rfl
    · rename_i hw; rw [if_neg hw]; exact .inl rfl
  | leave d =>
    simp only [resP, resLeave] at nok ⊢
    split at nok
    · exact (nok _ rfl).elim
    · rename_i hw; rw [if_neg hw]; exact .inl rfl
  | add r b =>
    simp only [resP, resAdd] at nok ⊢
    split at nok
    · rename_i hw
      rw [if_pos hw]
      split at nok
      · rename_i hf; rw [if_pos hf]; exact .inr (.inl rfl)
      · exact (nok _ rfl).elim
    · rename_i hw; rw [if_neg hw]; exact .inl rfl
  | put x y =>
    simp only [resP, resPut] at nok ⊢
    split at nok
    · rename_i hw
      rw [if_pos hw]
      split at nok
      · exact (nok _ rfl).elim
      · rename_i hf; rw [if_neg hf]; exact .inr (.inl rfl)
    · rename_i hw; rw [if_neg hw]; exact .inr (.inr (.inl rfl))
  | take x y =>
    simp only [resP, resTake] at nok ⊢
    split at nok
    · rename_i hw
      rw [if_pos hw]
      split at nok
      · exact (nok _ rfl).elim
      · rename_i hf; rw [if_neg hf]; exact .inr (.inr (.inr (.inl rfl)))
    · rename_i hw; rw [if_neg hw]; exact .inr (.inr (.inl rfl))
/-- the states behind are states -/
theorem behind_nn {m : List Int} {x : Deed} (hc : canDo m x = true) (h2 : ∀ z ∈ x.2, 0 ≤ z) : ∀ z ∈ behindP m x, 0 ≤ z := by
  intro z hz
  unfold behindP at hz
  obtain ⟨q, hq, rfl⟩ := List.mem_map.mp hz
  obtain ⟨i, hi, e⟩ := List.getElem_of_mem hq
  unfold canDo at hc
  rw [List.all_eq_true] at hc
  simp only [List.length_zip] at hi
  have g1 : (q.1, q.2.1) ∈ List.zip m x.1 := by
    rw [← e]
    rw [List.getElem_zip, List.getElem_zip]
    have : (List.zip m x.1)[i]'(by simp; omega) = (m[i]'(by omega), x.1[i]'(by omega)) := by rw [List.getElem_zip]
    rw [← this]
    exact List.getElem_mem _
  have g2 : q.2.2 ∈ x.2 := by
    rw [← e, List.getElem_zip, List.getElem_zip]
    exact List.getElem_mem _
  have := of_decide_eq_true (hc _ g1)
  have := h2 _ g2
  simp only at *
  omega
theorem stOk_mark {s : St} (h : StOk s) {m : List Int} (hl : m.length = s.m.length) (hb : ∀ z ∈ m, 0 ≤ z ∧ z ≤ 1000000) : StOk { s with m := m } := ⟨h.net, h.p1, h.p4, by show (m.length : Int) = _; rw [hl]; exact h.lm, hb⟩
theorem set_mark {m : List Int} {k : Nat} (hk : k < m.length) {v : Int} (hb : ∀ z ∈ m, 0 ≤ z ∧ z ≤ 1000000) (hv : 0 ≤ v ∧ v ≤ 1000000) : (m.take k ++ [v] ++ m.drop (k + 1)).length = m.length ∧ ∀ z ∈ m.take k ++ [v] ++ m.drop (k + 1), 0 ≤ z ∧ z ≤ 1000000 := by
  refine ⟨by simp; omega, fun z hz => ?_⟩
  rcases List.mem_append.mp hz with hz | hz
  · rcases List.mem_append.mp hz with hz | hz
    · exact hb z (List.mem_of_mem_take hz)
    · rw [List.mem_singleton.mp hz]; exact hv
  · exact hb z (List.mem_of_mem_drop hz)
theorem res_ok {s s' : St} {a : Act} (h : StOk s) (ha : ActOk a) (e : resP s a = .ok s') : StOk s' := by
  cases a with
  | dO d =>
    simp only [resP, resDo] at e
    split at e
    · split at e
      · rename_i x hx
        split at e
        · rename_i hc
          split at e
          · rename_i hf
            cases e
            have hm : x ∈ s.ds := List.mem_of_getElem? hx
            have l1 := h.net.l1 x hm
            have l2 := h.net.l2 x hm
            have lm := h.lm
            refine stOk_mark h (by simp [behindP]; omega) fun z hz => ⟨behind_nn hc (fun z hz => (h.net.b2 x hm z hz).1) z hz, (few_iff _).mp hf z hz⟩
          · cases e
        · cases e
      · cases e
    · cases e
  | leave d =>
    simp only [resP, resLeave] at e
    split at e
    · cases e
      exact ⟨netOk_leave h.net _, h.p1, h.p4, h.lm, h.bm⟩
    · cases e
  | add r b =>
    simp only [resP, resAdd] at e
    split at e
    · rename_i hw
      split at e
      · cases e
      · rename_i hf
        cases e
        rw [Bool.and_eq_true] at hw
        obtain ⟨r', er, r1, r2⟩ := cts_tup hw.1
        obtain rfl := (tI_inj _ _).mp er
        obtain ⟨ys, rfl, y1, y2⟩ := cts_tup hw.2
        have := h.net.hd
        exact ⟨netOk_add h.net (by omega) r1 (by rw [intsOf_tI]; exact y1) r2 (by rw [intsOf_tI]; exact y2), h.p1, h.p4, h.lm, h.bm⟩
    · cases e
  | put x y =>
    simp only [resP, resPut] at e
    split at e
    · rename_i hw
      rw [Bool.and_eq_true] at hw
      split at e
      · rename_i hf
        cases e
        obtain ⟨i, rfl, h0, h1⟩ := wi_int_of hw.1
        obtain ⟨j, rfl, j0, j1⟩ := wi_int_of hw.2
        obtain ⟨k, rfl⟩ : ∃ k : Nat, i = k := ⟨i.toNat, by omega⟩
        have hk := mark_at h h1
        have e0 : natOf (.int (k : Int)) = k := by simp [natOf]
        have e1 : intOf (.int j) = j := rfl
        have e2 : s.m.getD k 0 = s.m[k] := by simp [List.getD, hk]
        rw [e0, e1, e2] at hf ⊢
        have b0 := h.bm _ (List.getElem_mem hk)
        have q := set_mark hk h.bm (v := s.m[k] + j) ⟨by omega, hf⟩
        exact stOk_mark h q.1 q.2
      · cases e
    · cases e
  | take x y =>
    simp only [resP, resTake] at e
    split at e
    · rename_i hw
      rw [Bool.and_eq_true] at hw
      split at e
      · rename_i hf
        cases e
        obtain ⟨i, rfl, h0, h1⟩ := wi_int_of hw.1
        obtain ⟨j, rfl, j0, j1⟩ := wi_int_of hw.2
        obtain ⟨k, rfl⟩ : ∃ k : Nat, i = k := ⟨i.toNat, by omega⟩
        have hk := mark_at h h1
        have e0 : natOf (.int (k : Int)) = k := by simp [natOf]
        have e1 : intOf (.int j) = j := rfl
        have e2 : s.m.getD k 0 = s.m[k] := by simp [List.getD, hk]
        rw [e0, e1, e2] at hf ⊢
        have b0 := h.bm _ (List.getElem_mem hk)
        have q := set_mark hk h.bm (v := s.m[k] - j) ⟨by omega, by omega⟩
        exact stOk_mark h q.1 q.2
      · cases e
    · cases e
/-! ### what stands is shown alike -/
theorem shw_tI {xs : List Int} (hl : xs.length ≤ 20) (hb : ∀ z ∈ xs, 0 ≤ z ∧ z ≤ 1000000) : Shw (tI xs) 1 304 := by
  have := shw_tup (ds := xs.map D.int) (k := 0) (n := 13) fun d hd => by
    obtain ⟨z, hz, rfl⟩ := List.mem_map.mp hd
    have := hb z hz
    exact shw_int (by omega) (by omega)
  exact shw_mono this (by omega) (by simp; omega)
theorem shw_deed {p : Int} {ds : List Deed} (h : NetOk p ds) {x : Deed} (hx : x ∈ ds) : Shw (deedD x) 2 616 := by
  have b1 := h.b1 x hx
  have b2 := h.b2 x hx
  have l1 := h.l1 x hx
  have l2 := h.l2 x hx
  have hp := h.h1
  have := shw_tup (ds := [tI x.1, tI x.2]) (k := 1) (n := 304) fun d hd => by
    simp only [List.mem_cons, List.not_mem_nil, or_false] at hd
    rcases hd with rfl | rfl
    · exact shw_tI (by omega) fun z hz => by have := b1 z hz; omega
    · exact shw_tI (by omega) fun z hz => by have := b2 z hz; omega
  exact shw_mono this (by omega) (by simp)
theorem shw_deeds {p : Int} {ds : List Deed} (h : NetOk p ds) : Shw (deedsD ds) 3 9892 := by
  have hd := h.hd
  have := shw_tup (ds := ds.map deedD) (k := 2) (n := 616) fun d hd => by
    obtain ⟨x, hx, rfl⟩ := List.mem_map.mp hd
    exact shw_deed h hx
  exact shw_mono this (by omega) (by simp; omega)
theorem shw_st {s : St} (h : StOk s) : Shw (stD s) 4 30000 := by
  have h1 := h.lm
  have h2 := h.p4
  have h3 := h.p1
  have := shw_tup (ds := [.int s.p, deedsD s.ds, tI s.m]) (k := 3) (n := 9892) fun d hd => by
    simp only [List.mem_cons, List.not_mem_nil, or_false] at hd
    rcases hd with rfl | rfl | rfl
    · exact shw_mono (shw_int (by omega) (by omega)) (by omega) (by omega)
    · exact shw_deeds h.net
    · exact shw_mono (shw_tI (by omega) h.bm) (by omega) (by omega)
  exact shw_mono this (by omega) (by simp)
theorem p_like {s : St} {es ss : List D} (h : StOk s) : m__law_is_like [lifeD (pD s) es ss, stD s] = .ret (.bl true) [lifeD (pD s) es ss, stD s] := by
  obtain ⟨z, e, hz⟩ := dRepr_of (shw_st h) (by omega) (by omega)
  have en := p_Life_now [netD s.p (deedsD s.ds), tI s.m] es ss
  have eq := dEq_str hz hz
  unfold m__law_is_like
  refine mdef_eq rfl ?_
  refine go_step [some (lifeD (pD s) es ss), some (stD s), some (netD s.p (deedsD s.ds)), some (tI s.m)] (by simp [en]) ?_
  exact go_ret (.bl true) [some (lifeD (pD s) es ss), some (stD s), some (netD s.p (deedsD s.ds)), some (tI s.m)] (by simp [e, eq]) (by simp)
end Toy
namespace Toy
open PySem PySem.Spec PyProof.Rows L2 DL
theorem pk_int (i : Int) : plainK (.int i) = true := rfl
theorem rep_tup (v : Int) (n : Nat) : (List.replicate n [D.int v]).flatten = (List.replicate n v).map .int := by
  induction n with
  | zero => rfl
  | succ n ih => rw [List.replicate_succ, List.flatten_cons, ih, List.replicate_succ, List.map_cons]; rfl
theorem plainT_ints {o : Bool} {xs : List Int} (hl : xs.length ≤ 1000) (x : D) (h : x = .non ∨ x = tI xs ∨ x = .lst false (xs.map .int)) : plainT x := by
  rcases h with rfl | rfl | rfl
  · exact plainT_of rfl (fun ds e => by cases e)
  · exact plainT_tI (by omega)
  · exact plainT_of rfl (fun ds e => by cases e)
theorem pick5 {x : D} {a b : Int} (h : x ∈ [D.int a, .int b, .int (-1), .non, .bl true]) : plainK x = true := by
  simp only [List.mem_cons, List.not_mem_nil, or_false] at h
  rcases h with rfl | rfl | rfl | rfl | rfl <;> rfl
/-- a row that is drawn -/
theorem draw_row {h : D} {s : St} (H : Hand h) (hs : StOk s) (o5 o6 : Option D) (w i : D) : ∃ (xs : List Int) (h' : D), Hand h' ∧ (xs.length : Int) = s.p ∧ (∀ z ∈ xs, 0 ≤ z ∧ z ≤ 2) ∧
    lcLoop [7] (gdName 7) tYesD (eCall m__law_draw (aCons (eV 0) (aCons (eC (.int 3)) aNil))) ((List.range s.p.toNat).map fun k : Nat => D.int (k : Int)) [] [some h, some (stD s), some (.int s.p), some (deedsD s.ds), some w, o5, o6, none, some i]
      = .ok (xs.map D.int) [some h', some (stD s), some (.int s.p), some (deedsD s.ds), some w, o5, o6, none, some i] := by
  have hp := hs.p4
  have hp1 := hs.p1
  obtain ⟨xs, h', H', l, b, e⟩ := lc_handA D.int (vs := [7]) (g := gdName 7) (t := tYesD) (f := eCall m__law_draw (aCons (eV 0) (aCons (eC (.int 3)) aNil))) (fun h => [some h, some (stD s), some (.int s.p), some (deedsD s.ds), some w, o5, o6, none, some i]) (fun z : Int => 0 ≤ z ∧ z ≤ 2) s.p.toNat (by omega) (fun h k hk H => by
    obtain ⟨z, h', e, l, u, H'⟩ := p_draw (n := 3) H (by omega) (by omega)
    exact ⟨z, h', H', ⟨l, by omega⟩, by simp [lcStep, H.fz, e]⟩) H
  exact ⟨xs, h', H', by omega, b, e⟩
theorem p_law_act {h : D} {s : St} (H : Hand h) (hs : StOk s) : ∃ (a : Act) (h' : D), m__law_act [h, stD s] = .ret (actD a) [h', stD s] ∧ Hand h' ∧ ActOk a := by
  have hp := hs.p4
  have hp1 := hs.p1
  have hd := hs.net.hd
  have hl2 : s.ds.length ≤ 16777216 := by omega
  obtain ⟨s1, s2, s3, s4, s5⟩ := so_w
  obtain ⟨n1, n2, n3, n4, n5, n6, n7, n8, n9, n10⟩ := ne_w
  obtain ⟨i1, i2, i3, i4, i5⟩ := in_w
  have ez := fzAll_map deedD (fun _ => rfl) s.ds
  have p6 := CPow6
  obtain ⟨p, hpp⟩ : ∃ k : Nat, s.p = k := ⟨s.p.toNat, by omega⟩
  have hpn : s.p.toNat = p := by omega
  have rp : rngOk s.p := by rw [hpp]; exact rngOk_nat (by omega)
  unfold m__law_act
  refine mdef_go (R := fun r => ∃ (a : Act) (h' : D), r = .ret (actD a) [h', stD s] ∧ Hand h' ∧ ActOk a) rfl ?_
  refine go_step [some h, some (stD s), some (.int s.p), some (deedsD s.ds), none, none, none, none, none] (by simp) ?_
  obtain ⟨w, h1, mw, e1, H1⟩ := p_some (ds := [.str "do", .str "do", .str "do", .str "put", .str "put", .str "take", .str "add", .str "leave"]) (o := true) H (by simp) (by simp) rfl
  have wz : fz w = true := by
    simp only [List.mem_cons, List.not_mem_nil, or_false] at mw
    rcases mw with rfl | rfl | rfl | rfl | rfl | rfl | rfl | rfl <;> rfl
  refine go_step [some h1, some (stD s), some (.int s.p), some (deedsD s.ds), some w, none, none, none, none] (by simp [H.fz, H1.fz, e1, wz, share_fz wz]) ?_
  have mw' : w = .str "do" ∨ w = .str "put" ∨ w = .str "take" ∨ w = .str "add" ∨ w = .str "leave" := by
    simp only [List.mem_cons, List.not_mem_nil, or_false] at mw
    rcases mw with q | q | q | q | q | q | q | q <;> simp [q]
  rcases mw' with rfl | rfl | rfl | rfl | rfl
  · obtain ⟨z1, h2, e2, l2, u2, H2⟩ := p_draw (n := s.ds.length + 1) H1 (by omega) (by omega)
    obtain ⟨z2, h3, e3, l3, u3, H3⟩ := p_draw (n := s.ds.length + 1) H2 (by omega) (by omega)
    obtain ⟨x, h4, mx, e4, H4⟩ := p_some (ds := [.int z1, .int z2, .int (-1), .non, .bl true]) (o := true) H3 (by simp) (by simp) rfl
    have px := pick5 mx
    have zx := fz_plain px
    exact go_seq_rt (.tup [.str "do", x]) [some h4, some (stD s), some (.int s.p), some (deedsD s.ds), some (.str "do"), none, none, none, none] (by simp [i1, hl2, H1.fz, H2.fz, H3.fz, H4.fz, e2, e3, e4, zx, share_fz zx]) ⟨[h4, stD s], by simp, .dO x, h4, rfl, H4, px⟩
  · refine go_step [some h1, some (stD s), some (.int s.p), some (deedsD s.ds), some (.str "put"), none, none, none, none] (by simp [i4]) ?_
    refine go_step [some h1, some (stD s), some (.int s.p), some (deedsD s.ds), some (.str "put"), none, none, none, none] (by simp [dEq_str, s3, s4, s5, n6]) ?_
    obtain ⟨z1, h2, e2, l2, u2, H2⟩ := p_draw (n := s.p + 1) H1 (by omega) (by omega)
    obtain ⟨z2, h3, e3, l3, u3, H3⟩ := p_draw (n := s.p) H2 (by omega) (by omega)
    obtain ⟨x, h4, mx, e4, H4⟩ := p_some (ds := [.int z1, .int z2, .int (-1), .non, .bl true]) (o := true) H3 (by simp) (by simp) rfl
    have px := pick5 mx
    have zx := fz_plain px
    refine go_step [some h4, some (stD s), some (.int s.p), some (deedsD s.ds), some (.str "put"), none, none, some x, none] (by simp [H1.fz, H2.fz, H3.fz, H4.fz, e2, e3, e4, zx, share_fz zx]) ?_
    obtain ⟨z5, h5, e5, l5, u5, H5⟩ := p_draw (n := 9) H4 (by omega) (by omega)
    obtain ⟨y, h6, my, e6, H6⟩ := p_some (ds := [.int 1, .int 2, .int 3, .int (1 + z5), .int (-1), .non, .bl true, .int 1000000]) (o := true) H5 (by simp) (by simp) rfl
    have py : plainK y = true := by
      simp only [List.mem_cons, List.not_mem_nil, or_false] at my
      rcases my with rfl | rfl | rfl | rfl | rfl | rfl | rfl | rfl <;> rfl
    have zy := fz_plain py
    exact go_ret (.tup [.str "put", x, y]) [some h6, some (stD s), some (.int s.p), some (deedsD s.ds), some (.str "put"), none, none, some x, none] (by simp [H4.fz, H5.fz, H6.fz, e5, e6, zx, zy, p6, share_fz zx, share_fz zy]) ⟨[h6, stD s], by simp, .put x y, h6, rfl, H6, px, py⟩
  · refine go_step [some h1, some (stD s), some (.int s.p), some (deedsD s.ds), some (.str "take"), none, none, none, none] (by simp [i5]) ?_
    refine go_step [some h1, some (stD s), some (.int s.p), some (deedsD s.ds), some (.str "take"), none, none, none, none] (by simp [dEq_str, s3, s4, s5, n9]) ?_
    obtain ⟨z1, h2, e2, l2, u2, H2⟩ := p_draw (n := s.p + 1) H1 (by omega) (by omega)
    obtain ⟨z2, h3, e3, l3, u3, H3⟩ := p_draw (n := s.p) H2 (by omega) (by omega)
    obtain ⟨x, h4, mx, e4, H4⟩ := p_some (ds := [.int z1, .int z2, .int (-1), .non, .bl true]) (o := true) H3 (by simp) (by simp) rfl
    have px := pick5 mx
    have zx := fz_plain px
    refine go_step [some h4, some (stD s), some (.int s.p), some (deedsD s.ds), some (.str "take"), none, none, some x, none] (by simp [H1.fz, H2.fz, H3.fz, H4.fz, e2, e3, e4, zx, share_fz zx]) ?_
    obtain ⟨z5, h5, e5, l5, u5, H5⟩ := p_draw (n := 9) H4 (by omega) (by omega)
    obtain ⟨y, h6, my, e6, H6⟩ := p_some (ds := [.int 1, .int 2, .int 3, .int (1 + z5), .int (-1), .non, .bl true, .int 1000000]) (o := true) H5 (by simp) (by simp) rfl
    have py : plainK y = true := by
      simp only [List.mem_cons, List.not_mem_nil, or_false] at my
      rcases my with rfl | rfl | rfl | rfl | rfl | rfl | rfl | rfl <;> rfl
    have zy := fz_plain py
    exact go_ret (.tup [.str "take", x, y]) [some h6, some (stD s), some (.int s.p), some (deedsD s.ds), some (.str "take"), none, none, some x, none] (by simp [H4.fz, H5.fz, H6.fz, e5, e6, zx, zy, p6, share_fz zx, share_fz zy]) ⟨[h6, stD s], by simp, .take x y, h6, rfl, H6, px, py⟩
  · refine go_step [some h1, some (stD s), some (.int s.p), some (deedsD s.ds), some (.str "add"), none, none, none, none] (by simp [i3]) ?_
    refine go_seqI (fun _ => False) (go_ift (σ1 := [some h1, some (stD s), some (.int s.p), some (deedsD s.ds), some (.str "add"), none, none, none, none]) (by simp [dEq_str, s3]) ?_) (fun _ z => z.elim)
    -- the two rows
    obtain ⟨ra, h2, H2, la, ba, ea⟩ := draw_row H1 hs none none (.str "add") (.int 0)
    obtain ⟨rb, h3, H3, lb, bb, eb⟩ := draw_row H2 hs none none (.str "add") (.int 1)
    have za := fzAll_map D.int (fun _ => rfl) ra
    have zb := fzAll_map D.int (fun _ => rfl) rb
    have lc : lcLoop [8] (gdName 8) tYesD (eUn dTuple (eLc [7] (iRng1D (aCons (eV 2) aNil)) (gdName 7) tYesD (eCall m__law_draw (aCons (eV 0) (aCons (eC (.int 3)) aNil))))) [.int 0, .int 1] [] [some h1, some (stD s), some (.int s.p), some (deedsD s.ds), some (.str "add"), none, none, none, none]
        = .ok [tI ra, tI rb] [some h3, some (stD s), some (.int s.p), some (deedsD s.ds), some (.str "add"), none, none, none, none] := by
      obtain ⟨acc', σ', e, hh⟩ := lc_go (vs := [8]) (g := gdName 8) (t := tYesD) (f := eUn dTuple (eLc [7] (iRng1D (aCons (eV 2) aNil)) (gdName 7) tYesD (eCall m__law_draw (aCons (eV 0) (aCons (eC (.int 3)) aNil)))))
        (fun k acc σ => (k = 0 ∧ acc = [] ∧ σ = [some h1, some (stD s), some (.int s.p), some (deedsD s.ds), some (.str "add"), none, none, none, none]) ∨ (k = 1 ∧ acc = [tI ra] ∧ σ = [some h2, some (stD s), some (.int s.p), some (deedsD s.ds), some (.str "add"), none, none, none, none]) ∨ (k = 2 ∧ acc = [tI ra, tI rb] ∧ σ = [some h3, some (stD s), some (.int s.p), some (deedsD s.ds), some (.str "add"), none, none, none, none]))
        [.int 0, .int 1] 0 [] [some h1, some (stD s), some (.int s.p), some (deedsD s.ds), some (.str "add"), none, none, none, none] (.inl ⟨rfl, rfl, rfl⟩) (by simp) (by
          rintro i d acc σ hi (⟨hk, rfl, rfl⟩ | ⟨hk, rfl, rfl⟩ | ⟨hk, rfl, rfl⟩)
          · obtain rfl : i = 0 := by omega
            simp at hi; subst hi
            exact ⟨some (tI ra), _, by simp [lcStep, rp, ea, za], .inr (.inl ⟨rfl, rfl, rfl⟩)⟩
          · obtain rfl : i = 1 := by omega
            simp at hi; subst hi
            exact ⟨some (tI rb), _, by simp [lcStep, rp, eb, zb], .inr (.inr ⟨rfl, rfl, rfl⟩)⟩
          · have := (List.getElem?_eq_some_iff.mp hi).1
            simp at this
            omega)
      rw [e]
      rcases hh with ⟨hk, _⟩ | ⟨hk, _⟩ | ⟨_, rfl, rfl⟩
      · simp at hk
      · simp at hk
      · rfl
    refine go_step [some h3, some (stD s), some (.int s.p), some (deedsD s.ds), some (.str "add"), some (.lst true [tI ra, tI rb]), none, none, none] (by simp [lc]) ?_
    have f1 := rep_tup 10 p
    have f2 := rep_tup 0 (p + 1)
    have f3 := rep_tup 0 p
    have f4 := rep_tup (-1) p
    have e1p : ((p : Int) + 1).toNat = p + 1 := by omega
    have b1 : -1000 ≤ (p : Int) := by omega
    have b2 : (p : Int) ≤ 1000 := by omega
    have b3 : (p : Int) + 1 ≤ 1000 := by omega
    have b4 : -1000 ≤ (p : Int) + 1 := by omega
    have sh0 := shareL_map D.int (fun _ => rfl) (List.replicate p 0)
    obtain ⟨x, h4, mx, e4, H4⟩ := p_some (ds := [.non, tI (List.replicate p 10), tI (List.replicate (p + 1) 0), .lst false ((List.replicate p 0).map .int), tI (List.replicate p (-1))]) (o := true) H3 (by simp) (by simp) rfl
    have hx : plainT x := by
      simp only [List.mem_cons, List.not_mem_nil, or_false] at mx
      rcases mx with rfl | rfl | rfl | rfl | rfl
      · exact plainT_ints (xs := []) (o := true) (by simp) _ (.inl rfl)
      · exact plainT_tI (by simp; omega)
      · exact plainT_tI (by simp; omega)
      · exact plainT_ints (o := true) (xs := List.replicate p 0) (by simp; omega) _ (.inr (.inr rfl))
      · exact plainT_tI (by simp; omega)
    have zx := fz_plain hx.1
    refine go_step [some h4, some (stD s), some (.int s.p), some (deedsD s.ds), some (.str "add"), some (.lst true [tI ra, tI rb]), some x, none, none] (by
      rw [hpp]
      simp [H3.fz, H4.fz, b1, b2, b3, b4, e1p, f1, f2, f3, f4]
      simp only [tI] at e4
      simp only [List.map_replicate] at e4 sh0 ⊢
      simp [sh0, e4, zx, share_fz zx, H4.fz]) ?_
    obtain ⟨z5, h5, e5, l5, u5, H5⟩ := p_draw (n := 4) H4 (by omega) (by omega)
    by_cases hz : 0 < z5
    · exact go_ret (.tup [.str "add", tI ra, tI rb]) [some h5, some (stD s), some (.int s.p), some (deedsD s.ds), some (.str "add"), some (.lst true [tI ra, tI rb]), some x, none, none] (by simp [H4.fz, H5.fz, e5, hz]) ⟨[h5, stD s], by simp, .add ra (tI rb), h5, rfl, H5, by omega, plainT_tI (by omega)⟩
    · exact go_ret (.tup [.str "add", tI ra, x]) [some h5, some (stD s), some (.int s.p), some (deedsD s.ds), some (.str "add"), some (.lst true [tI ra, tI rb]), some x, none, none] (by simp [H4.fz, H5.fz, e5, hz, zx, share_fz zx]) ⟨[h5, stD s], by simp, .add ra x, h5, rfl, H5, by omega, hx⟩
  · obtain ⟨z1, h2, e2, l2, u2, H2⟩ := p_draw (n := s.ds.length + 1) H1 (by omega) (by omega)
    obtain ⟨z2, h3, e3, l3, u3, H3⟩ := p_draw (n := s.ds.length + 1) H2 (by omega) (by omega)
    obtain ⟨x, h4, mx, e4, H4⟩ := p_some (ds := [.int z1, .int z2, .int (-1), .non, .bl true]) (o := true) H3 (by simp) (by simp) rfl
    have px := pick5 mx
    have zx := fz_plain px
    exact go_seq_rt (.tup [.str "leave", x]) [some h4, some (stD s), some (.int s.p), some (deedsD s.ds), some (.str "leave"), none, none, none, none] (by simp [i2, hl2, H1.fz, H2.fz, H3.fz, H4.fz, e2, e3, e4, zx, share_fz zx]) ⟨[h4, stD s], by simp, .leave x, h4, rfl, H4, px⟩
end Toy
namespace Toy
open PySem PySem.Spec PyProof.Rows L2 DL
section
variable {P : Program} {w : World} {K : PySem.W.Frag} {mg : Str → Option Value} {base : Heap}
theorem sc_is_integer : FnScope ["thing"] ["thing"] (defScope s_is_integer) := ⟨rfl, rfl, rfl, by decide +kernel, rfl, by decide +kernel, by decide +kernel⟩
theorem ok_is_integer (T : TX P K mg) : FnG P w K mg base (L2.CX P w) 1 T.a_is_integer T.fd_is_integer ["thing"] (spM K mg 1 m_is_integer) :=
  fn_good T.t_is_integer sc_is_integer rfl rfl fun cdv A outer s H E hr =>
    (lss_one (ls_ret (le_and (le_isi (x := ("" : Str)) T.k_int (.ty "int") (pe_bltn (by rfl) T.n_int bt_int rfl) (le_var (pv 0)) (by rfl) T.n_isinstance) (le_one (le_not (le_isi (x := ("" : Str)) T.k_bool (.ty "bool") (pe_bltn (by rfl) T.n_bool bt_bool rfl) (le_var (pv 0)) (by rfl) T.n_isinstance))))))
theorem sc_is_within : FnScope ["thing", "least", "most"] ["thing", "least", "most"] (defScope s_is_within) := ⟨rfl, rfl, rfl, by decide +kernel, rfl, by decide +kernel, by decide +kernel⟩
theorem ok_is_within (T : TX P K mg) : FnG P w K mg base (L2.CX P w) 2 T.a_is_within T.fd_is_within ["thing", "least", "most"] (spM K mg 3 m_is_within) :=
  fn_good T.t_is_within sc_is_within rfl rfl fun cdv A outer s H E hr =>
    (lss_one (ls_ret (le_and (le_call (ok_is_integer T) (hr.mono (by decide)) (by rfl) T.g_is_integer T.t_is_integer.kp T.b_is_integer (takes_of rfl rfl rfl rfl) (la_cons (le_var (pv 0)) la_nil) (aLen_cons aLen_nil)) (le_one (le_chain op_le opd_cmp op_le opd_cmp (le_var (pv 1)) (le_var (pv 0)) (le_var (pv 2)))))))
theorem sc_is_tuple : FnScope ["thing", "least", "most"] ["thing", "least", "most"] (defScope s_is_tuple) := ⟨rfl, rfl, rfl, by decide +kernel, rfl, by decide +kernel, by decide +kernel⟩
theorem ok_is_tuple (T : TX P K mg) : FnG P w K mg base (L2.CX P w) 1 T.a_is_tuple T.fd_is_tuple ["thing", "least", "most"] (spM K mg 3 m_is_tuple) :=
  fn_good T.t_is_tuple sc_is_tuple rfl rfl fun cdv A outer s H E hr =>
    (lss_one (ls_ret (le_and (le_isi (x := ("" : Str)) T.k_tuple (.ty "tuple") (pe_bltn (by rfl) T.n_tuple bt_tuple rfl) (le_var (pv 0)) (by rfl) T.n_isinstance) (le_one (le_chain op_le opd_cmp op_le opd_cmp (le_var (pv 1)) (le_call1 cr_lenD und_len (by rfl) T.n_len bt_len (le_var (pv 0))) (le_var (pv 2)))))))
theorem sc_Net_eq : FnScope ["self", "other"] ["self", "other"] (defScope s_Net_eq) := ⟨rfl, rfl, rfl, by decide +kernel, rfl, by decide +kernel, by decide +kernel⟩
theorem ok_Net_eq (T : TX P K mg) : FnG P w K mg base (L2.CX P w) 1 T.a_Net_eq T.fd_Net_eq ["self", "other"] (spM K mg 2 m_Net_eq) :=
  fn_good T.t_Net_eq sc_Net_eq rfl rfl fun cdv A outer s H E hr =>
    (lss_one (ls_ret (le_and (le_isi (x := ("" : Str)) T.k_Net (.own T.c_Net) (pe_glob (by rfl) T.g_Net rfl) (le_var (pv 1)) (by rfl) T.n_isinstance) (le_one (le_cmp (op_eqD hr.units) opd_eq (le_tup (la_cons (le_fld (le_var (pv 0))) (la_cons (le_fld (le_var (pv 0))) la_nil))) (le_tup (la_cons (le_fld (le_var (pv 1))) (la_cons (le_fld (le_var (pv 1))) la_nil))))))))
theorem sc_is_counts : FnScope ["places", "thing", "one"] ["places", "thing"] (defScope s_is_counts) := ⟨rfl, rfl, rfl, by decide +kernel, rfl, by decide +kernel, by decide +kernel⟩
theorem ok_is_counts (T : TX P K mg) : FnG P w K mg base (L2.CX P w) 3 T.a_is_counts T.fd_is_counts ["places", "thing"] (spM K mg 2 m_is_counts) :=
  fn_good T.t_is_counts sc_is_counts rfl rfl fun cdv A outer s H E hr =>
    (lss_one (ls_ret (le_and (le_call (ok_is_tuple T) (hr.mono (by decide)) (by rfl) T.g_is_tuple T.t_is_tuple.kp T.b_is_tuple (takes_of rfl rfl rfl rfl) (la_cons (le_var (pv 1)) (la_cons (le_var (pv 0)) (la_cons (le_var (pv 0)) la_nil))) (aLen_cons (aLen_cons (aLen_cons aLen_nil)))) (le_one (le_call1 (cr_all rfl) und_all (by rfl) T.n_all bt_all (le_lc rfl sc_is_counts.nd (li_seq (le_var (pv 1))) (own := [("one", 2)]) (blkOk_by rfl) (fun s H C cl fp => (lg_name rfl sc_is_counts.nd rfl (by first | exact .inl rfl | exact .inr rfl))) (fun s H C cl fp => lts_nil) (fun s H C cl fp => (le_call (ok_is_within T) (hr.mono (by decide)) (by rfl) T.g_is_within T.t_is_within.kp T.b_is_within takes0 (la_cons (le_var (pv 2)) (la_cons le_int (la_cons (le_globI (by rfl) T.g_MOST_TAKEN) la_nil))) (aLen_cons (aLen_cons (aLen_cons aLen_nil)))))))))))
theorem sc_is_mark : FnScope ["net", "thing", "one"] ["net", "thing"] (defScope s_is_mark) := ⟨rfl, rfl, rfl, by decide +kernel, rfl, by decide +kernel, by decide +kernel⟩
theorem ok_is_mark (T : TX P K mg) : FnG P w K mg base (L2.CX P w) 3 T.a_is_mark T.fd_is_mark ["net", "thing"] (spM K mg 2 m_is_mark) :=
  fn_good T.t_is_mark sc_is_mark rfl rfl fun cdv A outer s H E hr =>
    (lss_one (ls_ret (le_and (le_call (ok_is_tuple T) (hr.mono (by decide)) (by rfl) T.g_is_tuple T.t_is_tuple.kp T.b_is_tuple (takes_of rfl rfl rfl rfl) (la_cons (le_var (pv 1)) (la_cons (le_fld (le_var (pv 0))) (la_cons (le_fld (le_var (pv 0))) la_nil))) (aLen_cons (aLen_cons (aLen_cons aLen_nil)))) (le_one (le_call1 (cr_all rfl) und_all (by rfl) T.n_all bt_all (le_lc rfl sc_is_mark.nd (li_seq (le_var (pv 1))) (own := [("one", 2)]) (blkOk_by rfl) (fun s H C cl fp => (lg_name rfl sc_is_mark.nd rfl (by first | exact .inl rfl | exact .inr rfl))) (fun s H C cl fp => lts_nil) (fun s H C cl fp => (le_call (ok_is_within T) (hr.mono (by decide)) (by rfl) T.g_is_within T.t_is_within.kp T.b_is_within takes0 (la_cons (le_var (pv 2)) (la_cons le_int (la_cons (le_globI (by rfl) T.g_MOST_TOKENS) la_nil))) (aLen_cons (aLen_cons (aLen_cons aLen_nil)))))))))))
theorem sc_check_mark : FnScope ["net", "thing"] ["net", "thing"] (defScope s_check_mark) := ⟨rfl, rfl, rfl, by decide +kernel, rfl, by decide +kernel, by decide +kernel⟩
theorem ok_check_mark (T : TX P K mg) : FnG P w K mg base (L2.CX P w) 4 T.a_check_mark T.fd_check_mark ["net", "thing"] (spM K mg 2 m_check_mark) :=
  fn_good T.t_check_mark sc_check_mark rfl rfl fun cdv A outer s H E hr =>
    (lss_one (ls_if (lt_not (lt_val (le_call (ok_is_mark T) (hr.mono (by decide)) (by rfl) T.g_is_mark T.t_is_mark.kp T.b_is_mark (takes_of rfl rfl rfl rfl) (la_cons (le_var (pv 0)) (la_cons (le_var (pv 1)) la_nil)) (aLen_cons (aLen_cons aLen_nil))))) (lss_one (ls_raise0 rfl (takes_of rfl rfl rfl rfl) T.x_NoMark x0_NoMark hr (by rfl) T.g_NoMark T.n_super))
    lss_nil))
theorem sc_check_deed : FnScope ["net", "thing"] ["net", "thing"] (defScope s_check_deed) := ⟨rfl, rfl, rfl, by decide +kernel, rfl, by decide +kernel, by decide +kernel⟩
theorem ok_check_deed (T : TX P K mg) : FnG P w K mg base (L2.CX P w) 3 T.a_check_deed T.fd_check_deed ["net", "thing"] (spM K mg 2 m_check_deed) :=
  fn_good T.t_check_deed sc_check_deed rfl rfl fun cdv A outer s H E hr =>
    (lss_one (ls_if (lt_not (lt_val (le_call (ok_is_within T) (hr.mono (by decide)) (by rfl) T.g_is_within T.t_is_within.kp T.b_is_within (takes_of rfl rfl rfl rfl) (la_cons (le_var (pv 1)) (la_cons le_int (la_cons (le_bin op_sub opd_sub (le_call1 cr_lenD und_len (by rfl) T.n_len bt_len (le_fld (le_var (pv 0)))) le_int) la_nil))) (aLen_cons (aLen_cons (aLen_cons aLen_nil)))))) (lss_one (ls_raise0 rfl (takes_of rfl rfl rfl rfl) T.x_NoDeed x0_NoDeed hr (by rfl) T.g_NoDeed T.n_super))
    lss_nil))
theorem sc_can_do : FnScope ["net", "mark", "deed", "held", "taken"] ["net", "mark", "deed"] (defScope s_can_do) := ⟨rfl, rfl, rfl, by decide +kernel, rfl, by decide +kernel, by decide +kernel⟩
theorem ok_can_do (T : TX P K mg) : FnG P w K mg base (L2.CX P w) 1 T.a_can_do T.fd_can_do ["net", "mark", "deed"] (spM K mg 3 m_can_do) :=
  fn_good T.t_can_do sc_can_do rfl rfl fun cdv A outer s H E hr =>
    (lss_one (ls_ret (le_call1 (cr_all rfl) und_all (by rfl) T.n_all bt_all (le_lc rfl sc_can_do.nd (li_zip2 (by rfl) T.n_zip (la_cons (le_shr (le_var (pv 1))) (la_cons (le_shr (le_ix (le_ix (le_fld (le_var (pv 0))) (le_var (pv 2))) le_int)) la_nil))) (own := [("held", 3), ("taken", 4)]) (blkOk_by rfl) (fun s H C cl fp => (lg_tup rfl (lgs_cons (lg_name rfl sc_can_do.nd rfl (by first | exact .inl rfl | exact .inr rfl)) (lgs_cons (lg_name rfl sc_can_do.nd rfl (by first | exact .inl rfl | exact .inr rfl)) lgs_nil)))) (fun s H C cl fp => lts_nil) (fun s H C cl fp => (le_cmp op_ge opd_cmp (le_var (pv 3)) (le_var (pv 4))))))))
theorem sc_behind : FnScope ["net", "mark", "deed", "takes", "puts", "held", "taken", "put"] ["net", "mark", "deed"] (defScope s_behind) := ⟨rfl, rfl, rfl, by decide +kernel, rfl, by decide +kernel, by decide +kernel⟩
theorem ok_behind (T : TX P K mg) : FnG P w K mg base (L2.CX P w) 1 T.a_behind T.fd_behind ["net", "mark", "deed"] (spM K mg 3 m_behind) :=
  fn_good T.t_behind sc_behind rfl rfl fun cdv A outer s H E hr =>
    (lss_cons (ls_asg (le_ix (le_fld (le_var (pv 0))) (le_var (pv 2))) (lg_tup rfl (lgs_cons (lg_name rfl sc_behind.nd rfl (by first | exact .inl rfl | exact .inr rfl)) (lgs_cons (lg_name rfl sc_behind.nd rfl (by first | exact .inl rfl | exact .inr rfl)) lgs_nil))))
    (lss_one (ls_ret (le_callT1 call_tuple_of und_tuple (by rfl) T.n_tuple bt_tuple (le_lc rfl sc_behind.nd (li_zip3 (by rfl) T.n_zip (la_cons (le_shr (le_var (pv 1))) (la_cons (le_shr (le_var (pv 3))) (la_cons (le_shr (le_var (pv 4))) la_nil)))) (own := [("held", 5), ("taken", 6), ("put", 7)]) (blkOk_by rfl) (fun s H C cl fp => (lg_tup rfl (lgs_cons (lg_name rfl sc_behind.nd rfl (by first | exact .inl rfl | exact .inr rfl)) (lgs_cons (lg_name rfl sc_behind.nd rfl (by first | exact .inl rfl | exact .inr rfl)) (lgs_cons (lg_name rfl sc_behind.nd rfl (by first | exact .inl rfl | exact .inr rfl)) lgs_nil))))) (fun s H C cl fp => lts_nil) (fun s H C cl fp => (le_bin or_add opd_add (le_bin op_sub opd_sub (le_var (pv 5)) (le_var (pv 6))) (le_var (pv 7)))))))))
theorem sc_ready_of : FnScope ["net", "mark", "deed"] ["net", "mark"] (defScope s_ready_of) := ⟨rfl, rfl, rfl, by decide +kernel, rfl, by decide +kernel, by decide +kernel⟩
theorem ok_ready_of (T : TX P K mg) : FnG P w K mg base (L2.CX P w) 2 T.a_ready_of T.fd_ready_of ["net", "mark"] (spM K mg 2 m_ready_of) :=
  fn_good T.t_ready_of sc_ready_of rfl rfl fun cdv A outer s H E hr =>
    (lss_one (ls_ret (le_lc rfl sc_ready_of.nd (li_rng1 (by rfl) T.n_range (la_cons (le_call1 cr_lenD und_len (by rfl) T.n_len bt_len (le_fld (le_var (pv 0)))) la_nil)) (own := [("deed", 2)]) (blkOk_by rfl) (fun s H C cl fp => (lg_name rfl sc_ready_of.nd rfl (by first | exact .inl rfl | exact .inr rfl))) (fun s H C cl fp => (lts_one (lt_val (le_call (ok_can_do T) (hr.mono (by decide)) (by rfl) T.g_can_do T.t_can_do.kp T.b_can_do takes0 (la_cons (le_var (pv 0)) (la_cons (le_var (pv 1)) (la_cons (le_var (pv 2)) la_nil))) (aLen_cons (aLen_cons (aLen_cons aLen_nil))))))) (fun s H C cl fp => (le_var (pv 2))))))
theorem sc_Life_init : FnScope ["self", "net", "mark"] ["self", "net", "mark"] (defScope s_Life_init) := ⟨rfl, rfl, rfl, by decide +kernel, rfl, by decide +kernel, by decide +kernel⟩
theorem ok_Life_init (T : TX P K mg) : FnG P w K mg base (L2.CX P w) 5 T.a_Life_init T.fd_Life_init ["self", "net", "mark"] (spM K mg 3 m_Life_init) :=
  fn_good T.t_Life_init sc_Life_init rfl rfl fun cdv A outer s H E hr =>
    (lss_cons (ls_expr (le_call (ok_check_mark T) (hr.mono (by decide)) (by rfl) T.g_check_mark T.t_check_mark.kp T.b_check_mark (takes_of rfl rfl rfl rfl) (la_cons (le_var (pv 1)) (la_cons (le_var (pv 2)) la_nil)) (aLen_cons (aLen_cons aLen_nil))))
    (lss_cons (ls_fld (n := "Life") (T.na_Life_present) (le_var (pv 0)) (le_shr (le_tup (la_cons (le_var (pv 1)) (la_cons (le_var (pv 2)) la_nil)))))
    (lss_cons (ls_fld (n := "Life") (T.na_Life_elders) (le_var (pv 0)) (le_lst la_nil))
    (lss_one (ls_fld (n := "Life") (T.na_Life_said) (le_var (pv 0)) (le_lst la_nil))))))
theorem sc_Life_go_on : FnScope ["self", "net", "mark", "word"] ["self", "net", "mark", "word"] (defScope s_Life_go_on) := ⟨rfl, rfl, rfl, by decide +kernel, rfl, by decide +kernel, by decide +kernel⟩
theorem ok_Life_go_on (T : TX P K mg) : FnG P w K mg base (L2.CX P w) 1 T.a_Life_go_on T.fd_Life_go_on ["self", "net", "mark", "word"] (spM K mg 4 m_Life_go_on) :=
  fn_good T.t_Life_go_on sc_Life_go_on rfl rfl fun cdv A outer s H E hr =>
    (lss_cons (ls_appF (pv 0) (exx_fld (pv 0)))
    (lss_cons (ls_appF (pv 0) (exx_var (pv 3)))
    (lss_one (ls_fld (n := "Life") (T.na_Life_present) (le_var (pv 0)) (le_shr (le_tup (la_cons (le_var (pv 1)) (la_cons (le_var (pv 2)) la_nil))))))))
theorem sc_Life_now : FnScope ["self"] ["self"] (defScope s_Life_now) := ⟨rfl, rfl, rfl, by decide +kernel, rfl, by decide +kernel, by decide +kernel⟩
theorem ok_Life_now (T : TX P K mg) : FnG P w K mg base (L2.CX P w) 1 T.a_Life_now T.fd_Life_now ["self"] (spM K mg 1 m_Life_now) :=
  fn_good T.t_Life_now sc_Life_now rfl rfl fun cdv A outer s H E hr =>
    (lss_one (ls_ret (le_fld (le_var (pv 0)))))
theorem sc_Life_do : FnScope ["self", "deed", "net", "mark", "made"] ["self", "deed"] (defScope s_Life_do) := ⟨rfl, rfl, rfl, by decide +kernel, rfl, by decide +kernel, by decide +kernel⟩
theorem ok_Life_do (T : TX P K mg) : FnG P w K mg base (L2.CX P w) 4 T.a_Life_do T.fd_Life_do ["self", "deed"] (spM K mg 2 m_Life_do) :=
  fn_good T.t_Life_do sc_Life_do rfl rfl fun cdv A outer s H E hr =>
    (lss_cons (ls_asg (le_fld (le_var (pv 0))) (lg_tup rfl (lgs_cons (lg_name rfl sc_Life_do.nd rfl (by first | exact .inl rfl | exact .inr rfl)) (lgs_cons (lg_name rfl sc_Life_do.nd rfl (by first | exact .inl rfl | exact .inr rfl)) lgs_nil))))
    (lss_cons (ls_expr (le_call (ok_check_deed T) (hr.mono (by decide)) (by rfl) T.g_check_deed T.t_check_deed.kp T.b_check_deed (takes_of rfl rfl rfl rfl) (la_cons (le_var (pv 2)) (la_cons (le_var (pv 1)) la_nil)) (aLen_cons (aLen_cons aLen_nil))))
    (lss_cons (ls_if (lt_not (lt_val (le_call (ok_can_do T) (hr.mono (by decide)) (by rfl) T.g_can_do T.t_can_do.kp T.b_can_do (takes_of rfl rfl rfl rfl) (la_cons (le_var (pv 2)) (la_cons (le_var (pv 3)) (la_cons (le_var (pv 1)) la_nil))) (aLen_cons (aLen_cons (aLen_cons aLen_nil)))))) (lss_one (ls_raise1 rfl (takes_of rfl rfl rfl rfl) T.x_NotReady x1_NotReady T.xn_NotReady hr (by rfl) T.g_NotReady T.n_super (la_cons (le_var (pv 1)) la_nil)))
    lss_nil)
    (lss_cons (ls_set rfl sc_Life_do.nd rfl (by first | exact .inl rfl | exact .inr rfl) (le_call (ok_behind T) (hr.mono (by decide)) (by rfl) T.g_behind T.t_behind.kp T.b_behind (takes_of rfl rfl rfl rfl) (la_cons (le_var (pv 2)) (la_cons (le_var (pv 3)) (la_cons (le_var (pv 1)) la_nil))) (aLen_cons (aLen_cons (aLen_cons aLen_nil)))))
    (lss_cons (ls_if (lt_cmp op_gt opd_cmp (le_call1 (cr_maxT rfl hr.units) und_maxT (by rfl) T.n_max bt_max (le_bin or_add opd_add (le_tup (la_cons le_int la_nil)) (le_var (pv 4)))) (le_globI (by rfl) T.g_MOST_TOKENS)) (lss_one (ls_raise0 rfl (takes_of rfl rfl rfl rfl) T.x_TooGreat x0_TooGreat hr (by rfl) T.g_TooGreat T.n_super))
    lss_nil)
    (lss_one (ls_expr (le_meth T.i_Life T.me_Life_go_on T.g_Life (ok_Life_go_on T) (hr.mono (by decide)) T.b_Life_go_on (takes_of rfl rfl rfl rfl) (le_var (pv 0)) (la_cons (le_var (pv 2)) (la_cons (le_var (pv 4)) (la_cons (le_tup (la_cons le_str (la_cons (le_var (pv 1)) la_nil))) la_nil))) (aLen_cons (aLen_cons (aLen_cons aLen_nil)))))))))))
theorem sc_Life_put : FnScope ["self", "place", "many", "net", "mark"] ["self", "place", "many"] (defScope s_Life_put) := ⟨rfl, rfl, rfl, by decide +kernel, rfl, by decide +kernel, by decide +kernel⟩
theorem ok_Life_put (T : TX P K mg) : FnG P w K mg base (L2.CX P w) 3 T.a_Life_put T.fd_Life_put ["self", "place", "many"] (spM K mg 3 m_Life_put) :=
  fn_good T.t_Life_put sc_Life_put rfl rfl fun cdv A outer s H E hr =>
    (lss_cons (ls_asg (le_fld (le_var (pv 0))) (lg_tup rfl (lgs_cons (lg_name rfl sc_Life_put.nd rfl (by first | exact .inl rfl | exact .inr rfl)) (lgs_cons (lg_name rfl sc_Life_put.nd rfl (by first | exact .inl rfl | exact .inr rfl)) lgs_nil))))
    (lss_cons (ls_if (PW.pt (lw_or (lt_not (lt_val (le_call (ok_is_within T) (hr.mono (by decide)) (by rfl) T.g_is_within T.t_is_within.kp T.b_is_within (takes_of rfl rfl rfl rfl) (la_cons (le_var (pv 1)) (la_cons le_int (la_cons (le_bin op_sub opd_sub (le_fld (le_var (pv 3))) le_int) la_nil))) (aLen_cons (aLen_cons (aLen_cons aLen_nil)))))) (lw_or1 (lt_not (lt_val (le_call (ok_is_within T) (hr.mono (by decide)) (by rfl) T.g_is_within T.t_is_within.kp T.b_is_within (takes_of rfl rfl rfl rfl) (la_cons (le_var (pv 2)) (la_cons le_int (la_cons (le_globI (by rfl) T.g_MOST_TOKENS) la_nil))) (aLen_cons (aLen_cons (aLen_cons aLen_nil))))))))) (lss_one (ls_raise0 rfl (takes_of rfl rfl rfl rfl) T.x_NoNumber x0_NoNumber hr (by rfl) T.g_NoNumber T.n_super))
    lss_nil)
    (lss_cons (ls_if (lt_cmp op_gt opd_cmp (le_bin or_add opd_add (le_ix (le_var (pv 4)) (le_var (pv 1))) (le_var (pv 2))) (le_globI (by rfl) T.g_MOST_TOKENS)) (lss_one (ls_raise0 rfl (takes_of rfl rfl rfl rfl) T.x_TooGreat x0_TooGreat hr (by rfl) T.g_TooGreat T.n_super))
    lss_nil)
    (lss_one (ls_expr (le_meth T.i_Life T.me_Life_go_on T.g_Life (ok_Life_go_on T) (hr.mono (by decide)) T.b_Life_go_on (takes_of rfl rfl rfl rfl) (le_var (pv 0)) (la_cons (le_var (pv 3)) (la_cons (le_bin or_add opd_add (le_bin or_add opd_add (le_cut (le_var (pv 4)) lo_none (lo_some (le_var (pv 1)))) (le_tup (la_cons (le_bin or_add opd_add (le_ix (le_var (pv 4)) (le_var (pv 1))) (le_var (pv 2))) la_nil))) (le_cut (le_var (pv 4)) (lo_some (le_bin or_add opd_add (le_var (pv 1)) le_int)) lo_none)) (la_cons (le_tup (la_cons le_str (la_cons (le_var (pv 1)) (la_cons (le_var (pv 2)) la_nil)))) la_nil))) (aLen_cons (aLen_cons (aLen_cons aLen_nil)))))))))
theorem sc_Life_take : FnScope ["self", "place", "many", "net", "mark"] ["self", "place", "many"] (defScope s_Life_take) := ⟨rfl, rfl, rfl, by decide +kernel, rfl, by decide +kernel, by decide +kernel⟩
theorem ok_Life_take (T : TX P K mg) : FnG P w K mg base (L2.CX P w) 3 T.a_Life_take T.fd_Life_take ["self", "place", "many"] (spM K mg 3 m_Life_take) :=
  fn_good T.t_Life_take sc_Life_take rfl rfl fun cdv A outer s H E hr =>
    (lss_cons (ls_asg (le_fld (le_var (pv 0))) (lg_tup rfl (lgs_cons (lg_name rfl sc_Life_take.nd rfl (by first | exact .inl rfl | exact .inr rfl)) (lgs_cons (lg_name rfl sc_Life_take.nd rfl (by first | exact .inl rfl | exact .inr rfl)) lgs_nil))))
    (lss_cons (ls_if (PW.pt (lw_or (lt_not (lt_val (le_call (ok_is_within T) (hr.mono (by decide)) (by rfl) T.g_is_within T.t_is_within.kp T.b_is_within (takes_of rfl rfl rfl rfl) (la_cons (le_var (pv 1)) (la_cons le_int (la_cons (le_bin op_sub opd_sub (le_fld (le_var (pv 3))) le_int) la_nil))) (aLen_cons (aLen_cons (aLen_cons aLen_nil)))))) (lw_or1 (lt_not (lt_val (le_call (ok_is_within T) (hr.mono (by decide)) (by rfl) T.g_is_within T.t_is_within.kp T.b_is_within (takes_of rfl rfl rfl rfl) (la_cons (le_var (pv 2)) (la_cons le_int (la_cons (le_globI (by rfl) T.g_MOST_TOKENS) la_nil))) (aLen_cons (aLen_cons (aLen_cons aLen_nil))))))))) (lss_one (ls_raise0 rfl (takes_of rfl rfl rfl rfl) T.x_NoNumber x0_NoNumber hr (by rfl) T.g_NoNumber T.n_super))
    lss_nil)
    (lss_cons (ls_if (lt_cmp op_lt opd_cmp (le_ix (le_var (pv 4)) (le_var (pv 1))) (le_var (pv 2))) (lss_one (ls_raise0 rfl (takes_of rfl rfl rfl rfl) T.x_NoMark x0_NoMark hr (by rfl) T.g_NoMark T.n_super))
    lss_nil)
    (lss_one (ls_expr (le_meth T.i_Life T.me_Life_go_on T.g_Life (ok_Life_go_on T) (hr.mono (by decide)) T.b_Life_go_on (takes_of rfl rfl rfl rfl) (le_var (pv 0)) (la_cons (le_var (pv 3)) (la_cons (le_bin or_add opd_add (le_bin or_add opd_add (le_cut (le_var (pv 4)) lo_none (lo_some (le_var (pv 1)))) (le_tup (la_cons (le_bin op_sub opd_sub (le_ix (le_var (pv 4)) (le_var (pv 1))) (le_var (pv 2))) la_nil))) (le_cut (le_var (pv 4)) (lo_some (le_bin or_add opd_add (le_var (pv 1)) le_int)) lo_none)) (la_cons (le_tup (la_cons le_str (la_cons (le_var (pv 1)) (la_cons (le_var (pv 2)) la_nil)))) la_nil))) (aLen_cons (aLen_cons (aLen_cons aLen_nil)))))))))
theorem sc_Life_ready : FnScope ["self"] ["self"] (defScope s_Life_ready) := ⟨rfl, rfl, rfl, by decide +kernel, rfl, by decide +kernel, by decide +kernel⟩
theorem ok_Life_ready (T : TX P K mg) : FnG P w K mg base (L2.CX P w) 3 T.a_Life_ready T.fd_Life_ready ["self"] (spM K mg 1 m_Life_ready) :=
  fn_good T.t_Life_ready sc_Life_ready rfl rfl fun cdv A outer s H E hr =>
    (lss_one (ls_ret (le_call (ok_ready_of T) (hr.mono (by decide)) (by rfl) T.g_ready_of T.t_ready_of.kp T.b_ready_of (takes_of rfl rfl rfl rfl) (la_cons (le_ix (le_fld (le_var (pv 0))) le_int) (la_cons (le_ix (le_fld (le_var (pv 0))) le_int) la_nil)) (aLen_cons (aLen_cons aLen_nil)))))
theorem sc_Life_tokens : FnScope ["self"] ["self"] (defScope s_Life_tokens) := ⟨rfl, rfl, rfl, by decide +kernel, rfl, by decide +kernel, by decide +kernel⟩
theorem ok_Life_tokens (T : TX P K mg) : FnG P w K mg base (L2.CX P w) 1 T.a_Life_tokens T.fd_Life_tokens ["self"] (spM K mg 1 m_Life_tokens) :=
  fn_good T.t_Life_tokens sc_Life_tokens rfl rfl fun cdv A outer s H E hr =>
    (lss_one (ls_ret (le_call1 (L2.CallR.or (cr_sum rfl) (cr_sumT rfl)) und_sumX (by rfl) T.n_sum bt_sum (le_ix (le_fld (le_var (pv 0))) le_int))))
theorem sc__law_hand : FnScope ["script", "cells", "cell"] ["script"] (defScope s__law_hand) := ⟨rfl, rfl, rfl, by decide +kernel, rfl, by decide +kernel, by decide +kernel⟩
theorem ok__law_hand (T : TX P K mg) : FnG P w K mg base (L2.CX P w) 1 T.a__law_hand T.fd__law_hand ["script"] (spM K mg 1 m__law_hand) :=
  fn_good T.t__law_hand sc__law_hand rfl rfl fun cdv A outer s H E hr =>
    (lss_cons (ls_setLc rfl rfl sc__law_hand.nd rfl rfl (sw_true rfl rfl rfl rfl) (li_seq (le_cut (le_var (pv 0)) lo_none (lo_some le_int))) (own := [("cell", 2)]) (blkOk_by rfl) (fun s H C cl fp => (lg_name rfl sc__law_hand.nd rfl (by first | exact .inl rfl | exact .inr rfl))) (fun s H C cl fp => lts_nil) (fun s H C cl fp => (le_call1 call_abs und_abs (by rfl) T.n_abs bt_abs (le_callT1 call_int1 und_int (by rfl) T.n_int bt_int (le_var (pv 2))))))
    (lss_one (ls_ret (le_lst (la_cons (le_shr (le_var (pv 1))) (la_cons le_int (la_cons le_int (la_cons (le_shr (le_bin or_add opd_add le_int (le_bin or_mul opd_mul le_int (le_call1 cr_lenD und_len (by rfl) T.n_len bt_len (le_var (pv 1)))))) (la_cons le_int la_nil)))))))))
theorem sc__law_draw : FnScope ["hand", "many", "cell", "digit", "number"] ["hand", "many"] (defScope s__law_draw) := ⟨rfl, rfl, rfl, by decide +kernel, rfl, by decide +kernel, by decide +kernel⟩
theorem ok__law_draw (T : TX P K mg) : FnG P w K mg base (L2.CX P w) 1 T.a__law_draw T.fd__law_draw ["hand", "many"] (spM K mg 2 m__law_draw) :=
  fn_good T.t__law_draw sc__law_draw rfl rfl fun cdv A outer s H E hr =>
    (lss_cons (ls_if (PW.pt (lw_and (lt_cmp (op_eqD hr.units) opd_eq (le_ix (le_var (pv 0)) le_int) le_int) (lw_and1 (lt_cmp op_lt opd_cmp (le_ix (le_var (pv 0)) le_int) (le_call1 cr_lenD und_len (by rfl) T.n_len bt_len (le_ix (le_var (pv 0)) le_int)))))) (lss_cons (ls_set rfl sc__law_draw.nd rfl (by first | exact .inl rfl | exact .inr rfl) (le_ix (le_ix (le_var (pv 0)) le_int) (le_ix (le_var (pv 0)) le_int)))
    (lss_cons (ls_asg (le_bin or_add opd_add (le_ix (le_var (pv 0)) le_int) le_int) (lg_sub (le_var (pv 0)) le_int))
    (lss_cons (ls_asg (le_bin op_modN opd_mod (le_callT1 call_int1 und_int (by rfl) T.n_int bt_int (le_bin or_add opd_add (le_bin or_add opd_add (le_bin or_mul opd_mul (le_ix (le_var (pv 0)) le_int) le_int) (le_bin or_mul opd_mul (le_var (pv 2)) le_int)) le_int)) le_int) (lg_sub (le_var (pv 0)) le_int))
    (lss_one (ls_asg (le_if (lt_cmp op_ge opd_cmp (le_var (pv 2)) (le_bin op_pow opd_pow le_int le_int)) (le_var (pv 2)) le_int) (lg_sub (le_var (pv 0)) le_int))))))
    lss_nil)
    (lss_cons (ls_if (lt_cmp op_gt opd_cmp (le_ix (le_var (pv 0)) le_int) le_int) (lss_cons (ls_set rfl sc__law_draw.nd rfl (by first | exact .inl rfl | exact .inr rfl) (le_bin op_modN opd_mod (le_callT1 call_int1 und_int (by rfl) T.n_int bt_int (le_ix (le_var (pv 0)) le_int)) (le_var (pv 1))))
    (lss_cons (ls_asg (le_bin op_fdivN opd_fdiv (le_ix (le_var (pv 0)) le_int) (le_var (pv 1))) (lg_sub (le_var (pv 0)) le_int))
    (lss_one (ls_ret (le_var (pv 3))))))
    lss_nil)
    (lss_cons (ls_asg (le_bin or_add opd_add (le_ix (le_var (pv 0)) le_int) le_int) (lg_sub (le_var (pv 0)) le_int))
    (lss_cons (ls_set rfl sc__law_draw.nd rfl (by first | exact .inl rfl | exact .inr rfl) (le_bin op_modN opd_mod (le_callT1 call_int1 und_int (by rfl) T.n_int bt_int (le_bin or_mul opd_mul (le_callT1 call_int1 und_int (by rfl) T.n_int bt_int (le_bin or_add opd_add (le_ix (le_var (pv 0)) le_int) (le_bin or_mul opd_mul le_int (le_ix (le_var (pv 0)) le_int)))) le_int)) le_int))
    (lss_cons (ls_set rfl sc__law_draw.nd rfl (by first | exact .inl rfl | exact .inr rfl) (le_bin op_modN opd_mod (le_callT1 call_int1 und_int (by rfl) T.n_int bt_int (le_bin or_mul opd_mul (le_var (pv 4)) (le_bin or_add opd_add (le_bin op_fdivN opd_fdiv (le_var (pv 4)) le_int) le_int))) le_int))
    (lss_cons (ls_set rfl sc__law_draw.nd rfl (by first | exact .inl rfl | exact .inr rfl) (le_bin op_modN opd_mod (le_callT1 call_int1 und_int (by rfl) T.n_int bt_int (le_bin or_mul opd_mul (le_var (pv 4)) (le_bin or_add opd_add (le_bin op_fdivN opd_fdiv (le_var (pv 4)) le_int) le_int))) le_int))
    (lss_one (ls_ret (le_bin op_modN opd_mod (le_callT1 call_int1 und_int (by rfl) T.n_int bt_int (le_bin op_fdivN opd_fdiv (le_var (pv 4)) le_int)) (le_var (pv 1)))))))))))
theorem sc__law_some : FnScope ["hand", "things"] ["hand", "things"] (defScope s__law_some) := ⟨rfl, rfl, rfl, by decide +kernel, rfl, by decide +kernel, by decide +kernel⟩
theorem ok__law_some (T : TX P K mg) : FnG P w K mg base (L2.CX P w) 2 T.a__law_some T.fd__law_some ["hand", "things"] (spM K mg 2 m__law_some) :=
  fn_good T.t__law_some sc__law_some rfl rfl fun cdv A outer s H E hr =>
    (lss_one (ls_ret (le_ix (le_var (pv 1)) (le_call (ok__law_draw T) (hr.mono (by decide)) (by rfl) T.g__law_draw T.t__law_draw.kp T.b__law_draw (takes_of rfl rfl rfl rfl) (la_cons (le_var (pv 0)) (la_cons (le_call1 cr_lenD und_len (by rfl) T.n_len bt_len (le_var (pv 1))) la_nil)) (aLen_cons (aLen_cons aLen_nil))))))
theorem sc__law_is_int : FnScope ["thing", "least_now", "most"] ["thing", "least_now", "most"] (defScope s__law_is_int) := ⟨rfl, rfl, rfl, by decide +kernel, rfl, by decide +kernel, by decide +kernel⟩
theorem ok__law_is_int (T : TX P K mg) : FnG P w K mg base (L2.CX P w) 1 T.a__law_is_int T.fd__law_is_int ["thing", "least_now", "most"] (spM K mg 3 m__law_is_int) :=
  fn_good T.t__law_is_int sc__law_is_int rfl rfl fun cdv A outer s H E hr =>
    (lss_cons (ls_if (lt_not (lt_val (le_isi (x := ("" : Str)) T.k_int (.ty "int") (pe_bltn (by rfl) T.n_int bt_int rfl) (le_var (pv 0)) (by rfl) T.n_isinstance))) (lss_one (ls_ret le_bl))
    lss_nil)
    (lss_cons (ls_if (lt_val (le_isi (x := ("" : Str)) T.k_bool (.ty "bool") (pe_bltn (by rfl) T.n_bool bt_bool rfl) (le_var (pv 0)) (by rfl) T.n_isinstance)) (lss_one (ls_ret le_bl))
    lss_nil)
    (lss_one (ls_ret (le_chain op_le opd_cmp op_le opd_cmp (le_var (pv 1)) (le_var (pv 0)) (le_var (pv 2)))))))
theorem sc__law_net : FnScope ["hand", "most", "places", "rare", "deeds", "wide", "turn", "rows_now", "side", "place"] ["hand", "most"] (defScope s__law_net) := ⟨rfl, rfl, rfl, by decide +kernel, rfl, by decide +kernel, by decide +kernel⟩
theorem ok__law_net (T : TX P K mg) : FnG P w K mg base (L2.CX P w) 3 T.a__law_net T.fd__law_net ["hand", "most"] (spM K mg 2 m__law_net) :=
  fn_good T.t__law_net sc__law_net rfl rfl fun cdv A outer s H E hr =>
    (lss_cons (by first | exact ls_par3 rfl rfl rfl rfl sc__law_net.nd rfl rfl rfl (by decide) (by decide) (by decide) rfl rfl rfl (la_cons (le_bin or_add opd_add le_int (le_call (ok__law_draw T) (hr.mono (by decide)) (by rfl) T.g__law_draw T.t__law_draw.kp T.b__law_draw (takes_of rfl rfl rfl rfl) (la_cons (le_var (pv 0)) (la_cons le_int la_nil)) (aLen_cons (aLen_cons aLen_nil)))) (la_cons (le_bin or_add opd_add le_int (le_call (ok__law_draw T) (hr.mono (by decide)) (by rfl) T.g__law_draw T.t__law_draw.kp T.b__law_draw (takes_of rfl rfl rfl rfl) (la_cons (le_var (pv 0)) (la_cons le_int la_nil)) (aLen_cons (aLen_cons aLen_nil)))) (la_cons (le_lst la_nil) la_nil))) rfl | exact ls_parT rfl (la_cons (le_bin or_add opd_add le_int (le_call (ok__law_draw T) (hr.mono (by decide)) (by rfl) T.g__law_draw T.t__law_draw.kp T.b__law_draw (takes_of rfl rfl rfl rfl) (la_cons (le_var (pv 0)) (la_cons le_int la_nil)) (aLen_cons (aLen_cons aLen_nil)))) (la_cons (le_bin or_add opd_add le_int (le_call (ok__law_draw T) (hr.mono (by decide)) (by rfl) T.g__law_draw T.t__law_draw.kp T.b__law_draw (takes_of rfl rfl rfl rfl) (la_cons (le_var (pv 0)) (la_cons le_int la_nil)) (aLen_cons (aLen_cons aLen_nil)))) (la_cons (le_lst la_nil) la_nil))) (lgs_cons (lg_name rfl sc__law_net.nd rfl (by first | exact .inl rfl | exact .inr rfl)) (lgs_cons (lg_name rfl sc__law_net.nd rfl (by first | exact .inl rfl | exact .inr rfl)) (lgs_cons (lg_name rfl sc__law_net.nd rfl (by first | exact .inl rfl | exact .inr rfl)) lgs_nil))) rfl (aLen_cons (aLen_cons (aLen_cons aLen_nil))))
    (lss_cons (ls_set rfl sc__law_net.nd rfl (by first | exact .inl rfl | exact .inr rfl) (le_call (ok__law_some T) (hr.mono (by decide)) (by rfl) T.g__law_some T.t__law_some.kp T.b__law_some (takes_of rfl rfl rfl rfl) (la_cons (le_var (pv 0)) (la_cons (le_lst (la_cons le_int (la_cons le_int (la_cons le_int la_nil)))) la_nil)) (aLen_cons (aLen_cons aLen_nil))))
    (lss_cons (ls_for (passes_of rfl) rfl (li_rng1 (by rfl) T.n_range (la_cons (le_bin or_add opd_add le_int (le_call (ok__law_draw T) (hr.mono (by decide)) (by rfl) T.g__law_draw T.t__law_draw.kp T.b__law_draw (takes_of rfl rfl rfl rfl) (la_cons (le_var (pv 0)) (la_cons (le_var (pv 1)) la_nil)) (aLen_cons (aLen_cons aLen_nil)))) la_nil)) (lg_name rfl sc__law_net.nd rfl (by first | exact .inl rfl | exact .inr rfl))
    (lss_cons (ls_set rfl sc__law_net.nd rfl (by first | exact .inl rfl | exact .inr rfl) (le_lst la_nil))
    (lss_cons (ls_for (passes_of rfl) rfl (li_seq (le_tup (la_cons le_int (la_cons le_int la_nil)))) (lg_name rfl sc__law_net.nd rfl (by first | exact .inl rfl | exact .inr rfl))
    (lss_one (ls_expr (le_app (x := ("" : Str)) (le_var (pv 7)) (la_cons (le_shr (le_callT1 call_tuple_of und_tuple (by rfl) T.n_tuple bt_tuple (le_lc rfl sc__law_net.nd (li_rng1 (by rfl) T.n_range (la_cons (le_var (pv 2)) la_nil)) (own := [("place", 9)]) (blkOk_by rfl) (fun s H C cl fp => (lg_name rfl sc__law_net.nd rfl (by first | exact .inl rfl | exact .inr rfl))) (fun s H C cl fp => lts_nil) (fun s H C cl fp => (le_if (lt_cmp (op_eqD hr.units) opd_eq (le_call (ok__law_draw T) (hr.mono (by decide)) (by rfl) T.g__law_draw T.t__law_draw.kp T.b__law_draw takes0 (la_cons (le_var (pv 0)) (la_cons (le_var (pv 3)) la_nil)) (aLen_cons (aLen_cons aLen_nil))) le_int) (le_bin or_add opd_add le_int (le_call (ok__law_draw T) (hr.mono (by decide)) (by rfl) T.g__law_draw T.t__law_draw.kp T.b__law_draw takes0 (la_cons (le_var (pv 0)) (la_cons (le_bin op_sub opd_sub (le_var (pv 5)) le_int) la_nil)) (aLen_cons (aLen_cons aLen_nil)))) le_int))))) la_nil)))))
    (lss_one (ls_expr (le_app (x := ("" : Str)) (le_var (pv 4)) (la_cons (le_shr (le_tup (la_cons (le_ix (le_var (pv 7)) le_int) (la_cons (le_ix (le_var (pv 7)) le_int) la_nil)))) la_nil)))))))
    (lss_one (ls_ret (le_tup (la_cons (le_var (pv 2)) (la_cons (le_callT1 call_tuple_of und_tuple (by rfl) T.n_tuple bt_tuple (le_var (pv 4))) la_nil))))))))
theorem sc__law_ready : FnScope ["deeds", "mark", "at", "deed", "has", "need"] ["deeds", "mark"] (defScope s__law_ready) := ⟨rfl, rfl, rfl, by decide +kernel, rfl, by decide +kernel, by decide +kernel⟩
theorem ok__law_ready (T : TX P K mg) : FnG P w K mg base (L2.CX P w) 1 T.a__law_ready T.fd__law_ready ["deeds", "mark"] (spM K mg 2 m__law_ready) :=
  fn_good T.t__law_ready sc__law_ready rfl rfl fun cdv A outer s H E hr =>
    (lss_one (ls_ret (le_lc rfl sc__law_ready.nd (li_enum (by rfl) T.n_enumerate (la_cons (le_shr (le_var (pv 0))) la_nil)) (own := [("at", 2), ("deed", 3)]) (blkOk_by rfl) (fun s H C cl fp => (lg_tup rfl (lgs_cons (lg_name rfl sc__law_ready.nd rfl (by first | exact .inl rfl | exact .inr rfl)) (lgs_cons (lg_name rfl sc__law_ready.nd rfl (by first | exact .inl rfl | exact .inr rfl)) lgs_nil)))) (fun s H C cl fp => (lts_one (lt_val (le_call1 (cr_all rfl) und_all (by rfl) T.n_all bt_all (le_lc rfl sc__law_ready.nd (li_zip2 (by rfl) T.n_zip (la_cons (le_shr (le_var (pv 1))) (la_cons (le_shr (le_ix (le_var (pv 3)) le_int)) la_nil))) (own := [("has", 4), ("need", 5)]) (blkOk_by rfl) (fun s H C cl fp => (lg_tup rfl (lgs_cons (lg_name rfl sc__law_ready.nd rfl (by first | exact .inl rfl | exact .inr rfl)) (lgs_cons (lg_name rfl sc__law_ready.nd rfl (by first | exact .inl rfl | exact .inr rfl)) lgs_nil)))) (fun s H C cl fp => lts_nil) (fun s H C cl fp => (le_cmp op_ge opd_cmp (le_var (pv 4)) (le_var (pv 5))))))))) (fun s H C cl fp => (le_var (pv 2))))))
theorem sc__law_is_deed : FnScope ["places", "deed", "row", "one"] ["places", "deed"] (defScope s__law_is_deed) := ⟨rfl, rfl, rfl, by decide +kernel, rfl, by decide +kernel, by decide +kernel⟩
theorem ok__law_is_deed (T : TX P K mg) : FnG P w K mg base (L2.CX P w) 2 T.a__law_is_deed T.fd__law_is_deed ["places", "deed"] (spM K mg 2 m__law_is_deed) :=
  fn_good T.t__law_is_deed sc__law_is_deed rfl rfl fun cdv A outer s H E hr =>
    (lss_cons (ls_for (passes_of rfl) rfl (li_seq (le_var (pv 1))) (lg_name rfl sc__law_is_deed.nd rfl (by first | exact .inl rfl | exact .inr rfl))
    (lss_cons (ls_if (lt_not (lt_val (le_isi (x := ("" : Str)) T.k_tuple (.ty "tuple") (pe_bltn (by rfl) T.n_tuple bt_tuple rfl) (le_var (pv 2)) (by rfl) T.n_isinstance))) (lss_one (ls_ret le_bl))
    lss_nil)
    (lss_cons (ls_if (lt_cmp (op_neD hr.units) opd_ne (le_call1 cr_lenD und_len (by rfl) T.n_len bt_len (le_var (pv 2))) (le_var (pv 0))) (lss_one (ls_ret le_bl))
    lss_nil)
    (lss_one (ls_if (lt_not (lt_val (le_call1 (cr_all rfl) und_all (by rfl) T.n_all bt_all (le_lc rfl sc__law_is_deed.nd (li_seq (le_var (pv 2))) (own := [("one", 3)]) (blkOk_by rfl) (fun s H C cl fp => (lg_name rfl sc__law_is_deed.nd rfl (by first | exact .inl rfl | exact .inr rfl))) (fun s H C cl fp => lts_nil) (fun s H C cl fp => (le_call (ok__law_is_int T) (hr.mono (by decide)) (by rfl) T.g__law_is_int T.t__law_is_int.kp T.b__law_is_int takes0 (la_cons (le_var (pv 3)) (la_cons le_int (la_cons le_int la_nil))) (aLen_cons (aLen_cons (aLen_cons aLen_nil))))))))) (lss_one (ls_ret le_bl))
    lss_nil)))))
    (lss_one (ls_ret le_bl)))
theorem sc__law_due : FnScope ["state", "act", "places", "deeds", "mark", "less", "more", "there", "much", "has", "a", "b"] ["state", "act"] (defScope s__law_due) := ⟨rfl, rfl, rfl, by decide +kernel, rfl, by decide +kernel, by decide +kernel⟩
theorem ok__law_due (T : TX P K mg) : FnG P w K mg base (L2.CX P w) 3 T.a__law_due T.fd__law_due ["state", "act"] (spM K mg 2 m__law_due) :=
  fn_good T.t__law_due sc__law_due rfl rfl fun cdv A outer s H E hr =>
    (lss_cons (ls_asg (le_var (pv 0)) (lg_tup rfl (lgs_cons (lg_name rfl sc__law_due.nd rfl (by first | exact .inl rfl | exact .inr rfl)) (lgs_cons (lg_name rfl sc__law_due.nd rfl (by first | exact .inl rfl | exact .inr rfl)) (lgs_cons (lg_name rfl sc__law_due.nd rfl (by first | exact .inl rfl | exact .inr rfl)) lgs_nil)))))
    (lss_cons (ls_if (PW.pt (lw_and (lt_cmp or_in (opd_inU false) (le_ix (le_var (pv 1)) le_int) (le_tup (la_cons le_str (la_cons le_str la_nil)))) (lw_and1 (lt_not (lt_val (le_call (ok__law_is_int T) (hr.mono (by decide)) (by rfl) T.g__law_is_int T.t__law_is_int.kp T.b__law_is_int (takes_of rfl rfl rfl rfl) (la_cons (le_ix (le_var (pv 1)) le_int) (la_cons le_int (la_cons (le_bin op_sub opd_sub (le_call1 cr_lenD und_len (by rfl) T.n_len bt_len (le_var (pv 3))) le_int) la_nil))) (aLen_cons (aLen_cons (aLen_cons aLen_nil))))))))) (lss_one (ls_ret le_str))
    lss_nil)
    (lss_cons (ls_if (lt_cmp (op_eqD hr.units) opd_eq (le_ix (le_var (pv 1)) le_int) le_str) (lss_cons (ls_if (lt_cmp or_nin (opd_inU true) (le_ix (le_var (pv 1)) le_int) (le_call (ok__law_ready T) (hr.mono (by decide)) (by rfl) T.g__law_ready T.t__law_ready.kp T.b__law_ready (takes_of rfl rfl rfl rfl) (la_cons (le_var (pv 3)) (la_cons (le_var (pv 4)) la_nil)) (aLen_cons (aLen_cons aLen_nil)))) (lss_one (ls_ret (le_tup (la_cons le_str (la_cons (le_ix (le_var (pv 1)) le_int) la_nil)))))
    lss_nil)
    (lss_cons (ls_asg (le_ix (le_var (pv 3)) (le_ix (le_var (pv 1)) le_int)) (lg_tup rfl (lgs_cons (lg_name rfl sc__law_due.nd rfl (by first | exact .inl rfl | exact .inr rfl)) (lgs_cons (lg_name rfl sc__law_due.nd rfl (by first | exact .inl rfl | exact .inr rfl)) lgs_nil))))
    (lss_cons (ls_set rfl sc__law_due.nd rfl (by first | exact .inl rfl | exact .inr rfl) (le_callT1 call_tuple_of und_tuple (by rfl) T.n_tuple bt_tuple (le_lc rfl sc__law_due.nd (li_zip3 (by rfl) T.n_zip (la_cons (le_shr (le_var (pv 4))) (la_cons (le_shr (le_var (pv 5))) (la_cons (le_shr (le_var (pv 6))) la_nil)))) (own := [("has", 9), ("a", 10), ("b", 11)]) (blkOk_by rfl) (fun s H C cl fp => (lg_tup rfl (lgs_cons (lg_name rfl sc__law_due.nd rfl (by first | exact .inl rfl | exact .inr rfl)) (lgs_cons (lg_name rfl sc__law_due.nd rfl (by first | exact .inl rfl | exact .inr rfl)) (lgs_cons (lg_name rfl sc__law_due.nd rfl (by first | exact .inl rfl | exact .inr rfl)) lgs_nil))))) (fun s H C cl fp => lts_nil) (fun s H C cl fp => (le_bin or_add opd_add (le_bin op_sub opd_sub (le_var (pv 9)) (le_var (pv 10))) (le_var (pv 11)))))))
    (lss_one (ls_ret (le_if (lt_cmp op_le opd_cmp (le_call1 (cr_maxT rfl hr.units) und_maxT (by rfl) T.n_max bt_max (le_var (pv 7))) (le_bin op_pow opd_pow le_int le_int)) (le_tup (la_cons le_str (la_cons (le_tup (la_cons (le_var (pv 2)) (la_cons (le_var (pv 3)) (la_cons (le_var (pv 7)) la_nil)))) la_nil))) le_str))))))
    lss_nil)
    (lss_cons (ls_if (lt_cmp (op_eqD hr.units) opd_eq (le_ix (le_var (pv 1)) le_int) le_str) (lss_one (ls_ret (le_tup (la_cons le_str (la_cons (le_tup (la_cons (le_var (pv 2)) (la_cons (le_bin or_add opd_add (le_cut (le_var (pv 3)) lo_none (lo_some (le_ix (le_var (pv 1)) le_int))) (le_cut (le_var (pv 3)) (lo_some (le_bin or_add opd_add (le_ix (le_var (pv 1)) le_int) le_int)) lo_none)) (la_cons (le_var (pv 4)) la_nil)))) la_nil)))))
    lss_nil)
    (lss_cons (ls_if (lt_cmp (op_eqD hr.units) opd_eq (le_ix (le_var (pv 1)) le_int) le_str) (lss_cons (ls_if (lt_not (lt_val (le_call (ok__law_is_deed T) (hr.mono (by decide)) (by rfl) T.g__law_is_deed T.t__law_is_deed.kp T.b__law_is_deed (takes_of rfl rfl rfl rfl) (la_cons (le_var (pv 2)) (la_cons (le_cut (le_var (pv 1)) (lo_some le_int) lo_none) la_nil)) (aLen_cons (aLen_cons aLen_nil))))) (lss_one (ls_ret le_str))
    lss_nil)
    (lss_one (ls_ret (le_if (lt_cmp op_lt opd_cmp (le_call1 cr_lenD und_len (by rfl) T.n_len bt_len (le_var (pv 3))) le_int) (le_tup (la_cons le_str (la_cons (le_tup (la_cons (le_var (pv 2)) (la_cons (le_bin or_add opd_add (le_var (pv 3)) (le_tup (la_cons (le_cut (le_var (pv 1)) (lo_some le_int) lo_none) la_nil))) (la_cons (le_var (pv 4)) la_nil)))) la_nil))) le_str))))
    lss_nil)
    (lss_cons (ls_if (lt_not (lt_val (le_call (ok__law_is_int T) (hr.mono (by decide)) (by rfl) T.g__law_is_int T.t__law_is_int.kp T.b__law_is_int (takes_of rfl rfl rfl rfl) (la_cons (le_ix (le_var (pv 1)) le_int) (la_cons le_int (la_cons (le_bin op_sub opd_sub (le_var (pv 2)) le_int) la_nil))) (aLen_cons (aLen_cons (aLen_cons aLen_nil)))))) (lss_one (ls_ret le_str))
    lss_nil)
    (lss_cons (ls_if (lt_not (lt_val (le_call (ok__law_is_int T) (hr.mono (by decide)) (by rfl) T.g__law_is_int T.t__law_is_int.kp T.b__law_is_int (takes_of rfl rfl rfl rfl) (la_cons (le_ix (le_var (pv 1)) le_int) (la_cons le_int (la_cons (le_bin op_pow opd_pow le_int le_int) la_nil))) (aLen_cons (aLen_cons (aLen_cons aLen_nil)))))) (lss_one (ls_ret le_str))
    lss_nil)
    (lss_cons (ls_set rfl sc__law_due.nd rfl (by first | exact .inl rfl | exact .inr rfl) (le_bin or_add opd_add (le_ix (le_var (pv 4)) (le_ix (le_var (pv 1)) le_int)) (le_if (lt_cmp (op_eqD hr.units) opd_eq (le_ix (le_var (pv 1)) le_int) le_str) (le_ix (le_var (pv 1)) le_int) (le_bin op_sub opd_sub le_int (le_ix (le_var (pv 1)) le_int)))))
    (lss_cons (ls_if (lt_cmp op_lt opd_cmp (le_var (pv 8)) le_int) (lss_one (ls_ret le_str))
    lss_nil)
    (lss_one (ls_ret (le_if (lt_cmp op_le opd_cmp (le_var (pv 8)) (le_bin op_pow opd_pow le_int le_int)) (le_tup (la_cons le_str (la_cons (le_tup (la_cons (le_var (pv 2)) (la_cons (le_var (pv 3)) (la_cons (le_bin or_add opd_add (le_bin or_add opd_add (le_cut (le_var (pv 4)) lo_none (lo_some (le_ix (le_var (pv 1)) le_int))) (le_tup (la_cons (le_var (pv 8)) la_nil))) (le_cut (le_var (pv 4)) (lo_some (le_bin or_add opd_add (le_ix (le_var (pv 1)) le_int) le_int)) lo_none)) la_nil)))) la_nil))) le_str))))))))))))
theorem sc__law_act : FnScope ["hand", "state", "places", "deeds", "word", "rows_now", "bad", "place", "side"] ["hand", "state"] (defScope s__law_act) := ⟨rfl, rfl, rfl, by decide +kernel, rfl, by decide +kernel, by decide +kernel⟩
theorem ok__law_act (T : TX P K mg) : FnG P w K mg base (L2.CX P w) 3 T.a__law_act T.fd__law_act ["hand", "state"] (spM K mg 2 m__law_act) :=
  fn_good T.t__law_act sc__law_act rfl rfl fun cdv A outer s H E hr =>
    (lss_cons (by first | exact ls_par2 rfl rfl rfl sc__law_act.nd rfl rfl (by decide) rfl rfl (la_cons (le_ix (le_var (pv 1)) le_int) (la_cons (le_ix (le_var (pv 1)) le_int) la_nil)) rfl | exact ls_parT rfl (la_cons (le_ix (le_var (pv 1)) le_int) (la_cons (le_ix (le_var (pv 1)) le_int) la_nil)) (lgs_cons (lg_name rfl sc__law_act.nd rfl (by first | exact .inl rfl | exact .inr rfl)) (lgs_cons (lg_name rfl sc__law_act.nd rfl (by first | exact .inl rfl | exact .inr rfl)) lgs_nil)) rfl (aLen_cons (aLen_cons aLen_nil)))
    (lss_cons (ls_set rfl sc__law_act.nd rfl (by first | exact .inl rfl | exact .inr rfl) (le_call (ok__law_some T) (hr.mono (by decide)) (by rfl) T.g__law_some T.t__law_some.kp T.b__law_some (takes_of rfl rfl rfl rfl) (la_cons (le_var (pv 0)) (la_cons (le_lst (la_cons le_str (la_cons le_str (la_cons le_str (la_cons le_str (la_cons le_str (la_cons le_str (la_cons le_str (la_cons le_str la_nil))))))))) la_nil)) (aLen_cons (aLen_cons aLen_nil))))
    (lss_cons (ls_if (lt_cmp or_in (opd_inU false) (le_var (pv 4)) (le_tup (la_cons le_str (la_cons le_str la_nil)))) (lss_one (ls_ret (le_tup (la_cons (le_var (pv 4)) (la_cons (le_call (ok__law_some T) (hr.mono (by decide)) (by rfl) T.g__law_some T.t__law_some.kp T.b__law_some (takes_of rfl rfl rfl rfl) (la_cons (le_var (pv 0)) (la_cons (le_lst (la_cons (le_shr (le_call (ok__law_draw T) (hr.mono (by decide)) (by rfl) T.g__law_draw T.t__law_draw.kp T.b__law_draw (takes_of rfl rfl rfl rfl) (la_cons (le_var (pv 0)) (la_cons (le_bin or_add opd_add (le_call1 cr_lenD und_len (by rfl) T.n_len bt_len (le_var (pv 3))) le_int) la_nil)) (aLen_cons (aLen_cons aLen_nil)))) (la_cons (le_shr (le_call (ok__law_draw T) (hr.mono (by decide)) (by rfl) T.g__law_draw T.t__law_draw.kp T.b__law_draw (takes_of rfl rfl rfl rfl) (la_cons (le_var (pv 0)) (la_cons (le_bin or_add opd_add (le_call1 cr_lenD und_len (by rfl) T.n_len bt_len (le_var (pv 3))) le_int) la_nil)) (aLen_cons (aLen_cons aLen_nil)))) (la_cons (le_shr (le_un un_neg und_neg le_int)) (la_cons le_non (la_cons le_bl la_nil)))))) la_nil)) (aLen_cons (aLen_cons aLen_nil))) la_nil)))))
    lss_nil)
    (lss_cons (ls_if (lt_cmp (op_eqD hr.units) opd_eq (le_var (pv 4)) le_str) (lss_cons (ls_setLc rfl rfl sc__law_act.nd rfl rfl (sw_true rfl rfl rfl rfl) (li_seq (le_tup (la_cons le_int (la_cons le_int la_nil)))) (own := [("side", 8)]) (blkOk_by rfl) (fun s H C cl fp => (lg_name rfl sc__law_act.nd rfl (by first | exact .inl rfl | exact .inr rfl))) (fun s H C cl fp => lts_nil) (fun s H C cl fp => (le_callT1 call_tuple_of und_tuple (by rfl) T.n_tuple bt_tuple (le_lc rfl sc__law_act.nd (li_rng1 (by rfl) T.n_range (la_cons (le_var (pv 2)) la_nil)) (own := [("place", 7)]) (blkOk_by rfl) (fun s H C cl fp => (lg_name rfl sc__law_act.nd rfl (by first | exact .inl rfl | exact .inr rfl))) (fun s H C cl fp => lts_nil) (fun s H C cl fp => (le_call (ok__law_draw T) (hr.mono (by decide)) (by rfl) T.g__law_draw T.t__law_draw.kp T.b__law_draw takes0 (la_cons (le_var (pv 0)) (la_cons le_int la_nil)) (aLen_cons (aLen_cons aLen_nil))))))))
    (lss_cons (ls_set rfl sc__law_act.nd rfl (by first | exact .inl rfl | exact .inr rfl) (le_call (ok__law_some T) (hr.mono (by decide)) (by rfl) T.g__law_some T.t__law_some.kp T.b__law_some (takes_of rfl rfl rfl rfl) (la_cons (le_var (pv 0)) (la_cons (le_lst (la_cons le_non (la_cons (le_shr (le_bin or_mul opd_mul (le_tup (la_cons le_int la_nil)) (le_var (pv 2)))) (la_cons (le_shr (le_bin or_mul opd_mul (le_tup (la_cons le_int la_nil)) (le_bin or_add opd_add (le_var (pv 2)) le_int))) (la_cons (le_shr (le_bin or_mul opd_mul (le_lst (la_cons le_int la_nil)) (le_var (pv 2)))) (la_cons (le_shr (le_bin or_mul opd_mul (le_tup (la_cons (le_un un_neg und_neg le_int) la_nil)) (le_var (pv 2)))) la_nil)))))) la_nil)) (aLen_cons (aLen_cons aLen_nil))))
    (lss_one (ls_ret (le_tup (la_cons (le_var (pv 4)) (la_cons (le_ix (le_var (pv 5)) le_int) (la_cons (le_if (lt_cmp op_gt opd_cmp (le_call (ok__law_draw T) (hr.mono (by decide)) (by rfl) T.g__law_draw T.t__law_draw.kp T.b__law_draw (takes_of rfl rfl rfl rfl) (la_cons (le_var (pv 0)) (la_cons le_int la_nil)) (aLen_cons (aLen_cons aLen_nil))) le_int) (le_ix (le_var (pv 5)) le_int) (le_var (pv 6))) la_nil))))))))
    lss_nil)
    (lss_cons (ls_set rfl sc__law_act.nd rfl (by first | exact .inl rfl | exact .inr rfl) (le_call (ok__law_some T) (hr.mono (by decide)) (by rfl) T.g__law_some T.t__law_some.kp T.b__law_some (takes_of rfl rfl rfl rfl) (la_cons (le_var (pv 0)) (la_cons (le_lst (la_cons (le_shr (le_call (ok__law_draw T) (hr.mono (by decide)) (by rfl) T.g__law_draw T.t__law_draw.kp T.b__law_draw (takes_of rfl rfl rfl rfl) (la_cons (le_var (pv 0)) (la_cons (le_bin or_add opd_add (le_var (pv 2)) le_int) la_nil)) (aLen_cons (aLen_cons aLen_nil)))) (la_cons (le_shr (le_call (ok__law_draw T) (hr.mono (by decide)) (by rfl) T.g__law_draw T.t__law_draw.kp T.b__law_draw (takes_of rfl rfl rfl rfl) (la_cons (le_var (pv 0)) (la_cons (le_var (pv 2)) la_nil)) (aLen_cons (aLen_cons aLen_nil)))) (la_cons (le_shr (le_un un_neg und_neg le_int)) (la_cons le_non (la_cons le_bl la_nil)))))) la_nil)) (aLen_cons (aLen_cons aLen_nil))))
    (lss_one (ls_ret (le_tup (la_cons (le_var (pv 4)) (la_cons (le_var (pv 7)) (la_cons (le_call (ok__law_some T) (hr.mono (by decide)) (by rfl) T.g__law_some T.t__law_some.kp T.b__law_some (takes_of rfl rfl rfl rfl) (la_cons (le_var (pv 0)) (la_cons (le_lst (la_cons le_int (la_cons le_int (la_cons le_int (la_cons (le_shr (le_bin or_add opd_add le_int (le_call (ok__law_draw T) (hr.mono (by decide)) (by rfl) T.g__law_draw T.t__law_draw.kp T.b__law_draw (takes_of rfl rfl rfl rfl) (la_cons (le_var (pv 0)) (la_cons le_int la_nil)) (aLen_cons (aLen_cons aLen_nil))))) (la_cons (le_shr (le_un un_neg und_neg le_int)) (la_cons le_non (la_cons le_bl (la_cons (le_shr (le_bin op_pow opd_pow le_int le_int)) la_nil))))))))) la_nil)) (aLen_cons (aLen_cons aLen_nil))) la_nil)))))))))))
theorem sc__law_is_like : FnScope ["life", "state", "net", "mark"] ["life", "state"] (defScope s__law_is_like) := ⟨rfl, rfl, rfl, by decide +kernel, rfl, by decide +kernel, by decide +kernel⟩
theorem ok__law_is_like (T : TX P K mg) : FnG P w K mg base (L2.CX P w) 2 T.a__law_is_like T.fd__law_is_like ["life", "state"] (spM K mg 2 m__law_is_like) :=
  fn_good T.t__law_is_like sc__law_is_like rfl rfl fun cdv A outer s H E hr =>
    (lss_cons (ls_asg (le_meth0 T.i_Life T.me_Life_now T.g_Life (ok_Life_now T) (hr.mono (by decide)) T.b_Life_now (takes_of rfl rfl rfl rfl) (le_var (pv 0))) (lg_tup rfl (lgs_cons (lg_name rfl sc__law_is_like.nd rfl (by first | exact .inl rfl | exact .inr rfl)) (lgs_cons (lg_name rfl sc__law_is_like.nd rfl (by first | exact .inl rfl | exact .inr rfl)) lgs_nil))))
    (lss_one (ls_ret (le_cmp (op_eqD hr.units) opd_eq (le_call1 (call_reprD hr) und_repr (by rfl) T.n_repr bt_repr (le_tup (la_cons (le_fld (le_var (pv 2))) (la_cons (le_fld (le_var (pv 2))) (la_cons (le_var (pv 3)) la_nil))))) (le_call1 (call_reprD hr) und_repr (by rfl) T.n_repr bt_repr (le_var (pv 1)))))))
theorem sc_Net_init : FnScope ["self", "places", "deeds", "number", "deed", "part"] ["self", "places", "deeds"] (defScope s_Net_init) := ⟨rfl, rfl, rfl, by decide +kernel, rfl, by decide +kernel, by decide +kernel⟩
theorem ok_Net_init (T : TX P K mg) : FnG P w K mg base (L2.CX P w) 4 T.a_Net_init T.fd_Net_init ["self", "places", "deeds"] (spM K mg 3 m_Net_init) :=
  fn_good T.t_Net_init sc_Net_init rfl rfl fun cdv A outer s H E hr =>
    (lss_cons (ls_if (lt_not (lt_val (le_call (ok_is_within T) (hr.mono (by decide)) (by rfl) T.g_is_within T.t_is_within.kp T.b_is_within (takes_of rfl rfl rfl rfl) (la_cons (le_var (pv 1)) (la_cons le_int (la_cons (le_globI (by rfl) T.g_MOST_PLACES) la_nil))) (aLen_cons (aLen_cons (aLen_cons aLen_nil)))))) (lss_one (ls_raise1 rfl (takes_of rfl rfl rfl rfl) T.x_BadNet x1_BadNet T.xn_BadNet hr (by rfl) T.g_BadNet T.n_super (la_cons le_str la_nil)))
    lss_nil)
    (lss_cons (ls_if (lt_not (lt_val (le_call (ok_is_tuple T) (hr.mono (by decide)) (by rfl) T.g_is_tuple T.t_is_tuple.kp T.b_is_tuple (takes_of rfl rfl rfl rfl) (la_cons (le_var (pv 2)) (la_cons le_int (la_cons (le_globI (by rfl) T.g_MOST_DEEDS) la_nil))) (aLen_cons (aLen_cons (aLen_cons aLen_nil)))))) (lss_one (ls_raise1 rfl (takes_of rfl rfl rfl rfl) T.x_BadNet x1_BadNet T.xn_BadNet hr (by rfl) T.g_BadNet T.n_super (la_cons le_str la_nil)))
    lss_nil)
    (lss_cons (ls_for (passes_of rfl) rfl (li_enum (by rfl) T.n_enumerate (la_cons (le_shr (le_var (pv 2))) la_nil)) (lg_tup rfl (lgs_cons (lg_name rfl sc_Net_init.nd rfl (by first | exact .inl rfl | exact .inr rfl)) (lgs_cons (lg_name rfl sc_Net_init.nd rfl (by first | exact .inl rfl | exact .inr rfl)) lgs_nil)))
    (lss_one (ls_if (PW.pt (lw_or (lt_not (lt_val (le_call (ok_is_tuple T) (hr.mono (by decide)) (by rfl) T.g_is_tuple T.t_is_tuple.kp T.b_is_tuple (takes_of rfl rfl rfl rfl) (la_cons (le_var (pv 4)) (la_cons le_int (la_cons le_int la_nil))) (aLen_cons (aLen_cons (aLen_cons aLen_nil)))))) (lw_or1 (lt_not (lt_val (le_call1 (cr_all rfl) und_all (by rfl) T.n_all bt_all (le_lc rfl sc_Net_init.nd (li_seq (le_var (pv 4))) (own := [("part", 5)]) (blkOk_by rfl) (fun s H C cl fp => (lg_name rfl sc_Net_init.nd rfl (by first | exact .inl rfl | exact .inr rfl))) (fun s H C cl fp => lts_nil) (fun s H C cl fp => (le_call (ok_is_counts T) (hr.mono (by decide)) (by rfl) T.g_is_counts T.t_is_counts.kp T.b_is_counts takes0 (la_cons (le_var (pv 1)) (la_cons (le_var (pv 5)) la_nil)) (aLen_cons (aLen_cons aLen_nil))))))))))) (lss_one (ls_raise1 rfl (takes_of rfl rfl rfl rfl) T.x_BadNet x1_BadNet T.xn_BadNet hr (by rfl) T.g_BadNet T.n_super (la_cons (le_var (pv 3)) la_nil)))
    lss_nil)))
    (lss_cons (ls_fld (n := "Net") (T.na_Net_places) (le_var (pv 0)) (le_shr (le_var (pv 1))))
    (lss_one (ls_fld (n := "Net") (T.na_Net_deeds) (le_var (pv 0)) (le_shr (le_var (pv 2)))))))))
theorem sc_Life_add : FnScope ["self", "takes", "puts", "net", "mark"] ["self", "takes", "puts"] (defScope s_Life_add) := ⟨rfl, rfl, rfl, by decide +kernel, rfl, by decide +kernel, by decide +kernel⟩
theorem ok_Life_add (T : TX P K mg) : FnG P w K mg base (L2.CX P w) 6 T.a_Life_add T.fd_Life_add ["self", "takes", "puts"] (spM K mg 3 m_Life_add) :=
  fn_good T.t_Life_add sc_Life_add rfl rfl fun cdv A outer s H E hr =>
    (lss_cons (ls_asg (le_fld (le_var (pv 0))) (lg_tup rfl (lgs_cons (lg_name rfl sc_Life_add.nd rfl (by first | exact .inl rfl | exact .inr rfl)) (lgs_cons (lg_name rfl sc_Life_add.nd rfl (by first | exact .inl rfl | exact .inr rfl)) lgs_nil))))
    (lss_cons (ls_if (PW.pt (lw_or (lt_not (lt_val (le_call (ok_is_counts T) (hr.mono (by decide)) (by rfl) T.g_is_counts T.t_is_counts.kp T.b_is_counts (takes_of rfl rfl rfl rfl) (la_cons (le_fld (le_var (pv 3))) (la_cons (le_var (pv 1)) la_nil)) (aLen_cons (aLen_cons aLen_nil))))) (lw_or1 (lt_not (lt_val (le_call (ok_is_counts T) (hr.mono (by decide)) (by rfl) T.g_is_counts T.t_is_counts.kp T.b_is_counts (takes_of rfl rfl rfl rfl) (la_cons (le_fld (le_var (pv 3))) (la_cons (le_var (pv 2)) la_nil)) (aLen_cons (aLen_cons aLen_nil)))))))) (lss_one (ls_raise0 rfl (takes_of rfl rfl rfl rfl) T.x_NoDeed x0_NoDeed hr (by rfl) T.g_NoDeed T.n_super))
    lss_nil)
    (lss_cons (ls_if (lt_cmp (op_eqD hr.units) opd_eq (le_call1 cr_lenD und_len (by rfl) T.n_len bt_len (le_fld (le_var (pv 3)))) (le_globI (by rfl) T.g_MOST_DEEDS)) (lss_one (ls_raise0 rfl (takes_of rfl rfl rfl rfl) T.x_TooGreat x0_TooGreat hr (by rfl) T.g_TooGreat T.n_super))
    lss_nil)
    (lss_one (ls_expr (le_meth T.i_Life T.me_Life_go_on T.g_Life (ok_Life_go_on T) (hr.mono (by decide)) T.b_Life_go_on (takes_of rfl rfl rfl rfl) (le_var (pv 0)) (la_cons (le_make T.m_Net T.i_Net (ok_Net_init T) (hr.mono (by decide)) (by rfl) T.g_Net T.b_Net_init (takes_of rfl rfl rfl rfl) (la_cons (le_shr (le_fld (le_var (pv 3)))) (la_cons (le_shr (le_bin or_add opd_add (le_fld (le_var (pv 3))) (le_tup (la_cons (le_tup (la_cons (le_var (pv 1)) (la_cons (le_var (pv 2)) la_nil))) la_nil)))) la_nil)) (aLen_cons (aLen_cons aLen_nil))) (la_cons (le_var (pv 4)) (la_cons (le_tup (la_cons le_str (la_cons (le_var (pv 1)) (la_cons (le_var (pv 2)) la_nil)))) la_nil))) (aLen_cons (aLen_cons (aLen_cons aLen_nil)))))))))
theorem sc_Life_leave : FnScope ["self", "deed", "net", "mark"] ["self", "deed"] (defScope s_Life_leave) := ⟨rfl, rfl, rfl, by decide +kernel, rfl, by decide +kernel, by decide +kernel⟩
theorem ok_Life_leave (T : TX P K mg) : FnG P w K mg base (L2.CX P w) 6 T.a_Life_leave T.fd_Life_leave ["self", "deed"] (spM K mg 2 m_Life_leave) :=
  fn_good T.t_Life_leave sc_Life_leave rfl rfl fun cdv A outer s H E hr =>
    (lss_cons (ls_asg (le_fld (le_var (pv 0))) (lg_tup rfl (lgs_cons (lg_name rfl sc_Life_leave.nd rfl (by first | exact .inl rfl | exact .inr rfl)) (lgs_cons (lg_name rfl sc_Life_leave.nd rfl (by first | exact .inl rfl | exact .inr rfl)) lgs_nil))))
    (lss_cons (ls_expr (le_call (ok_check_deed T) (hr.mono (by decide)) (by rfl) T.g_check_deed T.t_check_deed.kp T.b_check_deed (takes_of rfl rfl rfl rfl) (la_cons (le_var (pv 2)) (la_cons (le_var (pv 1)) la_nil)) (aLen_cons (aLen_cons aLen_nil))))
    (lss_one (ls_expr (le_meth T.i_Life T.me_Life_go_on T.g_Life (ok_Life_go_on T) (hr.mono (by decide)) T.b_Life_go_on (takes_of rfl rfl rfl rfl) (le_var (pv 0)) (la_cons (le_make T.m_Net T.i_Net (ok_Net_init T) (hr.mono (by decide)) (by rfl) T.g_Net T.b_Net_init (takes_of rfl rfl rfl rfl) (la_cons (le_shr (le_fld (le_var (pv 2)))) (la_cons (le_shr (le_bin or_add opd_add (le_cut (le_fld (le_var (pv 2))) lo_none (lo_some (le_var (pv 1)))) (le_cut (le_fld (le_var (pv 2))) (lo_some (le_bin or_add opd_add (le_var (pv 1)) le_int)) lo_none))) la_nil)) (aLen_cons (aLen_cons aLen_nil))) (la_cons (le_var (pv 3)) (la_cons (le_tup (la_cons le_str (la_cons (le_var (pv 1)) la_nil))) la_nil))) (aLen_cons (aLen_cons (aLen_cons aLen_nil))))))))
theorem sc__law_do : FnScope ["life", "act"] ["life", "act"] (defScope s__law_do) := ⟨rfl, rfl, rfl, by decide +kernel, rfl, by decide +kernel, by decide +kernel⟩
theorem ok__law_do (T : TX P K mg) : FnG P w K mg base (L2.CX P w) 7 T.a__law_do T.fd__law_do ["life", "act"] (spM K mg 2 m__law_do) :=
  fn_good T.t__law_do sc__law_do rfl rfl fun cdv A outer s H E hr =>
    (lss_cons (ls_if (lt_cmp (op_eqD hr.units) opd_eq (le_ix (le_var (pv 1)) le_int) le_str) (lss_one (ls_ret (le_meth T.i_Life T.me_Life_do T.g_Life (ok_Life_do T) (hr.mono (by decide)) T.b_Life_do (takes_of rfl rfl rfl rfl) (le_var (pv 0)) (la_cons (le_ix (le_var (pv 1)) le_int) la_nil) (aLen_cons aLen_nil))))
    lss_nil)
    (lss_cons (ls_if (lt_cmp (op_eqD hr.units) opd_eq (le_ix (le_var (pv 1)) le_int) le_str) (lss_one (ls_ret (le_meth T.i_Life T.me_Life_leave T.g_Life (ok_Life_leave T) (hr.mono (by decide)) T.b_Life_leave (takes_of rfl rfl rfl rfl) (le_var (pv 0)) (la_cons (le_ix (le_var (pv 1)) le_int) la_nil) (aLen_cons aLen_nil))))
    lss_nil)
    (lss_cons (ls_if (lt_cmp (op_eqD hr.units) opd_eq (le_ix (le_var (pv 1)) le_int) le_str) (lss_one (ls_ret (le_meth T.i_Life T.me_Life_add T.g_Life (ok_Life_add T) (hr.mono (by decide)) T.b_Life_add (takes_of rfl rfl rfl rfl) (le_var (pv 0)) (la_cons (le_ix (le_var (pv 1)) le_int) (la_cons (le_ix (le_var (pv 1)) le_int) la_nil)) (aLen_cons (aLen_cons aLen_nil)))))
    lss_nil)
    (lss_one (ls_ret (le_if (lt_cmp (op_eqD hr.units) opd_eq (le_ix (le_var (pv 1)) le_int) le_str) (le_meth T.i_Life T.me_Life_put T.g_Life (ok_Life_put T) (hr.mono (by decide)) T.b_Life_put (takes_of rfl rfl rfl rfl) (le_var (pv 0)) (la_cons (le_ix (le_var (pv 1)) le_int) (la_cons (le_ix (le_var (pv 1)) le_int) la_nil)) (aLen_cons (aLen_cons aLen_nil))) (le_meth T.i_Life T.me_Life_take T.g_Life (ok_Life_take T) (hr.mono (by decide)) T.b_Life_take (takes_of rfl rfl rfl rfl) (le_var (pv 0)) (la_cons (le_ix (le_var (pv 1)) le_int) (la_cons (le_ix (le_var (pv 1)) le_int) la_nil)) (aLen_cons (aLen_cons aLen_nil)))))))))
noncomputable def b_law (Tb : Addr) : SF := (sSeq (sSet 1 (eCall m__law_hand (aCons (eV 0) aNil)))
  (sSeq (sFor (iRng1D (aCons (eC (.int 2)) aNil)) (gdName 2)
  (sSeq (sAsg (eCall m__law_net (aCons (eV 1) (aCons (eC (.int 4)) aNil))) (gdTup 2 (gsCons (gdName 3) (gsCons (gdName 4) gsNil))))
  (sSeq (sSet 5 (eUn dTuple (eLc [14] (iRng1D (aCons (eV 3) aNil)) (gdName 14) tYesD (eCall m__law_draw (aCons (eV 1) (aCons (eC (.int 3)) aNil))))))
  (sSeq (sPar (aCons (eMake "Net" m_Net_init (aCons (eShr (eV 3)) (aCons (eShr (eV 4)) aNil))) (aCons (eTup (aCons (eV 3) (aCons (eV 4) (aCons (eV 5) aNil)))) aNil)) (gsCons (gdName 6) (gsCons (gdName 7) gsNil)))
  (sSeq (sSet 8 (eMake "Life" m_Life_init (aCons (eShr (eV 6)) (aCons (eShr (eV 5)) aNil))))
  (sSeq (sIf (tNotD (tVal (eCall m__law_is_like (aCons (eV 8) (aCons (eV 7) aNil))))) (sRet (eC (.bl false)))
  sDone)
  (sSeq (sFor (iRng1D (aCons (eC (.int 10)) aNil)) (gdName 9)
  (sSeq (sSet 10 (eCall m__law_act (aCons (eV 1) (aCons (eV 7) aNil))))
  (sSeq (sSet 11 (eCall m__law_due (aCons (eV 7) (aCons (eV 10) aNil))))
  (sSeq (sSet 12 (eLamC Tb qL 15 H0_word (eCall m__law_do (aCons (eV 8) (aCons (eV 10) aNil)))))
  (sSeq (sIf (tVal (eBin dNe (eV 12) (eIf (tVal (eBin dEq (eBin dIx (eV 11) (eC (.int 0))) (eC (.str "told")))) (eTup (aCons (eC (.str "told")) (aCons (eC .non) aNil))) (eV 11)))) (sRet (eC (.bl false)))
  sDone)
  (sSeq (sSet 7 (eIf (tVal (eBin dEq (eBin dIx (eV 11) (eC (.int 0))) (eC (.str "told")))) (eBin dIx (eV 11) (eC (.int 1))) (eV 7)))
  (sSeq (sIf (tNotD (tVal (eCall m__law_is_like (aCons (eV 8) (aCons (eV 7) aNil))))) (sRet (eC (.bl false)))
  sDone)
  (sSeq (sIf (tVal (eBin dNe (eUn dList (eMeth "Life" "ready" m_Life_ready (eV 8) aNil)) (eCall m__law_ready (aCons (eBin dIx (eV 7) (eC (.int 1))) (aCons (eBin dIx (eV 7) (eC (.int 2))) aNil))))) (sRet (eC (.bl false)))
  sDone)
  (sIf (tVal (eBin dNe (eMeth "Life" "tokens" m_Life_tokens (eV 8) aNil) (eUn dSumX (eBin dIx (eV 7) (eC (.int 2)))))) (sRet (eC (.bl false)))
  sDone)))))))))
  (sSeq (sIf (tVal (eBin (dEqI "Net" m_Net_eq true) (eShr (eV 6)) (eShr (eMake "Net" m_Net_init (aCons (eShr (eV 3)) (aCons (eShr (eV 4)) aNil)))))) (sRet (eC (.bl false)))
  sDone)
  (sSeq (sSet 13 (eCall m__law_some (aCons (eV 1) (aCons (eLst (aCons (eC .non) (aCons (eShr (eTup aNil)) (aCons (eShr (eBin dAdd (eV 5) (eTup (aCons (eC (.int 0)) aNil)))) (aCons (eShr (eBin dMul (eLst (aCons (eC (.int 0)) aNil)) (eV 3))) (aCons (eShr (eBin dMul (eTup (aCons (eUn dNeg (eC (.int 1))) aNil)) (eV 3))) (aCons (eShr (eBin dMul (eTup (aCons (eC (.bl true)) aNil)) (eV 3))) (aCons (eC (.int 0)) aNil)))))))) aNil))))
  (sIf (tVal (eBin dNe (eLamC Tb qL 15 H0_word (eMake "Life" m_Life_init (aCons (eShr (eV 6)) (aCons (eShr (eV 13)) aNil)))) (eC (.str "mark")))) (sRet (eC (.bl false)))
  sDone))))))))))
  (sRet (eC (.bl true)))))
theorem sc_law : FnScope ["script", "hand", "turn", "places", "deeds", "mark", "net", "state", "life", "step", "act", "due", "told", "bad", "place", "{tab}"] ["script"] (defScope s_law) := ⟨rfl, rfl, rfl, by decide +kernel, rfl, by decide +kernel, by decide +kernel⟩
theorem ok_law (T : TX P K mg) (T2 : TX2 P K mg T) {f c Tb : Addr} (TB : LamX.TabB base mg c Tb) {oc kV doc pm ct : Value} {od an : Option Addr} {osl : Array (Option Value)}
    (lk : K.lookup f = some ⟨oc, od, .func (PySem.W.fnOf "law" "law" (defArgs s_law) (defBody s_law) (defScope s_law) .none kV doc pm an (.ref c) ct), osl⟩) (hcd : PySem.W.codeIn K (.ref c) "law" = true) :
    FnG P w K mg base (L2.CX P w) 10 f (PySem.W.fnOf "law" "law" (defArgs s_law) (defBody s_law) (defScope s_law) .none kV doc pm an (.ref c) ct) ["script"] (spLaw K mg Tb qL 14 (b_law Tb)) :=
  law_good lk hcd sc_law rfl rfl (by unfold Vis; decide +kernel) fun A outer s H E hr =>
    (lss_cons (ls_set rfl sc_law.nd rfl (by first | exact .inl rfl | exact .inr rfl) (le_call (ok__law_hand T) (hr.mono (by decide)) (by rfl) T.g__law_hand T.t__law_hand.kp T.b__law_hand (takes_of rfl rfl rfl rfl) (la_cons (le_var (pv 0)) la_nil) (aLen_cons aLen_nil)))
    (lss_cons (ls_for (passes_of rfl) rfl (li_rng1 (by rfl) T.n_range (la_cons le_int la_nil)) (lg_name rfl sc_law.nd rfl (by first | exact .inl rfl | exact .inr rfl))
    (lss_cons (ls_asg (le_call (ok__law_net T) (hr.mono (by decide)) (by rfl) T.g__law_net T.t__law_net.kp T.b__law_net (takes_of rfl rfl rfl rfl) (la_cons (le_var (pv 1)) (la_cons le_int la_nil)) (aLen_cons (aLen_cons aLen_nil))) (lg_tup rfl (lgs_cons (lg_name rfl sc_law.nd rfl (by first | exact .inl rfl | exact .inr rfl)) (lgs_cons (lg_name rfl sc_law.nd rfl (by first | exact .inl rfl | exact .inr rfl)) lgs_nil))))
    (lss_cons (ls_set rfl sc_law.nd rfl (by first | exact .inl rfl | exact .inr rfl) (le_callT1 call_tuple_of und_tuple (by rfl) T.n_tuple bt_tuple (le_lc rfl sc_law.nd (li_rng1 (by rfl) T.n_range (la_cons (le_var (pv 3)) la_nil)) (own := [("place", 14)]) (blkOk_by rfl) (fun s H C cl fp => (lg_name rfl sc_law.nd rfl (by first | exact .inl rfl | exact .inr rfl))) (fun s H C cl fp => lts_nil) (fun s H C cl fp => (le_call (ok__law_draw T) (hr.mono (by decide)) (by rfl) T.g__law_draw T.t__law_draw.kp T.b__law_draw takes0 (la_cons (le_var (pv 1)) (la_cons le_int la_nil)) (aLen_cons (aLen_cons aLen_nil)))))))
    (lss_cons (ls_parT rfl (la_cons (le_make T.m_Net T.i_Net (ok_Net_init T) (hr.mono (by decide)) (by rfl) T.g_Net T.b_Net_init (takes_of rfl rfl rfl rfl) (la_cons (le_shr (le_var (pv 3))) (la_cons (le_shr (le_var (pv 4))) la_nil)) (aLen_cons (aLen_cons aLen_nil))) (la_cons (le_tup (la_cons (le_var (pv 3)) (la_cons (le_var (pv 4)) (la_cons (le_var (pv 5)) la_nil)))) la_nil)) (lgs_cons (lg_name rfl sc_law.nd rfl (by first | exact .inl rfl | exact .inr rfl)) (lgs_cons (lg_name rfl sc_law.nd rfl (by first | exact .inl rfl | exact .inr rfl)) lgs_nil)) rfl (aLen_cons (aLen_cons aLen_nil)))
    (lss_cons (ls_set rfl sc_law.nd rfl (by first | exact .inl rfl | exact .inr rfl) (le_make T.m_Life T.i_Life (ok_Life_init T) (hr.mono (by decide)) (by rfl) T.g_Life T.b_Life_init (takes_of rfl rfl rfl rfl) (la_cons (le_shr (le_var (pv 6))) (la_cons (le_shr (le_var (pv 5))) la_nil)) (aLen_cons (aLen_cons aLen_nil))))
    (lss_cons (ls_if (lt_not (lt_val (le_call (ok__law_is_like T) (hr.mono (by decide)) (by rfl) T.g__law_is_like T.t__law_is_like.kp T.b__law_is_like (takes_of rfl rfl rfl rfl) (la_cons (le_var (pv 8)) (la_cons (le_var (pv 7)) la_nil)) (aLen_cons (aLen_cons aLen_nil))))) (lss_one (ls_ret le_bl))
    lss_nil)
    (lss_cons (ls_for (passes_of rfl) rfl (li_rng1 (by rfl) T.n_range (la_cons le_int la_nil)) (lg_name rfl sc_law.nd rfl (by first | exact .inl rfl | exact .inr rfl))
    (lss_cons (ls_set rfl sc_law.nd rfl (by first | exact .inl rfl | exact .inr rfl) (le_call (ok__law_act T) (hr.mono (by decide)) (by rfl) T.g__law_act T.t__law_act.kp T.b__law_act (takes_of rfl rfl rfl rfl) (la_cons (le_var (pv 1)) (la_cons (le_var (pv 7)) la_nil)) (aLen_cons (aLen_cons aLen_nil))))
    (lss_cons (ls_set rfl sc_law.nd rfl (by first | exact .inl rfl | exact .inr rfl) (le_call (ok__law_due T) (hr.mono (by decide)) (by rfl) T.g__law_due T.t__law_due.kp T.b__law_due (takes_of rfl rfl rfl rfl) (la_cons (le_var (pv 7)) (la_cons (le_var (pv 10)) la_nil)) (aLen_cons (aLen_cons aLen_nil))))
    (lss_cons (ls_set rfl sc_law.nd rfl (by first | exact .inl rfl | exact .inr rfl) (le_lamF (k := 7) (q := qL) (tt := 15) (H0 := H0_word) (fb := (eCall m__law_do (aCons (eV 8) (aCons (eV 10) aNil)))) (by rfl) T.g__law_word T.t__law_word T.b__law_word sc__law_word rfl (.inl rfl)
      (fun cdv => gives_of (kk := 3) (B := fun _ => false) (fun f c' τ σ0 => b_word f c' qL τ σ0 (eCall m__law_do (aCons (eV 8) (aCons (eV 10) aNil)))) rfl (fun f c' τ σ0 s H hr act => ls_word rfl rfl rfl T T2 hr act) (fun f c' τ σ0 => end_word f c' qL τ σ0 _)) TB rfl rfl (hr.mono (by decide)) (LamX.lamS_by rfl) rfl (fun _ _ _ _ _ => rfl)
      (fun A outer s H E f c' hr => (le_call (ok__law_do T) (hr.mono (by decide)) (by rfl) T.g__law_do T.t__law_do.kp T.b__law_do (takes_of rfl rfl rfl rfl) (la_cons (le_var (pv 8)) (la_cons (le_var (pv 10)) la_nil)) (aLen_cons (aLen_cons aLen_nil))))))
    (lss_cons (ls_if (lt_cmp (op_neD hr.units) opd_ne (le_var (pv 12)) (le_if (lt_cmp (op_eqD hr.units) opd_eq (le_ix (le_var (pv 11)) le_int) le_str) (le_tup (la_cons le_str (la_cons le_non la_nil))) (le_var (pv 11)))) (lss_one (ls_ret le_bl))
    lss_nil)
    (lss_cons (ls_set rfl sc_law.nd rfl (by first | exact .inl rfl | exact .inr rfl) (le_if (lt_cmp (op_eqD hr.units) opd_eq (le_ix (le_var (pv 11)) le_int) le_str) (le_ix (le_var (pv 11)) le_int) (le_var (pv 7))))
    (lss_cons (ls_if (lt_not (lt_val (le_call (ok__law_is_like T) (hr.mono (by decide)) (by rfl) T.g__law_is_like T.t__law_is_like.kp T.b__law_is_like (takes_of rfl rfl rfl rfl) (la_cons (le_var (pv 8)) (la_cons (le_var (pv 7)) la_nil)) (aLen_cons (aLen_cons aLen_nil))))) (lss_one (ls_ret le_bl))
    lss_nil)
    (lss_cons (ls_if (lt_cmp (op_neD hr.units) opd_ne (le_callT1 call_list_of und_list (by rfl) T.n_list bt_list (le_meth0 T.i_Life T.me_Life_ready T.g_Life (ok_Life_ready T) (hr.mono (by decide)) T.b_Life_ready (takes_of rfl rfl rfl rfl) (le_var (pv 8)))) (le_call (ok__law_ready T) (hr.mono (by decide)) (by rfl) T.g__law_ready T.t__law_ready.kp T.b__law_ready (takes_of rfl rfl rfl rfl) (la_cons (le_ix (le_var (pv 7)) le_int) (la_cons (le_ix (le_var (pv 7)) le_int) la_nil)) (aLen_cons (aLen_cons aLen_nil)))) (lss_one (ls_ret le_bl))
    lss_nil)
    (lss_one (ls_if (lt_cmp (op_neD hr.units) opd_ne (le_meth0 T.i_Life T.me_Life_tokens T.g_Life (ok_Life_tokens T) (hr.mono (by decide)) T.b_Life_tokens (takes_of rfl rfl rfl rfl) (le_var (pv 8))) (le_call1 (L2.CallR.or (cr_sum rfl) (cr_sumT rfl)) und_sumX (by rfl) T.n_sum bt_sum (le_ix (le_var (pv 7)) le_int))) (lss_one (ls_ret le_bl))
    lss_nil))))))))))
    (lss_cons (ls_if (lt_cmp (op_neI T.e_Net (ok_Net_eq T) T.b_Net_eq (hr.mono (by decide))) (opd_eqI T.g_Net) (le_shr (le_var (pv 6))) (le_shr (le_make T.m_Net T.i_Net (ok_Net_init T) (hr.mono (by decide)) (by rfl) T.g_Net T.b_Net_init (takes_of rfl rfl rfl rfl) (la_cons (le_shr (le_var (pv 3))) (la_cons (le_shr (le_var (pv 4))) la_nil)) (aLen_cons (aLen_cons aLen_nil))))) (lss_one (ls_ret le_bl))
    lss_nil)
    (lss_cons (ls_set rfl sc_law.nd rfl (by first | exact .inl rfl | exact .inr rfl) (le_call (ok__law_some T) (hr.mono (by decide)) (by rfl) T.g__law_some T.t__law_some.kp T.b__law_some (takes_of rfl rfl rfl rfl) (la_cons (le_var (pv 1)) (la_cons (le_lst (la_cons le_non (la_cons (le_shr (le_tup la_nil)) (la_cons (le_shr (le_bin or_add opd_add (le_var (pv 5)) (le_tup (la_cons le_int la_nil)))) (la_cons (le_shr (le_bin or_mul opd_mul (le_lst (la_cons le_int la_nil)) (le_var (pv 3)))) (la_cons (le_shr (le_bin or_mul opd_mul (le_tup (la_cons (le_un un_neg und_neg le_int) la_nil)) (le_var (pv 3)))) (la_cons (le_shr (le_bin or_mul opd_mul (le_tup (la_cons le_bl la_nil)) (le_var (pv 3)))) (la_cons le_int la_nil)))))))) la_nil)) (aLen_cons (aLen_cons aLen_nil))))
    (lss_one (ls_if (lt_cmp (op_neD hr.units) opd_ne (le_lamF (k := 6) (q := qL) (tt := 15) (H0 := H0_word) (fb := (eMake "Life" m_Life_init (aCons (eShr (eV 6)) (aCons (eShr (eV 13)) aNil)))) (by rfl) T.g__law_word T.t__law_word T.b__law_word sc__law_word rfl (.inl rfl)
      (fun cdv => gives_of (kk := 3) (B := fun _ => false) (fun f c' τ σ0 => b_word f c' qL τ σ0 (eMake "Life" m_Life_init (aCons (eShr (eV 6)) (aCons (eShr (eV 13)) aNil)))) rfl (fun f c' τ σ0 s H hr act => ls_word rfl rfl rfl T T2 hr act) (fun f c' τ σ0 => end_word f c' qL τ σ0 _)) TB rfl rfl (hr.mono (by decide)) (LamX.lamS_by rfl) rfl (fun _ _ _ _ _ => rfl)
      (fun A outer s H E f c' hr => (le_make T.m_Life T.i_Life (ok_Life_init T) (hr.mono (by decide)) (by rfl) T.g_Life T.b_Life_init (takes_of rfl rfl rfl rfl) (la_cons (le_shr (le_var (pv 6))) (la_cons (le_shr (le_var (pv 13))) la_nil)) (aLen_cons (aLen_cons aLen_nil))))) le_str) (lss_one (ls_ret le_bl))
    lss_nil)))))))))))
    (lss_one (ls_ret le_bl))))
end
end Toy
namespace Toy
open PySem PySem.Spec PyProof.Rows L2 DL
theorem dEqI_net (neg : Bool) (p p' : Int) (a b : List Deed) : dEqI "Net" m_Net_eq neg (netD p (deedsD a)) (netD p' (deedsD b)) = some (.bl (if neg then !decide (p = p' ∧ a = b) else decide (p = p' ∧ a = b))) := by
  unfold dEqI
  simp [p_Net_eq]
/-- a list of numbers, against itself -/
theorem dNe_lstI (o o' : Bool) (xs : List Int) (hl : xs.length ≤ 1000) : dNe (.lst o (xs.map .int)) (.lst o' (xs.map .int)) = some (.bl false) := by
  obtain ⟨p, e1, e2, e3⟩ := toP_int (tI xs) (intT_tI xs)
  have hd := dep_tI xs
  obtain ⟨ps, f1, f2, f3⟩ := toPL_int (xs.map .int) (by have := intT_tI xs; simpa [intT] using this)
  have g1 : ∀ o, toP (.lst o (xs.map D.int)) = some (.list ps) := fun o => by simp [toP, f1]
  have dl : depL (xs.map D.int) ≤ 0 := depL_map D.int 0 (fun _ => by simp [dep]) xs
  have sh : SeqAt.shaped (.list ps) = true := by
    show (PyData.canLay0 (.list ps) && decide (PyData.depth (.list ps) ≤ 64)) = true
    rw [PyData.canLay0, f2, PyData.depth, f3]
    have : depL (xs.map D.int) + 1 ≤ 64 := by omega
    simp [this]
  have ev : PyData.eqv (.list ps) (.list ps) = true := by
    have := (eqvL_int (xs.map .int) (xs.map .int) ps ps (by have := intT_tI xs; simpa [intT] using this) (by have := intT_tI xs; simpa [intT] using this) f1 f1).mpr rfl
    simpa [PyData.eqv] using this
  unfold dNe
  simp [g1, sh, ev]
theorem dNe_natI (o o' : Bool) (L : List Nat) (hl : L.length ≤ 1000) : dNe (.lst o (L.map fun k : Nat => D.int (k : Int))) (.lst o' (L.map fun k : Nat => D.int (k : Int))) = some (.bl false) := by
  have := dNe_lstI o o' (L.map fun k : Nat => (k : Int)) (by simpa using hl)
  rw [List.map_map] at this
  exact this
theorem dNe_same {a : D} (h : intT a = true) (hd : dep a ≤ 64) : dNe a a = some (.bl false) := by
  have := dNe_T (P := True) h h hd hd (by simp)
  simpa using this
theorem so_told : PyData.strOk ("told" : Str) = true ∧ PyData.strOk ("ready" : Str) = true ∧ PyData.strOk ("deed" : Str) = true ∧ PyData.strOk ("number" : Str) = true ∧ PyData.strOk ("mark" : Str) = true ∧ PyData.strOk ("great" : Str) = true := by decide +kernel
/-- the words of what is refused -/
structure BadW (w : D) : Prop where
  t : intT w = true
  dp : dep w ≤ 64
  z : fz w = true
  first : ∃ y, dIx w (.int 0) = some (.str y) ∧ PyData.strOk y = true ∧ y ≠ "told"
theorem bw_str {z : Str} (h : PyData.strOk z = true) {c : Nat} (h1 : z.length ≤ 16777216) (hc : atI z.cps.toList 0 = some c) (h2 : PyData.strOk ⟨#[c]⟩ = true) (h3 : (⟨#[c]⟩ : Str) ≠ "told") : BadW (.str z) :=
  ⟨by simpa [intT] using h, by simp [dep], rfl, ⟨#[c]⟩, by unfold dIx; dsimp only; rw [if_pos h1, hc], h2, h3⟩
theorem bw_deed : BadW (.str "deed") := bw_str (by decide +kernel) (c := 100) (by decide) (by decide) (by decide +kernel) (by decide +kernel)
theorem bw_great : BadW (.str "great") := bw_str (by decide +kernel) (c := 103) (by decide) (by decide) (by decide +kernel) (by decide +kernel)
theorem bw_number : BadW (.str "number") := bw_str (by decide +kernel) (c := 110) (by decide) (by decide) (by decide +kernel) (by decide +kernel)
theorem bw_mark : BadW (.str "mark") := bw_str (by decide +kernel) (c := 109) (by decide) (by decide) (by decide +kernel) (by decide +kernel)
theorem bw_ready (k : Int) : BadW (.tup [.str "ready", .int k]) := ⟨by simp [intT, intTL, so_told.2.1], by simp [dep, depL], rfl, "ready", rfl, so_told.2.1, by decide +kernel⟩
theorem bad_w {s : St} {a : Act} {w : D} {c : Str} {ks vs} (h : resP s a = .bad w c ks vs) : BadW w := by
  have nok : ∀ s', resP s a ≠ .ok s' := fun s' z => by rw [h] at z; cases z
  have e1 : deedB = .bad w c ks vs → BadW w := fun z => by cases z; exact bw_deed
  have e2 : greatB = .bad w c ks vs → BadW w := fun z => by cases z; exact bw_great
  have e3 : numB = .bad w c ks vs → BadW w := fun z => by cases z; exact bw_number
  have e4 : markB = .bad w c ks vs → BadW w := fun z => by cases z; exact bw_mark
  cases a with
  | dO d =>
    simp only [resP, resDo] at h
    split at h
    · rename_i hw
      obtain ⟨i, rfl, _, _⟩ := wi_int_of hw
      split at h
      · split at h
        · split at h
          · cases h
          · exact e2 h
        · cases h; exact bw_ready i
      · exact e1 h
    · exact e1 h
  | leave d =>
    simp only [resP, resLeave] at h
    split at h
    · cases h
    · exact e1 h
  | add r b =>
    simp only [resP, resAdd] at h
    split at h
    · split at h
      · exact e2 h
      · cases h
    · exact e1 h
  | put x y =>
    simp only [resP, resPut] at h
    split at h
    · split at h
      · cases h
      · exact e2 h
    · exact e3 h
  | take x y =>
    simp only [resP, resTake] at h
    split at h
    · split at h
      · cases h
      · exact e4 h
    · exact e3 h
theorem actD_tup (a : Act) : ∃ x xs, actD a = .tup (x :: xs) := by cases a <;> exact ⟨_, _, rfl⟩
theorem fz_actD (a : Act) : fz (actD a) = true := by cases a <;> rfl
theorem pow_eq : (10 : Int) ^ 6 = 1000000 := by decide
theorem patB_set : ∀ {σ : En} {i : Nat} {d0 d : D}, σ[i]? = some (some d0) → patB (σ.set i (some d)) σ = true
  | [], _, _, _, h => by simp at h
  | some _ :: σ, 0, _, _, _ => by simp [patB, patB_refl σ]
  | none :: σ, 0, _, _, h => by simp at h
  | none :: σ, i + 1, _, _, h => by simpa [patB] using patB_set (σ := σ) (i := i) (by simpa using h)
  | some _ :: σ, i + 1, _, _, h => by simpa [patB] using patB_set (σ := σ) (i := i) (by simpa using h)
/-- the helper with an act -/
theorem lam_act {Tb : Addr} {s : St} {es ss : List D} {a : Act} (h : StOk s) (ha : ActOk a) (hle : es.length < 10000) (hls : ss.length < 10000) (o0 o1 o2 o3 o4 o5 o6 o7 o9 o11 o12 o13 o14 : Option D) :
    eLamC Tb qL 15 H0_word (eCall m__law_do (aCons (eV 8) (aCons (eV 10) aNil))) [o0, o1, o2, o3, o4, o5, o6, o7, some (lifeD (pD s) es ss), o9, some (actD a), o11, o12, o13, o14, some (.tab Tb qL)] =
      .ok (.val (wordD (resP s a))) [o0, o1, o2, o3, o4, o5, o6, o7, some (lifeP s es ss (actD a) (resP s a)), o9, some (actD a), o11, o12, o13, o14, some (.tab Tb qL)] := by
  have q := p_law_do h ha hle hls
  have za := fz_actD a
  cases e : resP s a with
  | ok s' =>
    rw [e] at q
    refine lamV (d' := .non) rfl (by simp [za, q, outP]; rfl) ?_ ?_
    · simp only [lifeP]
      exact patB_set (σ := [o0, o1, o2, o3, o4, o5, o6, o7, some (lifeD (pD s) es ss), o9, some (actD a), o11, o12, o13, o14, some (.tab Tb qL)]) (i := 8) (d0 := lifeD (pD s) es ss) (d := lifeD (pD s') (es ++ [pD s]) (ss ++ [actD a])) rfl
    · simp only [wordD]; exact word_ok
  | bad w c ks vs =>
    rw [e] at q
    refine lamE (c := c) (ks := ks) (vs := vs) rfl (by simp [za, q, outP]; rfl) ?_ ?_
    · exact patB_refl _
    · exact bad_word ha e
theorem lam_life {Tb : Addr} {p : Int} {ds : List Deed} {x : D} (hx : plainT x) (hc : cts p x 1000000 = false) (o0 o1 o2 o3 o4 o5 o7 o8 o9 o10 o11 o12 o14 : Option D) :
    eLamC Tb qL 15 H0_word (eMake "Life" m_Life_init (aCons (eShr (eV 6)) (aCons (eShr (eV 13)) aNil))) [o0, o1, o2, o3, o4, o5, some (netD p (deedsD ds)), o7, o8, o9, o10, o11, o12, some x, o14, some (.tab Tb qL)] =
      .ok (.val (.str "mark")) [o0, o1, o2, o3, o4, o5, some (netD p (deedsD ds)), o7, o8, o9, o10, o11, o12, some x, o14, some (.tab Tb qL)] := by
  have zx := fz_plain hx.1
  have q := p_init (p := p) (ds := ds) hx
  rw [hc] at q
  exact lamE (c := "NoMark") (ks := []) (vs := []) rfl (by simp [zx, share_fz zx, q]) (patB_refl _) word_NoMark
theorem rep_bl (n : Nat) : (List.replicate n [D.bl true]).flatten = List.replicate n (.bl true) := by
  induction n with
  | zero => rfl
  | succ n ih => rw [List.replicate_succ, List.flatten_cons, ih, List.replicate_succ]; rfl
theorem cts_len {p : Int} {ds : List D} {m : Int} (h : (ds.length : Int) ≠ p) : cts p (.tup ds) m = false := by simp [cts, h]
theorem cts_item {p : Int} {ds : List D} {m : Int} {x : D} (hx : x ∈ ds) (h : wi x 0 m = false) : cts p (.tup ds) m = false := by
  rw [Bool.eq_false_iff]
  intro z
  simp [cts] at z
  have := z.2 x hx
  rw [h] at this; cases this
theorem plain_law (Tb : Addr) (ns : List Int) (hl : ns.length ≤ 63) (d : D) (hd : d = .scr ns ∨ d = .lst true (ns.map .int)) :
    ∃ s', b_law Tb (some d :: (List.replicate 14 none ++ [some (.tab Tb qL)])) = .rt (.bl true) s' := by
  obtain ⟨h, eh, H⟩ := p_hand hl hd
  have key : Go (b_law Tb (some d :: (List.replicate 14 none ++ [some (.tab Tb qL)]))) { nx := fun _ => False, rt := fun d _ => d = .bl true } := by
    unfold b_law
    have e1 : sSet 1 (eCall m__law_hand (aCons (eV 0) aNil)) (some d :: (List.replicate 14 none ++ [some (.tab Tb qL)])) = .nx (some d :: some h :: (List.replicate 13 none ++ [some (.tab Tb qL)])) := by
      rcases hd with rfl | rfl <;> simp [eh]
    refine go_step _ e1 ?_
    clear eh e1
    let F : Nat → En → Prop := fun _ σ => ∃ h o2 o3 o4 o5 o6 o7 o8 o9 o10 o11 o12 o13, Hand h ∧ σ = [some d, some h, o2, o3, o4, o5, o6, o7, o8, o9, o10, o11, o12, o13, none, some (.tab Tb qL)]
    refine go_seqI (F 2) ?_ ?_
    · refine go_forR 2 F (by simp [rngOk_of]) ⟨h, none, none, none, none, none, none, none, none, none, none, none, none, H, rfl⟩ ?_ (fun σ h => h)
      clear H h
      rintro i σ hi ⟨h, o2, o3, o4, o5, o6, o7, o8, o9, o10, o11, o12, o13, H, rfl⟩
      refine ⟨_, by simp; rfl, ?_⟩
      obtain ⟨p, ds, h1, e1, H1, p1, p4, d1, d4, nok⟩ := p_law_net (m := 4) H (by omega) (by omega)
      refine go_step [some d, some h1, some (.int i), some (.int p), some (deedsD ds), o5, o6, o7, o8, o9, o10, o11, o12, o13, none, some (.tab Tb qL)] (by simp [H.fz, H1.fz, e1]) ?_
      clear e1
      have rp : rngOk (p : Int) := rngOk_nat (by omega)
      obtain ⟨m, h2, H2, lm, bm, em⟩ := lc_handA D.int (vs := [14]) (g := gdName 14) (t := tYesD) (f := eCall m__law_draw (aCons (eV 1) (aCons (eC (.int 3)) aNil))) (fun h => [some d, some h, some (.int i), some (.int p), some (deedsD ds), o5, o6, o7, o8, o9, o10, o11, o12, o13, none, some (.tab Tb qL)]) (fun z : Int => 0 ≤ z ∧ z ≤ 2) p (by omega) (fun h k hk H => by
        obtain ⟨z, h', e, l, u, H'⟩ := p_draw (n := 3) H (by omega) (by omega)
        exact ⟨z, h', H', ⟨l, by omega⟩, by simp [lcStep, H.fz, e]⟩) H1
      have zm := fzAll_map D.int (fun _ => rfl) m
      refine go_step [some d, some h2, some (.int i), some (.int p), some (deedsD ds), some (tI m), o6, o7, o8, o9, o10, o11, o12, o13, none, some (.tab Tb qL)] (by simp [rp, em, zm]) ?_
      clear em H1
      have sk : StOk ⟨p, ds, m⟩ := ⟨nok, by show (1 : Int) ≤ p; omega, by show (p : Int) ≤ 4; omega, by show (m.length : Int) = p; omega, fun z hz => by have := bm z hz; omega⟩
      have eni := p_Net_init nok
      have sz := fzAll_map deedD (fun _ => rfl) ds
      refine go_step [some d, some h2, some (.int i), some (.int p), some (deedsD ds), some (tI m), some (netO true p (deedsD ds)), some (stD ⟨p, ds, m⟩), o8, o9, o10, o11, o12, o13, none, some (.tab Tb qL)] (by simp [eni]) ?_
      have hm1 : cts p (tI m) 1000000 = true := cts_ok (by omega) fun z hz => by have := bm z hz; omega
      have li := p_init (p := p) (ds := ds) (plainT_tI (xs := m) (by omega))
      rw [hm1] at li
      refine go_step [some d, some h2, some (.int i), some (.int p), some (deedsD ds), some (tI m), some (netD p (deedsD ds)), some (stD ⟨p, ds, m⟩), some (lifeD (pD ⟨p, ds, m⟩) [] []), o9, o10, o11, o12, o13, none, some (.tab Tb qL)] (by simp [li]) ?_
      clear li
      have lk := p_like (es := []) (ss := []) sk
      refine go_step [some d, some h2, some (.int i), some (.int p), some (deedsD ds), some (tI m), some (netD p (deedsD ds)), some (stD ⟨p, ds, m⟩), some (lifeD (pD ⟨p, ds, m⟩) [] []), o9, o10, o11, o12, o13, none, some (.tab Tb qL)] (by simp [lk]) ?_
      clear lk
      let G : Nat → En → Prop := fun k σ => ∃ (h : D) (s : St) (es ss : List D) (o9 o10 o11 o12 : Option D), Hand h ∧ StOk s ∧ es.length ≤ k ∧ ss.length ≤ k ∧ σ = [some d, some h, some (.int i), some (.int p), some (deedsD ds), some (tI m), some (netD p (deedsD ds)), some (stD s), some (lifeD (pD s) es ss), o9, o10, o11, o12, o13, none, some (.tab Tb qL)]
      refine go_seqI (G 10) ?_ ?_
      · refine go_forR 10 G (by simp [rngOk_of]) ⟨h2, ⟨p, ds, m⟩, [], [], o9, o10, o11, o12, H2, sk, by simp, by simp, rfl⟩ ?_ (fun σ h => h)
        clear H2 sk
        rintro k σ hk ⟨h, s, es, ss, o9, o10, o11, o12, H, sk, le, lss, rfl⟩
        refine ⟨_, by simp; rfl, ?_⟩
        obtain ⟨a, h3, ea, H3, ha⟩ := p_law_act H sk
        have za := fz_actD a
        refine go_step [some d, some h3, some (.int i), some (.int p), some (deedsD ds), some (tI m), some (netD p (deedsD ds)), some (stD s), some (lifeD (pD s) es ss), some (.int k), some (actD a), o11, o12, o13, none, some (.tab Tb qL)] (by simp [H.fz, H3.fz, ea, za]) ?_
        clear ea
        have ed := p_law_due sk ha
        have el := lam_act (Tb := Tb) (es := es) (ss := ss) sk ha (by omega) (by omega) (some d) (some h3) (some (.int i)) (some (.int p)) (some (deedsD ds)) (some (tI m)) (some (netD p (deedsD ds))) (some (stD s)) (some (.int k)) (some (dueD s (resP s a))) o12 o13 none
        have so := so_told.1
        cases er : resP s a with
        | ok s' =>
          rw [er] at ed el
          simp only [dueD, wordD, lifeP] at ed el
          have sk' := res_ok sk ha er
          have zd : fz (D.tup [.str "told", stD s']) = true := rfl
          refine go_step [some d, some h3, some (.int i), some (.int p), some (deedsD ds), some (tI m), some (netD p (deedsD ds)), some (stD s), some (lifeD (pD s) es ss), some (.int k), some (actD a), some (.tup [.str "told", stD s']), o12, o13, none, some (.tab Tb qL)] (by simp [za, ed]) ?_
          refine go_step [some d, some h3, some (.int i), some (.int p), some (deedsD ds), some (tI m), some (netD p (deedsD ds)), some (stD s), some (lifeD (pD s') (es ++ [pD s]) (ss ++ [actD a])), some (.int k), some (actD a), some (.tup [.str "told", stD s']), some (.tup [.str "told", .non]), o13, none, some (.tab Tb qL)] (by rw [sSet_ap, el]; simp) ?_
          have n1 := dNe_same (a := .tup [.str "told", .non]) (by simp [intT, intTL, so]) (by simp [dep, depL])
          have q1 := dEq_str so so
          refine go_step [some d, some h3, some (.int i), some (.int p), some (deedsD ds), some (tI m), some (netD p (deedsD ds)), some (stD s), some (lifeD (pD s') (es ++ [pD s]) (ss ++ [actD a])), some (.int k), some (actD a), some (.tup [.str "told", stD s']), some (.tup [.str "told", .non]), o13, none, some (.tab Tb qL)] (by simp [q1, n1]) ?_
          refine go_step [some d, some h3, some (.int i), some (.int p), some (deedsD ds), some (tI m), some (netD p (deedsD ds)), some (stD s'), some (lifeD (pD s') (es ++ [pD s]) (ss ++ [actD a])), some (.int k), some (actD a), some (.tup [.str "told", stD s']), some (.tup [.str "told", .non]), o13, none, some (.tab Tb qL)] (by simp [q1]) ?_
          have lk := p_like (es := es ++ [pD s]) (ss := ss ++ [actD a]) sk'
          refine go_step [some d, some h3, some (.int i), some (.int p), some (deedsD ds), some (tI m), some (netD p (deedsD ds)), some (stD s'), some (lifeD (pD s') (es ++ [pD s]) (ss ++ [actD a])), some (.int k), some (actD a), some (.tup [.str "told", stD s']), some (.tup [.str "told", .non]), o13, none, some (.tab Tb qL)] (by simp [lk]) ?_
          have lr := p_Life_ready (es := es ++ [pD s]) (ss := ss ++ [actD a]) sk'
          have hlm : s'.m.length ≤ 1000 := by have := sk'.lm; have := sk'.p4; omega
          have hld := sk'.net.hd
          have lr2 := p_law_ready (ds := s'.ds) hlm (by omega)
          have lrl : (readyP s'.ds s'.m).length ≤ 1000 := by
            unfold readyP
            have := List.length_filter_le (canAt s'.ds s'.m) (List.range s'.ds.length)
            simp at this; omega
          have n2 := dNe_natI true true (readyP s'.ds s'.m) lrl
          have zr := fzAll_map (fun k : Nat => D.int (k : Int)) (fun _ => rfl) (readyP s'.ds s'.m)
          refine go_step [some d, some h3, some (.int i), some (.int p), some (deedsD ds), some (tI m), some (netD p (deedsD ds)), some (stD s'), some (lifeD (pD s') (es ++ [pD s]) (ss ++ [actD a])), some (.int k), some (actD a), some (.tup [.str "told", stD s']), some (.tup [.str "told", .non]), o13, none, some (.tab Tb qL)] (by simp [lr, lr2, n2, zr]) ?_
          have lt := p_Life_tokens (s := s') (es := es ++ [pD s]) (ss := ss ++ [actD a])
          have es' : dSum (.lst false (s'.m.map .int)) = some (.int s'.m.sum) := by simp only [dSum, toI_map]
          exact go_last [some d, some h3, some (.int i), some (.int p), some (deedsD ds), some (tI m), some (netD p (deedsD ds)), some (stD s'), some (lifeD (pD s') (es ++ [pD s]) (ss ++ [actD a])), some (.int k), some (actD a), some (.tup [.str "told", stD s']), some (.tup [.str "told", .non]), o13, none, some (.tab Tb qL)] (by simp [lt, es', dNe_int]) ⟨h3, s', es ++ [pD s], ss ++ [actD a], _, _, _, _, H3, sk', by simp; omega, by simp; omega, rfl⟩
        | bad w c ks vs =>
          rw [er] at ed el
          simp only [dueD, wordD, lifeP] at ed el
          obtain ⟨w1, w2, w3, y, w4, w5, w6⟩ := bad_w er
          refine go_step [some d, some h3, some (.int i), some (.int p), some (deedsD ds), some (tI m), some (netD p (deedsD ds)), some (stD s), some (lifeD (pD s) es ss), some (.int k), some (actD a), some w, o12, o13, none, some (.tab Tb qL)] (by simp [za, ed, w3, share_fz w3]) ?_
          refine go_step [some d, some h3, some (.int i), some (.int p), some (deedsD ds), some (tI m), some (netD p (deedsD ds)), some (stD s), some (lifeD (pD s) es ss), some (.int k), some (actD a), some w, some w, o13, none, some (.tab Tb qL)] (by rw [sSet_ap, el]; simp [w3, share_fz w3]) ?_
          have n1 := dNe_same w1 w2
          have q1 := dEq_str w5 so
          refine go_step [some d, some h3, some (.int i), some (.int p), some (deedsD ds), some (tI m), some (netD p (deedsD ds)), some (stD s), some (lifeD (pD s) es ss), some (.int k), some (actD a), some w, some w, o13, none, some (.tab Tb qL)] (by simp [w4, q1, w6, n1]) ?_
          refine go_step [some d, some h3, some (.int i), some (.int p), some (deedsD ds), some (tI m), some (netD p (deedsD ds)), some (stD s), some (lifeD (pD s) es ss), some (.int k), some (actD a), some w, some w, o13, none, some (.tab Tb qL)] (by simp [w4, q1, w6]) ?_
          have lk := p_like (es := es) (ss := ss) sk
          refine go_step [some d, some h3, some (.int i), some (.int p), some (deedsD ds), some (tI m), some (netD p (deedsD ds)), some (stD s), some (lifeD (pD s) es ss), some (.int k), some (actD a), some w, some w, o13, none, some (.tab Tb qL)] (by simp [lk]) ?_
          have lr := p_Life_ready (es := es) (ss := ss) sk
          have hlm : s.m.length ≤ 1000 := by have := sk.lm; have := sk.p4; omega
          have hld := sk.net.hd
          have lr2 := p_law_ready (ds := s.ds) hlm (by omega)
          have lrl : (readyP s.ds s.m).length ≤ 1000 := by
            unfold readyP
            have := List.length_filter_le (canAt s.ds s.m) (List.range s.ds.length)
            simp at this; omega
          have n2 := dNe_natI true true (readyP s.ds s.m) lrl
          have zr := fzAll_map (fun k : Nat => D.int (k : Int)) (fun _ => rfl) (readyP s.ds s.m)
          refine go_step [some d, some h3, some (.int i), some (.int p), some (deedsD ds), some (tI m), some (netD p (deedsD ds)), some (stD s), some (lifeD (pD s) es ss), some (.int k), some (actD a), some w, some w, o13, none, some (.tab Tb qL)] (by simp [lr, lr2, n2, zr]) ?_
          have lt := p_Life_tokens (s := s) (es := es) (ss := ss)
          have es' : dSum (.lst false (s.m.map .int)) = some (.int s.m.sum) := by simp only [dSum, toI_map]
          exact go_last [some d, some h3, some (.int i), some (.int p), some (deedsD ds), some (tI m), some (netD p (deedsD ds)), some (stD s), some (lifeD (pD s) es ss), some (.int k), some (actD a), some w, some w, o13, none, some (.tab Tb qL)] (by simp [lt, es', dNe_int]) ⟨h3, s, es, ss, _, _, _, _, H3, sk, by omega, by omega, rfl⟩
      clear H2 sk
      rintro σ ⟨h, s, es, ss, o9, o10, o11, o12, H, sk, le, lss, rfl⟩
      have g1 := dEqI_net true p p ds ds
      refine go_step [some d, some h, some (.int i), some (.int p), some (deedsD ds), some (tI m), some (netD p (deedsD ds)), some (stD s), some (lifeD (pD s) es ss), o9, o10, o11, o12, o13, none, some (.tab Tb qL)] (by simp [eni, g1]) ?_
      have f2 := rep_tup 0 p
      have f3 := rep_tup (-1) p
      have f4 := rep_bl p
      have b1 : -1000 ≤ (p : Int) := by omega
      have b2 : (p : Int) ≤ 1000 := by omega
      have l1 : m.length + 1 ≤ 16777216 := by omega
      have sh0 := shareL_map D.int (fun _ => rfl) (List.replicate p 0)
      obtain ⟨x, h4, mx, e4, H4⟩ := p_some (ds := [.non, .tup [], .tup (m.map .int ++ [.int 0]), .lst false ((List.replicate p 0).map .int), tI (List.replicate p (-1)), .tup (List.replicate p (.bl true)), .int 0]) (o := true) H (by simp) (by simp) rfl
      have hx : plainT x ∧ cts p x 1000000 = false := by
        simp only [List.mem_cons, List.not_mem_nil, or_false] at mx
        have pos : ∀ v : D, v ∈ List.replicate p v := fun v => List.mem_replicate.mpr ⟨by omega, rfl⟩
        rcases mx with rfl | rfl | rfl | rfl | rfl | rfl | rfl
        · exact ⟨plainT_of rfl (fun ds e => by cases e), rfl⟩
        · exact ⟨plainT_tup (by simp) (by simp), cts_len (by simp; omega)⟩
        · refine ⟨plainT_tup (fun y hy => ?_) (by simp; omega), cts_len (by simp; omega)⟩
          rcases List.mem_append.mp hy with hy | hy
          · obtain ⟨z, _, rfl⟩ := List.mem_map.mp hy; rfl
          · rw [List.mem_singleton.mp hy]; rfl
        · exact ⟨plainT_of rfl (fun ds e => by cases e), rfl⟩
        · refine ⟨plainT_tI (by simp; omega), cts_item (x := .int (-1)) ?_ rfl⟩
          rw [List.map_replicate]; exact pos _
        · refine ⟨plainT_tup (fun y hy => ?_) (by simp; omega), cts_item (x := .bl true) (pos _) rfl⟩
          rw [(List.mem_replicate.mp hy).2]; rfl
        · exact ⟨plainT_of rfl (fun ds e => by cases e), rfl⟩
      have zx := fz_plain hx.1.1
      refine go_step [some d, some h4, some (.int i), some (.int p), some (deedsD ds), some (tI m), some (netD p (deedsD ds)), some (stD s), some (lifeD (pD s) es ss), o9, o10, o11, o12, some x, none, some (.tab Tb qL)] (by
        simp [b1, b2, f2, f3, f4, l1, H.fz, H4.fz]
        simp only [tI] at e4
        simp only [List.map_replicate] at e4 sh0 ⊢
        simp [sh0, e4, zx, share_fz zx, H4.fz]) ?_
      have el := lam_life (Tb := Tb) (p := p) (ds := ds) hx.1 hx.2 (some d) (some h4) (some (.int i)) (some (.int p)) (some (deedsD ds)) (some (tI m)) (some (stD s)) (some (lifeD (pD s) es ss)) o9 o10 o11 o12 none
      have n1 := dNe_str so_told.2.2.2.2.1 so_told.2.2.2.2.1
      exact go_last [some d, some h4, some (.int i), some (.int p), some (deedsD ds), some (tI m), some (netD p (deedsD ds)), some (stD s), some (lifeD (pD s) es ss), o9, o10, o11, o12, some x, none, some (.tab Tb qL)] (by
        rw [sIf_ap, tVal_ap, eBin_ap, el]
        simp [n1]) ⟨h4, _, _, _, _, _, _, _, _, _, _, _, _, H4, rfl⟩
    · rintro σ ⟨h, o2, o3, o4, o5, o6, o7, o8, o9, o10, o11, o12, o13, H, rfl⟩
      exact go_ret (.bl true) _ (by simp; rfl) rfl
  cases e : b_law Tb (some d :: (List.replicate 14 none ++ [some (.tab Tb qL)])) with
  | rt x s' => rw [e, go_rt] at key; exact ⟨s', by rw [show x = .bl true from key]⟩
  | err => rw [e, go_err] at key; exact key.elim
  | nx s' => rw [e, go_nx] at key; exact key.elim
  | bk s' => rw [e, go_bk] at key; exact key.elim
  | ct s' => rw [e, go_ct] at key; exact key.elim
  | exc a b c s' => rw [e, go_exc] at key; exact key.elim
end Toy
namespace Toy
open PySem PySem.Spec PyProof.Rows L2 DL
theorem law_mk {l : PySem.W.OpenLaw} {w : World} {K : PySem.W.Frag} {h : Heap} {mg : Str → Option Value} {fa : Addr} (X : K.In h) (G : h.Ns mainGlobals mg) (hfa : mg "law" = some (.ref fa)) (own : LamX.OwnTab K fa h)
    {fL : Addr} {c_NetError : Addr} {c_BadNet : Addr} {c_NotReady : Addr} {c_NoDeed : Addr} {c_NoMark : Addr} {c_NoNumber : Addr} {c_TooGreat : Addr} {c_NothingDone : Addr} {c_Net : Addr} {c_Life : Addr} {a_is_integer : Addr} {oc_is_integer kV_is_integer dc_is_integer pm_is_integer cd_is_integer ct_is_integer : Value} {od_is_integer an_is_integer : Option Addr} {sl_is_integer : Array (Option Value)} {a_is_within : Addr} {oc_is_within kV_is_within dc_is_within pm_is_within cd_is_within ct_is_within : Value} {od_is_within an_is_within : Option Addr} {sl_is_within : Array (Option Value)} {a_is_tuple : Addr} {oc_is_tuple kV_is_tuple dc_is_tuple pm_is_tuple cd_is_tuple ct_is_tuple : Value} {od_is_tuple an_is_tuple : Option Addr} {sl_is_tuple : Array (Option Value)} {a_Net_eq : Addr} {oc_Net_eq kV_Net_eq dc_Net_eq pm_Net_eq cd_Net_eq ct_Net_eq : Value} {od_Net_eq an_Net_eq : Option Addr} {sl_Net_eq : Array (Option Value)} {a_is_counts : Addr} {oc_is_counts kV_is_counts dc_is_counts pm_is_counts cd_is_counts ct_is_counts : Value} {od_is_counts an_is_counts : Option Addr} {sl_is_counts : Array (Option Value)} {a_is_mark : Addr} {oc_is_mark kV_is_mark dc_is_mark pm_is_mark cd_is_mark ct_is_mark : Value} {od_is_mark an_is_mark : Option Addr} {sl_is_mark : Array (Option Value)} {a_check_mark : Addr} {oc_check_mark kV_check_mark dc_check_mark pm_check_mark cd_check_mark ct_check_mark : Value} {od_check_mark an_check_mark : Option Addr} {sl_check_mark : Array (Option Value)} {a_check_deed : Addr} {oc_check_deed kV_check_deed dc_check_deed pm_check_deed cd_check_deed ct_check_deed : Value} {od_check_deed an_check_deed : Option Addr} {sl_check_deed : Array (Option Value)} {a_can_do : Addr} {oc_can_do kV_can_do dc_can_do pm_can_do cd_can_do ct_can_do : Value} {od_can_do an_can_do : Option Addr} {sl_can_do : Array (Option Value)} {a_behind : Addr} {oc_behind kV_behind dc_behind pm_behind cd_behind ct_behind : Value} {od_behind an_behind : Option Addr} {sl_behind : Array (Option Value)} {a_ready_of : Addr} {oc_ready_of kV_ready_of dc_ready_of pm_ready_of cd_ready_of ct_ready_of : Value} {od_ready_of an_ready_of : Option Addr} {sl_ready_of : Array (Option Value)} {a_Life_init : Addr} {oc_Life_init kV_Life_init dc_Life_init pm_Life_init cd_Life_init ct_Life_init : Value} {od_Life_init an_Life_init : Option Addr} {sl_Life_init : Array (Option Value)} {a_Life_go_on : Addr} {oc_Life_go_on kV_Life_go_on dc_Life_go_on pm_Life_go_on cd_Life_go_on ct_Life_go_on : Value} {od_Life_go_on an_Life_go_on : Option Addr} {sl_Life_go_on : Array (Option Value)} {a_Life_now : Addr} {oc_Life_now kV_Life_now dc_Life_now pm_Life_now cd_Life_now ct_Life_now : Value} {od_Life_now an_Life_now : Option Addr} {sl_Life_now : Array (Option Value)} {a_Life_do : Addr} {oc_Life_do kV_Life_do dc_Life_do pm_Life_do cd_Life_do ct_Life_do : Value} {od_Life_do an_Life_do : Option Addr} {sl_Life_do : Array (Option Value)} {a_Life_put : Addr} {oc_Life_put kV_Life_put dc_Life_put pm_Life_put cd_Life_put ct_Life_put : Value} {od_Life_put an_Life_put : Option Addr} {sl_Life_put : Array (Option Value)} {a_Life_take : Addr} {oc_Life_take kV_Life_take dc_Life_take pm_Life_take cd_Life_take ct_Life_take : Value} {od_Life_take an_Life_take : Option Addr} {sl_Life_take : Array (Option Value)} {a_Life_ready : Addr} {oc_Life_ready kV_Life_ready dc_Life_ready pm_Life_ready cd_Life_ready ct_Life_ready : Value} {od_Life_ready an_Life_ready : Option Addr} {sl_Life_ready : Array (Option Value)} {a_Life_tokens : Addr} {oc_Life_tokens kV_Life_tokens dc_Life_tokens pm_Life_tokens cd_Life_tokens ct_Life_tokens : Value} {od_Life_tokens an_Life_tokens : Option Addr} {sl_Life_tokens : Array (Option Value)} {a__law_hand : Addr} {oc__law_hand kV__law_hand dc__law_hand pm__law_hand cd__law_hand ct__law_hand : Value} {od__law_hand an__law_hand : Option Addr} {sl__law_hand : Array (Option Value)} {a__law_draw : Addr} {oc__law_draw kV__law_draw dc__law_draw pm__law_draw cd__law_draw ct__law_draw : Value} {od__law_draw an__law_draw : Option Addr} {sl__law_draw : Array (Option Value)} {a__law_some : Addr} {oc__law_some kV__law_some dc__law_some pm__law_some cd__law_some ct__law_some : Value} {od__law_some an__law_some : Option Addr} {sl__law_some : Array (Option Value)} {a__law_is_int : Addr} {oc__law_is_int kV__law_is_int dc__law_is_int pm__law_is_int cd__law_is_int ct__law_is_int : Value} {od__law_is_int an__law_is_int : Option Addr} {sl__law_is_int : Array (Option Value)} {a__law_net : Addr} {oc__law_net kV__law_net dc__law_net pm__law_net cd__law_net ct__law_net : Value} {od__law_net an__law_net : Option Addr} {sl__law_net : Array (Option Value)} {a__law_ready : Addr} {oc__law_ready kV__law_ready dc__law_ready pm__law_ready cd__law_ready ct__law_ready : Value} {od__law_ready an__law_ready : Option Addr} {sl__law_ready : Array (Option Value)} {a__law_is_deed : Addr} {oc__law_is_deed kV__law_is_deed dc__law_is_deed pm__law_is_deed cd__law_is_deed ct__law_is_deed : Value} {od__law_is_deed an__law_is_deed : Option Addr} {sl__law_is_deed : Array (Option Value)} {a__law_due : Addr} {oc__law_due kV__law_due dc__law_due pm__law_due cd__law_due ct__law_due : Value} {od__law_due an__law_due : Option Addr} {sl__law_due : Array (Option Value)} {a__law_act : Addr} {oc__law_act kV__law_act dc__law_act pm__law_act cd__law_act ct__law_act : Value} {od__law_act an__law_act : Option Addr} {sl__law_act : Array (Option Value)} {a__law_is_like : Addr} {oc__law_is_like kV__law_is_like dc__law_is_like pm__law_is_like cd__law_is_like ct__law_is_like : Value} {od__law_is_like an__law_is_like : Option Addr} {sl__law_is_like : Array (Option Value)} {a_Net_init : Addr} {oc_Net_init kV_Net_init dc_Net_init pm_Net_init cd_Net_init ct_Net_init : Value} {od_Net_init an_Net_init : Option Addr} {sl_Net_init : Array (Option Value)} {a_Life_add : Addr} {oc_Life_add kV_Life_add dc_Life_add pm_Life_add cd_Life_add ct_Life_add : Value} {od_Life_add an_Life_add : Option Addr} {sl_Life_add : Array (Option Value)} {a_Life_leave : Addr} {oc_Life_leave kV_Life_leave dc_Life_leave pm_Life_leave cd_Life_leave ct_Life_leave : Value} {od_Life_leave an_Life_leave : Option Addr} {sl_Life_leave : Array (Option Value)} {a__law_do : Addr} {oc__law_do kV__law_do dc__law_do pm__law_do cd__law_do ct__law_do : Value} {od__law_do an__law_do : Option Addr} {sl__law_do : Array (Option Value)} {a__law_word : Addr} {oc__law_word kV__law_word dc__law_word pm__law_word cd__law_word ct__law_word : Value} {od__law_word an__law_word : Option Addr} {sl__law_word : Array (Option Value)} {nm_BadNet qq_BadNet : Str} {N_BadNet xa_BadNet cda_BadNet cc_BadNet : Addr} {bs_BadNet sub_BadNet : List Value} {sn_BadNet : List Str} {ab_BadNet : Bool} {col_BadNet : Option Bool} {dd_BadNet od_BadNet an_BadNet od1_BadNet od2_BadNet : Option Addr} {m0_BadNet m1_BadNet m2_BadNet m3_BadNet m5_BadNet : Option Value} {oc_BadNet dc_BadNet pm_BadNet ct_BadNet kV_BadNet e1_BadNet e2_BadNet : Value} {sl_BadNet sl1_BadNet sl2_BadNet : Array (Option Value)} {vs_BadNet : Array Value} {fl_BadNet : Str} {tf_BadNet : Tok} {nm_NotReady qq_NotReady : Str} {N_NotReady xa_NotReady cda_NotReady cc_NotReady : Addr} {bs_NotReady sub_NotReady : List Value} {sn_NotReady : List Str} {ab_NotReady : Bool} {col_NotReady : Option Bool} {dd_NotReady od_NotReady an_NotReady od1_NotReady od2_NotReady : Option Addr} {m0_NotReady m1_NotReady m2_NotReady m3_NotReady m5_NotReady : Option Value} {oc_NotReady dc_NotReady pm_NotReady ct_NotReady kV_NotReady e1_NotReady e2_NotReady : Value} {sl_NotReady sl1_NotReady sl2_NotReady : Array (Option Value)} {vs_NotReady : Array Value} {fl_NotReady : Str} {tf_NotReady : Tok} {nm_NoDeed qq_NoDeed : Str} {N_NoDeed xa_NoDeed cda_NoDeed cc_NoDeed : Addr} {bs_NoDeed sub_NoDeed : List Value} {sn_NoDeed : List Str} {ab_NoDeed : Bool} {col_NoDeed : Option Bool} {dd_NoDeed od_NoDeed an_NoDeed od1_NoDeed od2_NoDeed : Option Addr} {m0_NoDeed m1_NoDeed m2_NoDeed m3_NoDeed m5_NoDeed : Option Value} {oc_NoDeed dc_NoDeed pm_NoDeed ct_NoDeed kV_NoDeed e1_NoDeed e2_NoDeed : Value} {sl_NoDeed sl1_NoDeed sl2_NoDeed : Array (Option Value)} {vs_NoDeed : Array Value} {fl_NoDeed : Str} {tf_NoDeed : Tok} {nm_NoMark qq_NoMark : Str} {N_NoMark xa_NoMark cda_NoMark cc_NoMark : Addr} {bs_NoMark sub_NoMark : List Value} {sn_NoMark : List Str} {ab_NoMark : Bool} {col_NoMark : Option Bool} {dd_NoMark od_NoMark an_NoMark od1_NoMark od2_NoMark : Option Addr} {m0_NoMark m1_NoMark m2_NoMark m3_NoMark m5_NoMark : Option Value} {oc_NoMark dc_NoMark pm_NoMark ct_NoMark kV_NoMark e1_NoMark e2_NoMark : Value} {sl_NoMark sl1_NoMark sl2_NoMark : Array (Option Value)} {vs_NoMark : Array Value} {fl_NoMark : Str} {tf_NoMark : Tok} {nm_NoNumber qq_NoNumber : Str} {N_NoNumber xa_NoNumber cda_NoNumber cc_NoNumber : Addr} {bs_NoNumber sub_NoNumber : List Value} {sn_NoNumber : List Str} {ab_NoNumber : Bool} {col_NoNumber : Option Bool} {dd_NoNumber od_NoNumber an_NoNumber od1_NoNumber od2_NoNumber : Option Addr} {m0_NoNumber m1_NoNumber m2_NoNumber m3_NoNumber m5_NoNumber : Option Value} {oc_NoNumber dc_NoNumber pm_NoNumber ct_NoNumber kV_NoNumber e1_NoNumber e2_NoNumber : Value} {sl_NoNumber sl1_NoNumber sl2_NoNumber : Array (Option Value)} {vs_NoNumber : Array Value} {fl_NoNumber : Str} {tf_NoNumber : Tok} {nm_TooGreat qq_TooGreat : Str} {N_TooGreat xa_TooGreat cda_TooGreat cc_TooGreat : Addr} {bs_TooGreat sub_TooGreat : List Value} {sn_TooGreat : List Str} {ab_TooGreat : Bool} {col_TooGreat : Option Bool} {dd_TooGreat od_TooGreat an_TooGreat od1_TooGreat od2_TooGreat : Option Addr} {m0_TooGreat m1_TooGreat m2_TooGreat m3_TooGreat m5_TooGreat : Option Value} {oc_TooGreat dc_TooGreat pm_TooGreat ct_TooGreat kV_TooGreat e1_TooGreat e2_TooGreat : Value} {sl_TooGreat sl1_TooGreat sl2_TooGreat : Array (Option Value)} {vs_TooGreat : Array Value} {fl_TooGreat : Str} {tf_TooGreat : Tok} {nm_NothingDone qq_NothingDone : Str} {N_NothingDone xa_NothingDone cda_NothingDone cc_NothingDone : Addr} {bs_NothingDone sub_NothingDone : List Value} {sn_NothingDone : List Str} {ab_NothingDone : Bool} {col_NothingDone : Option Bool} {dd_NothingDone od_NothingDone an_NothingDone od1_NothingDone od2_NothingDone : Option Addr} {m0_NothingDone m1_NothingDone m2_NothingDone m3_NothingDone m5_NothingDone : Option Value} {oc_NothingDone dc_NothingDone pm_NothingDone ct_NothingDone kV_NothingDone e1_NothingDone e2_NothingDone : Value} {sl_NothingDone sl1_NothingDone sl2_NothingDone : Array (Option Value)} {vs_NothingDone : Array Value} {fl_NothingDone : Str} {tf_NothingDone : Tok} {k_MOST_PLACES : Tok} {k_MOST_DEEDS : Tok} {k_MOST_TAKEN : Tok} {k_MOST_TOKENS : Tok} {cdL TbL : Addr} {ocL kVL dcL pmL ctL : Value} {odL anL ddL : Option Addr} {slL slC : Array (Option Value)} {vsL : Array Value} {flL : Str} {tgL ttL tfL : Tok} {flagsL textL : Int} {inFL : Bool}
    (aL : PySem.W.nsIn K mainGlobals "law" = some (some (.ref fL)))
    (aC_NetError : PySem.W.nsIn K mainGlobals "NetError" = some (some (.ref c_NetError)))
    (aC_BadNet : PySem.W.nsIn K mainGlobals "BadNet" = some (some (.ref c_BadNet)))
    (aC_NotReady : PySem.W.nsIn K mainGlobals "NotReady" = some (some (.ref c_NotReady)))
    (aC_NoDeed : PySem.W.nsIn K mainGlobals "NoDeed" = some (some (.ref c_NoDeed)))
    (aC_NoMark : PySem.W.nsIn K mainGlobals "NoMark" = some (some (.ref c_NoMark)))
    (aC_NoNumber : PySem.W.nsIn K mainGlobals "NoNumber" = some (some (.ref c_NoNumber)))
    (aC_TooGreat : PySem.W.nsIn K mainGlobals "TooGreat" = some (some (.ref c_TooGreat)))
    (aC_NothingDone : PySem.W.nsIn K mainGlobals "NothingDone" = some (some (.ref c_NothingDone)))
    (aC_Net : PySem.W.nsIn K mainGlobals "Net" = some (some (.ref c_Net)))
    (aC_Life : PySem.W.nsIn K mainGlobals "Life" = some (some (.ref c_Life)))
    (hnG : PySem.W.specialIn K (.builtin "object.__class__") "__get__" = some (some (.builtin "getset_descriptor.__get__")))
    (htG : PySem.W.takesIn K (.builtin "object.__class__") = some true)
    (a1_is_integer : PySem.W.nsIn K mainGlobals "is_integer" = some (some (.ref a_is_integer)))
    (l1_is_integer : K.lookup a_is_integer = some ⟨oc_is_integer, od_is_integer, .func (PySem.W.fnOf "is_integer" "is_integer" (defArgs s_is_integer) (defBody s_is_integer) (defScope s_is_integer) .none kV_is_integer dc_is_integer pm_is_integer an_is_integer cd_is_integer ct_is_integer), sl_is_integer⟩)
    (c1_is_integer : PySem.W.codeIn K cd_is_integer "is_integer" = true)
    (k1_is_integer : PySem.W.keepIn K (.ref a_is_integer) = true)
    (a1_is_within : PySem.W.nsIn K mainGlobals "is_within" = some (some (.ref a_is_within)))
    (l1_is_within : K.lookup a_is_within = some ⟨oc_is_within, od_is_within, .func (PySem.W.fnOf "is_within" "is_within" (defArgs s_is_within) (defBody s_is_within) (defScope s_is_within) .none kV_is_within dc_is_within pm_is_within an_is_within cd_is_within ct_is_within), sl_is_within⟩)
    (c1_is_within : PySem.W.codeIn K cd_is_within "is_within" = true)
    (k1_is_within : PySem.W.keepIn K (.ref a_is_within) = true)
    (a1_is_tuple : PySem.W.nsIn K mainGlobals "is_tuple" = some (some (.ref a_is_tuple)))
    (l1_is_tuple : K.lookup a_is_tuple = some ⟨oc_is_tuple, od_is_tuple, .func (PySem.W.fnOf "is_tuple" "is_tuple" (defArgs s_is_tuple) (defBody s_is_tuple) (defScope s_is_tuple) .none kV_is_tuple dc_is_tuple pm_is_tuple an_is_tuple cd_is_tuple ct_is_tuple), sl_is_tuple⟩)
    (c1_is_tuple : PySem.W.codeIn K cd_is_tuple "is_tuple" = true)
    (k1_is_tuple : PySem.W.keepIn K (.ref a_is_tuple) = true)
    (a1_Net_eq : PySem.W.findIn K (.ref c_Net) "__eq__" = some (some (.ref a_Net_eq)))
    (i1_Net_eq : PySem.W.isFn K (.ref a_Net_eq) = true)
    (l1_Net_eq : K.lookup a_Net_eq = some ⟨oc_Net_eq, od_Net_eq, .func (PySem.W.fnOf "__eq__" "Net.__eq__" (defArgs s_Net_eq) (defBody s_Net_eq) (defScope s_Net_eq) .none kV_Net_eq dc_Net_eq pm_Net_eq an_Net_eq cd_Net_eq ct_Net_eq), sl_Net_eq⟩)
    (c1_Net_eq : PySem.W.codeIn K cd_Net_eq "Net.__eq__" = true)
    (k1_Net_eq : PySem.W.keepIn K (.ref a_Net_eq) = true)
    (a1_is_counts : PySem.W.nsIn K mainGlobals "is_counts" = some (some (.ref a_is_counts)))
    (l1_is_counts : K.lookup a_is_counts = some ⟨oc_is_counts, od_is_counts, .func (PySem.W.fnOf "is_counts" "is_counts" (defArgs s_is_counts) (defBody s_is_counts) (defScope s_is_counts) .none kV_is_counts dc_is_counts pm_is_counts an_is_counts cd_is_counts ct_is_counts), sl_is_counts⟩)
    (c1_is_counts : PySem.W.codeIn K cd_is_counts "is_counts" = true)
    (k1_is_counts : PySem.W.keepIn K (.ref a_is_counts) = true)
    (a1_is_mark : PySem.W.nsIn K mainGlobals "is_mark" = some (some (.ref a_is_mark)))
    (l1_is_mark : K.lookup a_is_mark = some ⟨oc_is_mark, od_is_mark, .func (PySem.W.fnOf "is_mark" "is_mark" (defArgs s_is_mark) (defBody s_is_mark) (defScope s_is_mark) .none kV_is_mark dc_is_mark pm_is_mark an_is_mark cd_is_mark ct_is_mark), sl_is_mark⟩)
    (c1_is_mark : PySem.W.codeIn K cd_is_mark "is_mark" = true)
    (k1_is_mark : PySem.W.keepIn K (.ref a_is_mark) = true)
    (a1_check_mark : PySem.W.nsIn K mainGlobals "check_mark" = some (some (.ref a_check_mark)))
    (l1_check_mark : K.lookup a_check_mark = some ⟨oc_check_mark, od_check_mark, .func (PySem.W.fnOf "check_mark" "check_mark" (defArgs s_check_mark) (defBody s_check_mark) (defScope s_check_mark) .none kV_check_mark dc_check_mark pm_check_mark an_check_mark cd_check_mark ct_check_mark), sl_check_mark⟩)
    (c1_check_mark : PySem.W.codeIn K cd_check_mark "check_mark" = true)
    (k1_check_mark : PySem.W.keepIn K (.ref a_check_mark) = true)
    (a1_check_deed : PySem.W.nsIn K mainGlobals "check_deed" = some (some (.ref a_check_deed)))
    (l1_check_deed : K.lookup a_check_deed = some ⟨oc_check_deed, od_check_deed, .func (PySem.W.fnOf "check_deed" "check_deed" (defArgs s_check_deed) (defBody s_check_deed) (defScope s_check_deed) .none kV_check_deed dc_check_deed pm_check_deed an_check_deed cd_check_deed ct_check_deed), sl_check_deed⟩)
    (c1_check_deed : PySem.W.codeIn K cd_check_deed "check_deed" = true)
    (k1_check_deed : PySem.W.keepIn K (.ref a_check_deed) = true)
    (a1_can_do : PySem.W.nsIn K mainGlobals "can_do" = some (some (.ref a_can_do)))
    (l1_can_do : K.lookup a_can_do = some ⟨oc_can_do, od_can_do, .func (PySem.W.fnOf "can_do" "can_do" (defArgs s_can_do) (defBody s_can_do) (defScope s_can_do) .none kV_can_do dc_can_do pm_can_do an_can_do cd_can_do ct_can_do), sl_can_do⟩)
    (c1_can_do : PySem.W.codeIn K cd_can_do "can_do" = true)
    (k1_can_do : PySem.W.keepIn K (.ref a_can_do) = true)
    (a1_behind : PySem.W.nsIn K mainGlobals "behind" = some (some (.ref a_behind)))
    (l1_behind : K.lookup a_behind = some ⟨oc_behind, od_behind, .func (PySem.W.fnOf "behind" "behind" (defArgs s_behind) (defBody s_behind) (defScope s_behind) .none kV_behind dc_behind pm_behind an_behind cd_behind ct_behind), sl_behind⟩)
    (c1_behind : PySem.W.codeIn K cd_behind "behind" = true)
    (k1_behind : PySem.W.keepIn K (.ref a_behind) = true)
    (a1_ready_of : PySem.W.nsIn K mainGlobals "ready_of" = some (some (.ref a_ready_of)))
    (l1_ready_of : K.lookup a_ready_of = some ⟨oc_ready_of, od_ready_of, .func (PySem.W.fnOf "ready_of" "ready_of" (defArgs s_ready_of) (defBody s_ready_of) (defScope s_ready_of) .none kV_ready_of dc_ready_of pm_ready_of an_ready_of cd_ready_of ct_ready_of), sl_ready_of⟩)
    (c1_ready_of : PySem.W.codeIn K cd_ready_of "ready_of" = true)
    (k1_ready_of : PySem.W.keepIn K (.ref a_ready_of) = true)
    (a1_Life_init : PySem.W.findIn K (.ref c_Life) "__init__" = some (some (.ref a_Life_init)))
    (i1_Life_init : PySem.W.isFn K (.ref a_Life_init) = true)
    (l1_Life_init : K.lookup a_Life_init = some ⟨oc_Life_init, od_Life_init, .func (PySem.W.fnOf "__init__" "Life.__init__" (defArgs s_Life_init) (defBody s_Life_init) (defScope s_Life_init) .none kV_Life_init dc_Life_init pm_Life_init an_Life_init cd_Life_init ct_Life_init), sl_Life_init⟩)
    (c1_Life_init : PySem.W.codeIn K cd_Life_init "Life.__init__" = true)
    (k1_Life_init : PySem.W.keepIn K (.ref a_Life_init) = true)
    (a1_Life_go_on : PySem.W.findIn K (.ref c_Life) "go_on" = some (some (.ref a_Life_go_on)))
    (i1_Life_go_on : PySem.W.isFn K (.ref a_Life_go_on) = true)
    (l1_Life_go_on : K.lookup a_Life_go_on = some ⟨oc_Life_go_on, od_Life_go_on, .func (PySem.W.fnOf "go_on" "Life.go_on" (defArgs s_Life_go_on) (defBody s_Life_go_on) (defScope s_Life_go_on) .none kV_Life_go_on dc_Life_go_on pm_Life_go_on an_Life_go_on cd_Life_go_on ct_Life_go_on), sl_Life_go_on⟩)
    (c1_Life_go_on : PySem.W.codeIn K cd_Life_go_on "Life.go_on" = true)
    (k1_Life_go_on : PySem.W.keepIn K (.ref a_Life_go_on) = true)
    (a1_Life_now : PySem.W.findIn K (.ref c_Life) "now" = some (some (.ref a_Life_now)))
    (i1_Life_now : PySem.W.isFn K (.ref a_Life_now) = true)
    (l1_Life_now : K.lookup a_Life_now = some ⟨oc_Life_now, od_Life_now, .func (PySem.W.fnOf "now" "Life.now" (defArgs s_Life_now) (defBody s_Life_now) (defScope s_Life_now) .none kV_Life_now dc_Life_now pm_Life_now an_Life_now cd_Life_now ct_Life_now), sl_Life_now⟩)
    (c1_Life_now : PySem.W.codeIn K cd_Life_now "Life.now" = true)
    (k1_Life_now : PySem.W.keepIn K (.ref a_Life_now) = true)
    (a1_Life_do : PySem.W.findIn K (.ref c_Life) "do" = some (some (.ref a_Life_do)))
    (i1_Life_do : PySem.W.isFn K (.ref a_Life_do) = true)
    (l1_Life_do : K.lookup a_Life_do = some ⟨oc_Life_do, od_Life_do, .func (PySem.W.fnOf "do" "Life.do" (defArgs s_Life_do) (defBody s_Life_do) (defScope s_Life_do) .none kV_Life_do dc_Life_do pm_Life_do an_Life_do cd_Life_do ct_Life_do), sl_Life_do⟩)
    (c1_Life_do : PySem.W.codeIn K cd_Life_do "Life.do" = true)
    (k1_Life_do : PySem.W.keepIn K (.ref a_Life_do) = true)
    (a1_Life_put : PySem.W.findIn K (.ref c_Life) "put" = some (some (.ref a_Life_put)))
    (i1_Life_put : PySem.W.isFn K (.ref a_Life_put) = true)
    (l1_Life_put : K.lookup a_Life_put = some ⟨oc_Life_put, od_Life_put, .func (PySem.W.fnOf "put" "Life.put" (defArgs s_Life_put) (defBody s_Life_put) (defScope s_Life_put) .none kV_Life_put dc_Life_put pm_Life_put an_Life_put cd_Life_put ct_Life_put), sl_Life_put⟩)
    (c1_Life_put : PySem.W.codeIn K cd_Life_put "Life.put" = true)
    (k1_Life_put : PySem.W.keepIn K (.ref a_Life_put) = true)
    (a1_Life_take : PySem.W.findIn K (.ref c_Life) "take" = some (some (.ref a_Life_take)))
    (i1_Life_take : PySem.W.isFn K (.ref a_Life_take) = true)
    (l1_Life_take : K.lookup a_Life_take = some ⟨oc_Life_take, od_Life_take, .func (PySem.W.fnOf "take" "Life.take" (defArgs s_Life_take) (defBody s_Life_take) (defScope s_Life_take) .none kV_Life_take dc_Life_take pm_Life_take an_Life_take cd_Life_take ct_Life_take), sl_Life_take⟩)
    (c1_Life_take : PySem.W.codeIn K cd_Life_take "Life.take" = true)
    (k1_Life_take : PySem.W.keepIn K (.ref a_Life_take) = true)
    (a1_Life_ready : PySem.W.findIn K (.ref c_Life) "ready" = some (some (.ref a_Life_ready)))
    (i1_Life_ready : PySem.W.isFn K (.ref a_Life_ready) = true)
    (l1_Life_ready : K.lookup a_Life_ready = some ⟨oc_Life_ready, od_Life_ready, .func (PySem.W.fnOf "ready" "Life.ready" (defArgs s_Life_ready) (defBody s_Life_ready) (defScope s_Life_ready) .none kV_Life_ready dc_Life_ready pm_Life_ready an_Life_ready cd_Life_ready ct_Life_ready), sl_Life_ready⟩)
    (c1_Life_ready : PySem.W.codeIn K cd_Life_ready "Life.ready" = true)
    (k1_Life_ready : PySem.W.keepIn K (.ref a_Life_ready) = true)
    (a1_Life_tokens : PySem.W.findIn K (.ref c_Life) "tokens" = some (some (.ref a_Life_tokens)))
    (i1_Life_tokens : PySem.W.isFn K (.ref a_Life_tokens) = true)
    (l1_Life_tokens : K.lookup a_Life_tokens = some ⟨oc_Life_tokens, od_Life_tokens, .func (PySem.W.fnOf "tokens" "Life.tokens" (defArgs s_Life_tokens) (defBody s_Life_tokens) (defScope s_Life_tokens) .none kV_Life_tokens dc_Life_tokens pm_Life_tokens an_Life_tokens cd_Life_tokens ct_Life_tokens), sl_Life_tokens⟩)
    (c1_Life_tokens : PySem.W.codeIn K cd_Life_tokens "Life.tokens" = true)
    (k1_Life_tokens : PySem.W.keepIn K (.ref a_Life_tokens) = true)
    (a1__law_hand : PySem.W.nsIn K mainGlobals "_law_hand" = some (some (.ref a__law_hand)))
    (l1__law_hand : K.lookup a__law_hand = some ⟨oc__law_hand, od__law_hand, .func (PySem.W.fnOf "_law_hand" "_law_hand" (defArgs s__law_hand) (defBody s__law_hand) (defScope s__law_hand) .none kV__law_hand dc__law_hand pm__law_hand an__law_hand cd__law_hand ct__law_hand), sl__law_hand⟩)
    (c1__law_hand : PySem.W.codeIn K cd__law_hand "_law_hand" = true)
    (k1__law_hand : PySem.W.keepIn K (.ref a__law_hand) = true)
    (a1__law_draw : PySem.W.nsIn K mainGlobals "_law_draw" = some (some (.ref a__law_draw)))
    (l1__law_draw : K.lookup a__law_draw = some ⟨oc__law_draw, od__law_draw, .func (PySem.W.fnOf "_law_draw" "_law_draw" (defArgs s__law_draw) (defBody s__law_draw) (defScope s__law_draw) .none kV__law_draw dc__law_draw pm__law_draw an__law_draw cd__law_draw ct__law_draw), sl__law_draw⟩)
    (c1__law_draw : PySem.W.codeIn K cd__law_draw "_law_draw" = true)
    (k1__law_draw : PySem.W.keepIn K (.ref a__law_draw) = true)
    (a1__law_some : PySem.W.nsIn K mainGlobals "_law_some" = some (some (.ref a__law_some)))
    (l1__law_some : K.lookup a__law_some = some ⟨oc__law_some, od__law_some, .func (PySem.W.fnOf "_law_some" "_law_some" (defArgs s__law_some) (defBody s__law_some) (defScope s__law_some) .none kV__law_some dc__law_some pm__law_some an__law_some cd__law_some ct__law_some), sl__law_some⟩)
    (c1__law_some : PySem.W.codeIn K cd__law_some "_law_some" = true)
    (k1__law_some : PySem.W.keepIn K (.ref a__law_some) = true)
    (a1__law_is_int : PySem.W.nsIn K mainGlobals "_law_is_int" = some (some (.ref a__law_is_int)))
    (l1__law_is_int : K.lookup a__law_is_int = some ⟨oc__law_is_int, od__law_is_int, .func (PySem.W.fnOf "_law_is_int" "_law_is_int" (defArgs s__law_is_int) (defBody s__law_is_int) (defScope s__law_is_int) .none kV__law_is_int dc__law_is_int pm__law_is_int an__law_is_int cd__law_is_int ct__law_is_int), sl__law_is_int⟩)
    (c1__law_is_int : PySem.W.codeIn K cd__law_is_int "_law_is_int" = true)
    (k1__law_is_int : PySem.W.keepIn K (.ref a__law_is_int) = true)
    (a1__law_net : PySem.W.nsIn K mainGlobals "_law_net" = some (some (.ref a__law_net)))
    (l1__law_net : K.lookup a__law_net = some ⟨oc__law_net, od__law_net, .func (PySem.W.fnOf "_law_net" "_law_net" (defArgs s__law_net) (defBody s__law_net) (defScope s__law_net) .none kV__law_net dc__law_net pm__law_net an__law_net cd__law_net ct__law_net), sl__law_net⟩)
    (c1__law_net : PySem.W.codeIn K cd__law_net "_law_net" = true)
    (k1__law_net : PySem.W.keepIn K (.ref a__law_net) = true)
    (a1__law_ready : PySem.W.nsIn K mainGlobals "_law_ready" = some (some (.ref a__law_ready)))
    (l1__law_ready : K.lookup a__law_ready = some ⟨oc__law_ready, od__law_ready, .func (PySem.W.fnOf "_law_ready" "_law_ready" (defArgs s__law_ready) (defBody s__law_ready) (defScope s__law_ready) .none kV__law_ready dc__law_ready pm__law_ready an__law_ready cd__law_ready ct__law_ready), sl__law_ready⟩)
    (c1__law_ready : PySem.W.codeIn K cd__law_ready "_law_ready" = true)
    (k1__law_ready : PySem.W.keepIn K (.ref a__law_ready) = true)
    (a1__law_is_deed : PySem.W.nsIn K mainGlobals "_law_is_deed" = some (some (.ref a__law_is_deed)))
    (l1__law_is_deed : K.lookup a__law_is_deed = some ⟨oc__law_is_deed, od__law_is_deed, .func (PySem.W.fnOf "_law_is_deed" "_law_is_deed" (defArgs s__law_is_deed) (defBody s__law_is_deed) (defScope s__law_is_deed) .none kV__law_is_deed dc__law_is_deed pm__law_is_deed an__law_is_deed cd__law_is_deed ct__law_is_deed), sl__law_is_deed⟩)
    (c1__law_is_deed : PySem.W.codeIn K cd__law_is_deed "_law_is_deed" = true)
    (k1__law_is_deed : PySem.W.keepIn K (.ref a__law_is_deed) = true)
    (a1__law_due : PySem.W.nsIn K mainGlobals "_law_due" = some (some (.ref a__law_due)))
    (l1__law_due : K.lookup a__law_due = some ⟨oc__law_due, od__law_due, .func (PySem.W.fnOf "_law_due" "_law_due" (defArgs s__law_due) (defBody s__law_due) (defScope s__law_due) .none kV__law_due dc__law_due pm__law_due an__law_due cd__law_due ct__law_due), sl__law_due⟩)
    (c1__law_due : PySem.W.codeIn K cd__law_due "_law_due" = true)
    (k1__law_due : PySem.W.keepIn K (.ref a__law_due) = true)
    (a1__law_act : PySem.W.nsIn K mainGlobals "_law_act" = some (some (.ref a__law_act)))
    (l1__law_act : K.lookup a__law_act = some ⟨oc__law_act, od__law_act, .func (PySem.W.fnOf "_law_act" "_law_act" (defArgs s__law_act) (defBody s__law_act) (defScope s__law_act) .none kV__law_act dc__law_act pm__law_act an__law_act cd__law_act ct__law_act), sl__law_act⟩)
    (c1__law_act : PySem.W.codeIn K cd__law_act "_law_act" = true)
    (k1__law_act : PySem.W.keepIn K (.ref a__law_act) = true)
    (a1__law_is_like : PySem.W.nsIn K mainGlobals "_law_is_like" = some (some (.ref a__law_is_like)))
    (l1__law_is_like : K.lookup a__law_is_like = some ⟨oc__law_is_like, od__law_is_like, .func (PySem.W.fnOf "_law_is_like" "_law_is_like" (defArgs s__law_is_like) (defBody s__law_is_like) (defScope s__law_is_like) .none kV__law_is_like dc__law_is_like pm__law_is_like an__law_is_like cd__law_is_like ct__law_is_like), sl__law_is_like⟩)
    (c1__law_is_like : PySem.W.codeIn K cd__law_is_like "_law_is_like" = true)
    (k1__law_is_like : PySem.W.keepIn K (.ref a__law_is_like) = true)
    (a1_Net_init : PySem.W.findIn K (.ref c_Net) "__init__" = some (some (.ref a_Net_init)))
    (i1_Net_init : PySem.W.isFn K (.ref a_Net_init) = true)
    (l1_Net_init : K.lookup a_Net_init = some ⟨oc_Net_init, od_Net_init, .func (PySem.W.fnOf "__init__" "Net.__init__" (defArgs s_Net_init) (defBody s_Net_init) (defScope s_Net_init) .none kV_Net_init dc_Net_init pm_Net_init an_Net_init cd_Net_init ct_Net_init), sl_Net_init⟩)
    (c1_Net_init : PySem.W.codeIn K cd_Net_init "Net.__init__" = true)
    (k1_Net_init : PySem.W.keepIn K (.ref a_Net_init) = true)
    (a1_Life_add : PySem.W.findIn K (.ref c_Life) "add" = some (some (.ref a_Life_add)))
    (i1_Life_add : PySem.W.isFn K (.ref a_Life_add) = true)
    (l1_Life_add : K.lookup a_Life_add = some ⟨oc_Life_add, od_Life_add, .func (PySem.W.fnOf "add" "Life.add" (defArgs s_Life_add) (defBody s_Life_add) (defScope s_Life_add) .none kV_Life_add dc_Life_add pm_Life_add an_Life_add cd_Life_add ct_Life_add), sl_Life_add⟩)
    (c1_Life_add : PySem.W.codeIn K cd_Life_add "Life.add" = true)
    (k1_Life_add : PySem.W.keepIn K (.ref a_Life_add) = true)
    (a1_Life_leave : PySem.W.findIn K (.ref c_Life) "leave" = some (some (.ref a_Life_leave)))
    (i1_Life_leave : PySem.W.isFn K (.ref a_Life_leave) = true)
    (l1_Life_leave : K.lookup a_Life_leave = some ⟨oc_Life_leave, od_Life_leave, .func (PySem.W.fnOf "leave" "Life.leave" (defArgs s_Life_leave) (defBody s_Life_leave) (defScope s_Life_leave) .none kV_Life_leave dc_Life_leave pm_Life_leave an_Life_leave cd_Life_leave ct_Life_leave), sl_Life_leave⟩)
    (c1_Life_leave : PySem.W.codeIn K cd_Life_leave "Life.leave" = true)
    (k1_Life_leave : PySem.W.keepIn K (.ref a_Life_leave) = true)
    (a1__law_do : PySem.W.nsIn K mainGlobals "_law_do" = some (some (.ref a__law_do)))
    (l1__law_do : K.lookup a__law_do = some ⟨oc__law_do, od__law_do, .func (PySem.W.fnOf "_law_do" "_law_do" (defArgs s__law_do) (defBody s__law_do) (defScope s__law_do) .none kV__law_do dc__law_do pm__law_do an__law_do cd__law_do ct__law_do), sl__law_do⟩)
    (c1__law_do : PySem.W.codeIn K cd__law_do "_law_do" = true)
    (k1__law_do : PySem.W.keepIn K (.ref a__law_do) = true)
    (a1__law_word : PySem.W.nsIn K mainGlobals "_law_word" = some (some (.ref a__law_word)))
    (l1__law_word : K.lookup a__law_word = some ⟨oc__law_word, od__law_word, .func (PySem.W.fnOf "_law_word" "_law_word" (defArgs s__law_word) (defBody s__law_word) (defScope s__law_word) .none kV__law_word dc__law_word pm__law_word an__law_word cd__law_word ct__law_word), sl__law_word⟩)
    (c1__law_word : PySem.W.codeIn K cd__law_word "_law_word" = true)
    (k1__law_word : PySem.W.keepIn K (.ref a__law_word) = true)
    (exC_NetError : PySem.W.subIn K (.ref c_NetError) (.type "BaseException") = some true)
    (tyC_NetError : PySem.W.typeIn K (.ref c_NetError) = some (.type "type"))
    (hd_NetError : PySem.W.hasDictIn K c_NetError = true)
    (ga_NetError : PySem.W.findIn K (.ref c_NetError) "__getattribute__" = some (some (.builtin "BaseException.__getattribute__")))
    (gg_NetError : PySem.W.findIn K (.ref c_NetError) "__getattr__" = some none)
    (ha_NetError : PySem.W.findIn K (.ref c_NetError) "__class__" = some (some (.builtin "object.__class__")))
    (hm_NetError : PySem.W.mroIn K c_NetError (.type "object") = some true)
    (exC_BadNet : PySem.W.subIn K (.ref c_BadNet) (.type "BaseException") = some true)
    (tyC_BadNet : PySem.W.typeIn K (.ref c_BadNet) = some (.type "type"))
    (hd_BadNet : PySem.W.hasDictIn K c_BadNet = true)
    (ga_BadNet : PySem.W.findIn K (.ref c_BadNet) "__getattribute__" = some (some (.builtin "BaseException.__getattribute__")))
    (gg_BadNet : PySem.W.findIn K (.ref c_BadNet) "__getattr__" = some none)
    (ha_BadNet : PySem.W.findIn K (.ref c_BadNet) "__class__" = some (some (.builtin "object.__class__")))
    (hm_BadNet : PySem.W.mroIn K c_BadNet (.type "object") = some true)
    (xL_BadNet : K.lookup c_BadNet = some (excClassObj nm_BadNet qq_BadNet c_BadNet N_BadNet bs_BadNet [.ref c_NetError, .type "ValueError", .type "Exception", .type "BaseException", .type "object"] true sn_BadNet sub_BadNet ab_BadNet col_BadNet dd_BadNet m0_BadNet m1_BadNet m2_BadNet m3_BadNet m5_BadNet "ValueError.__new__"))
    (sa_BadNet : PySem.W.findIn K (.ref c_BadNet) "__setattr__" = some (some (.builtin "object.__setattr__")))
    (kC_BadNet : PySem.W.keepIn K (.ref c_BadNet) = true)
    (iC_BadNet : PySem.W.findIn K (.ref c_BadNet) "__init__" = some (some (.ref xa_BadNet)))
    (tI_BadNet : PySem.W.typeIn K (.ref xa_BadNet) = some (.type "function"))
    (sup_BadNet : PySem.W.ks_superIn K c_BadNet c_BadNet "__init__" = some (some (.builtin "ValueError.__init__")))
    (sb_BadNet : PySem.W.subIn K (.ref c_BadNet) (.type "ValueError") = some true)
    (mr_BadNet : PySem.W.mroIn K c_BadNet (.ref c_BadNet) = some true)
    (op_BadNet : PySem.W.nsIn K cStatics "thirdparty.any" = some none)
    (lX_BadNet : K.lookup xa_BadNet = some ⟨oc_BadNet, od_BadNet, .func (PySem.W.ksFn "__init__" "BadNet.__init__" (defArgs s_BadNet_init) (defBody s_BadNet_init) (defScope s_BadNet_init) .none kV_BadNet dc_BadNet pm_BadNet an_BadNet (.ref cda_BadNet) ct_BadNet cc_BadNet), sl_BadNet⟩)
    (cX_BadNet : PySem.W.codeIn K (.ref cda_BadNet) "BadNet.__init__" = true)
    (l2_BadNet : K.lookup cda_BadNet = some ⟨e1_BadNet, od1_BadNet, .fields vs_BadNet, sl1_BadNet⟩)
    (v2_BadNet : vs_BadNet[2]? = some (.str fl_BadNet tf_BadNet))
    (ff_BadNet : ((l.prog.main.file : Str) == fl_BadNet) = true)
    (l3_BadNet : K.lookup cc_BadNet = some ⟨e2_BadNet, od2_BadNet, .cell (some (.ref c_BadNet)), sl2_BadNet⟩)
    (xn_BadNet : PySem.W.findIn K (.ref c_BadNet) "part" = some none)
    (exC_NotReady : PySem.W.subIn K (.ref c_NotReady) (.type "BaseException") = some true)
    (tyC_NotReady : PySem.W.typeIn K (.ref c_NotReady) = some (.type "type"))
    (hd_NotReady : PySem.W.hasDictIn K c_NotReady = true)
    (ga_NotReady : PySem.W.findIn K (.ref c_NotReady) "__getattribute__" = some (some (.builtin "BaseException.__getattribute__")))
    (gg_NotReady : PySem.W.findIn K (.ref c_NotReady) "__getattr__" = some none)
    (ha_NotReady : PySem.W.findIn K (.ref c_NotReady) "__class__" = some (some (.builtin "object.__class__")))
    (hm_NotReady : PySem.W.mroIn K c_NotReady (.type "object") = some true)
    (xL_NotReady : K.lookup c_NotReady = some (excClassObj nm_NotReady qq_NotReady c_NotReady N_NotReady bs_NotReady [.ref c_NetError, .type "ValueError", .type "Exception", .type "BaseException", .type "object"] true sn_NotReady sub_NotReady ab_NotReady col_NotReady dd_NotReady m0_NotReady m1_NotReady m2_NotReady m3_NotReady m5_NotReady "ValueError.__new__"))
    (sa_NotReady : PySem.W.findIn K (.ref c_NotReady) "__setattr__" = some (some (.builtin "object.__setattr__")))
    (kC_NotReady : PySem.W.keepIn K (.ref c_NotReady) = true)
    (iC_NotReady : PySem.W.findIn K (.ref c_NotReady) "__init__" = some (some (.ref xa_NotReady)))
    (tI_NotReady : PySem.W.typeIn K (.ref xa_NotReady) = some (.type "function"))
    (sup_NotReady : PySem.W.ks_superIn K c_NotReady c_NotReady "__init__" = some (some (.builtin "ValueError.__init__")))
    (sb_NotReady : PySem.W.subIn K (.ref c_NotReady) (.type "ValueError") = some true)
    (mr_NotReady : PySem.W.mroIn K c_NotReady (.ref c_NotReady) = some true)
    (op_NotReady : PySem.W.nsIn K cStatics "thirdparty.any" = some none)
    (lX_NotReady : K.lookup xa_NotReady = some ⟨oc_NotReady, od_NotReady, .func (PySem.W.ksFn "__init__" "NotReady.__init__" (defArgs s_NotReady_init) (defBody s_NotReady_init) (defScope s_NotReady_init) .none kV_NotReady dc_NotReady pm_NotReady an_NotReady (.ref cda_NotReady) ct_NotReady cc_NotReady), sl_NotReady⟩)
    (cX_NotReady : PySem.W.codeIn K (.ref cda_NotReady) "NotReady.__init__" = true)
    (l2_NotReady : K.lookup cda_NotReady = some ⟨e1_NotReady, od1_NotReady, .fields vs_NotReady, sl1_NotReady⟩)
    (v2_NotReady : vs_NotReady[2]? = some (.str fl_NotReady tf_NotReady))
    (ff_NotReady : ((l.prog.main.file : Str) == fl_NotReady) = true)
    (l3_NotReady : K.lookup cc_NotReady = some ⟨e2_NotReady, od2_NotReady, .cell (some (.ref c_NotReady)), sl2_NotReady⟩)
    (xn_NotReady : PySem.W.findIn K (.ref c_NotReady) "at" = some none)
    (exC_NoDeed : PySem.W.subIn K (.ref c_NoDeed) (.type "BaseException") = some true)
    (tyC_NoDeed : PySem.W.typeIn K (.ref c_NoDeed) = some (.type "type"))
    (hd_NoDeed : PySem.W.hasDictIn K c_NoDeed = true)
    (ga_NoDeed : PySem.W.findIn K (.ref c_NoDeed) "__getattribute__" = some (some (.builtin "BaseException.__getattribute__")))
    (gg_NoDeed : PySem.W.findIn K (.ref c_NoDeed) "__getattr__" = some none)
    (ha_NoDeed : PySem.W.findIn K (.ref c_NoDeed) "__class__" = some (some (.builtin "object.__class__")))
    (hm_NoDeed : PySem.W.mroIn K c_NoDeed (.type "object") = some true)
    (xL_NoDeed : K.lookup c_NoDeed = some (excClassObj nm_NoDeed qq_NoDeed c_NoDeed N_NoDeed bs_NoDeed [.ref c_NetError, .type "ValueError", .type "Exception", .type "BaseException", .type "object"] true sn_NoDeed sub_NoDeed ab_NoDeed col_NoDeed dd_NoDeed m0_NoDeed m1_NoDeed m2_NoDeed m3_NoDeed m5_NoDeed "ValueError.__new__"))
    (sa_NoDeed : PySem.W.findIn K (.ref c_NoDeed) "__setattr__" = some (some (.builtin "object.__setattr__")))
    (kC_NoDeed : PySem.W.keepIn K (.ref c_NoDeed) = true)
    (iC_NoDeed : PySem.W.findIn K (.ref c_NoDeed) "__init__" = some (some (.ref xa_NoDeed)))
    (tI_NoDeed : PySem.W.typeIn K (.ref xa_NoDeed) = some (.type "function"))
    (sup_NoDeed : PySem.W.ks_superIn K c_NoDeed c_NoDeed "__init__" = some (some (.builtin "ValueError.__init__")))
    (sb_NoDeed : PySem.W.subIn K (.ref c_NoDeed) (.type "ValueError") = some true)
    (mr_NoDeed : PySem.W.mroIn K c_NoDeed (.ref c_NoDeed) = some true)
    (op_NoDeed : PySem.W.nsIn K cStatics "thirdparty.any" = some none)
    (lX_NoDeed : K.lookup xa_NoDeed = some ⟨oc_NoDeed, od_NoDeed, .func (PySem.W.ksFn "__init__" "NoDeed.__init__" (defArgs s_NoDeed_init) (defBody s_NoDeed_init) (defScope s_NoDeed_init) .none kV_NoDeed dc_NoDeed pm_NoDeed an_NoDeed (.ref cda_NoDeed) ct_NoDeed cc_NoDeed), sl_NoDeed⟩)
    (cX_NoDeed : PySem.W.codeIn K (.ref cda_NoDeed) "NoDeed.__init__" = true)
    (l2_NoDeed : K.lookup cda_NoDeed = some ⟨e1_NoDeed, od1_NoDeed, .fields vs_NoDeed, sl1_NoDeed⟩)
    (v2_NoDeed : vs_NoDeed[2]? = some (.str fl_NoDeed tf_NoDeed))
    (ff_NoDeed : ((l.prog.main.file : Str) == fl_NoDeed) = true)
    (l3_NoDeed : K.lookup cc_NoDeed = some ⟨e2_NoDeed, od2_NoDeed, .cell (some (.ref c_NoDeed)), sl2_NoDeed⟩)
    (exC_NoMark : PySem.W.subIn K (.ref c_NoMark) (.type "BaseException") = some true)
    (tyC_NoMark : PySem.W.typeIn K (.ref c_NoMark) = some (.type "type"))
    (hd_NoMark : PySem.W.hasDictIn K c_NoMark = true)
    (ga_NoMark : PySem.W.findIn K (.ref c_NoMark) "__getattribute__" = some (some (.builtin "BaseException.__getattribute__")))
    (gg_NoMark : PySem.W.findIn K (.ref c_NoMark) "__getattr__" = some none)
    (ha_NoMark : PySem.W.findIn K (.ref c_NoMark) "__class__" = some (some (.builtin "object.__class__")))
    (hm_NoMark : PySem.W.mroIn K c_NoMark (.type "object") = some true)
    (xL_NoMark : K.lookup c_NoMark = some (excClassObj nm_NoMark qq_NoMark c_NoMark N_NoMark bs_NoMark [.ref c_NetError, .type "ValueError", .type "Exception", .type "BaseException", .type "object"] true sn_NoMark sub_NoMark ab_NoMark col_NoMark dd_NoMark m0_NoMark m1_NoMark m2_NoMark m3_NoMark m5_NoMark "ValueError.__new__"))
    (sa_NoMark : PySem.W.findIn K (.ref c_NoMark) "__setattr__" = some (some (.builtin "object.__setattr__")))
    (kC_NoMark : PySem.W.keepIn K (.ref c_NoMark) = true)
    (iC_NoMark : PySem.W.findIn K (.ref c_NoMark) "__init__" = some (some (.ref xa_NoMark)))
    (tI_NoMark : PySem.W.typeIn K (.ref xa_NoMark) = some (.type "function"))
    (sup_NoMark : PySem.W.ks_superIn K c_NoMark c_NoMark "__init__" = some (some (.builtin "ValueError.__init__")))
    (sb_NoMark : PySem.W.subIn K (.ref c_NoMark) (.type "ValueError") = some true)
    (mr_NoMark : PySem.W.mroIn K c_NoMark (.ref c_NoMark) = some true)
    (op_NoMark : PySem.W.nsIn K cStatics "thirdparty.any" = some none)
    (lX_NoMark : K.lookup xa_NoMark = some ⟨oc_NoMark, od_NoMark, .func (PySem.W.ksFn "__init__" "NoMark.__init__" (defArgs s_NoMark_init) (defBody s_NoMark_init) (defScope s_NoMark_init) .none kV_NoMark dc_NoMark pm_NoMark an_NoMark (.ref cda_NoMark) ct_NoMark cc_NoMark), sl_NoMark⟩)
    (cX_NoMark : PySem.W.codeIn K (.ref cda_NoMark) "NoMark.__init__" = true)
    (l2_NoMark : K.lookup cda_NoMark = some ⟨e1_NoMark, od1_NoMark, .fields vs_NoMark, sl1_NoMark⟩)
    (v2_NoMark : vs_NoMark[2]? = some (.str fl_NoMark tf_NoMark))
    (ff_NoMark : ((l.prog.main.file : Str) == fl_NoMark) = true)
    (l3_NoMark : K.lookup cc_NoMark = some ⟨e2_NoMark, od2_NoMark, .cell (some (.ref c_NoMark)), sl2_NoMark⟩)
    (exC_NoNumber : PySem.W.subIn K (.ref c_NoNumber) (.type "BaseException") = some true)
    (tyC_NoNumber : PySem.W.typeIn K (.ref c_NoNumber) = some (.type "type"))
    (hd_NoNumber : PySem.W.hasDictIn K c_NoNumber = true)
    (ga_NoNumber : PySem.W.findIn K (.ref c_NoNumber) "__getattribute__" = some (some (.builtin "BaseException.__getattribute__")))
    (gg_NoNumber : PySem.W.findIn K (.ref c_NoNumber) "__getattr__" = some none)
    (ha_NoNumber : PySem.W.findIn K (.ref c_NoNumber) "__class__" = some (some (.builtin "object.__class__")))
    (hm_NoNumber : PySem.W.mroIn K c_NoNumber (.type "object") = some true)
    (xL_NoNumber : K.lookup c_NoNumber = some (excClassObj nm_NoNumber qq_NoNumber c_NoNumber N_NoNumber bs_NoNumber [.ref c_NetError, .type "ValueError", .type "Exception", .type "BaseException", .type "object"] true sn_NoNumber sub_NoNumber ab_NoNumber col_NoNumber dd_NoNumber m0_NoNumber m1_NoNumber m2_NoNumber m3_NoNumber m5_NoNumber "ValueError.__new__"))
    (sa_NoNumber : PySem.W.findIn K (.ref c_NoNumber) "__setattr__" = some (some (.builtin "object.__setattr__")))
    (kC_NoNumber : PySem.W.keepIn K (.ref c_NoNumber) = true)
    (iC_NoNumber : PySem.W.findIn K (.ref c_NoNumber) "__init__" = some (some (.ref xa_NoNumber)))
    (tI_NoNumber : PySem.W.typeIn K (.ref xa_NoNumber) = some (.type "function"))
    (sup_NoNumber : PySem.W.ks_superIn K c_NoNumber c_NoNumber "__init__" = some (some (.builtin "ValueError.__init__")))
    (sb_NoNumber : PySem.W.subIn K (.ref c_NoNumber) (.type "ValueError") = some true)
    (mr_NoNumber : PySem.W.mroIn K c_NoNumber (.ref c_NoNumber) = some true)
    (op_NoNumber : PySem.W.nsIn K cStatics "thirdparty.any" = some none)
    (lX_NoNumber : K.lookup xa_NoNumber = some ⟨oc_NoNumber, od_NoNumber, .func (PySem.W.ksFn "__init__" "NoNumber.__init__" (defArgs s_NoNumber_init) (defBody s_NoNumber_init) (defScope s_NoNumber_init) .none kV_NoNumber dc_NoNumber pm_NoNumber an_NoNumber (.ref cda_NoNumber) ct_NoNumber cc_NoNumber), sl_NoNumber⟩)
    (cX_NoNumber : PySem.W.codeIn K (.ref cda_NoNumber) "NoNumber.__init__" = true)
    (l2_NoNumber : K.lookup cda_NoNumber = some ⟨e1_NoNumber, od1_NoNumber, .fields vs_NoNumber, sl1_NoNumber⟩)
    (v2_NoNumber : vs_NoNumber[2]? = some (.str fl_NoNumber tf_NoNumber))
    (ff_NoNumber : ((l.prog.main.file : Str) == fl_NoNumber) = true)
    (l3_NoNumber : K.lookup cc_NoNumber = some ⟨e2_NoNumber, od2_NoNumber, .cell (some (.ref c_NoNumber)), sl2_NoNumber⟩)
    (exC_TooGreat : PySem.W.subIn K (.ref c_TooGreat) (.type "BaseException") = some true)
    (tyC_TooGreat : PySem.W.typeIn K (.ref c_TooGreat) = some (.type "type"))
    (hd_TooGreat : PySem.W.hasDictIn K c_TooGreat = true)
    (ga_TooGreat : PySem.W.findIn K (.ref c_TooGreat) "__getattribute__" = some (some (.builtin "BaseException.__getattribute__")))
    (gg_TooGreat : PySem.W.findIn K (.ref c_TooGreat) "__getattr__" = some none)
    (ha_TooGreat : PySem.W.findIn K (.ref c_TooGreat) "__class__" = some (some (.builtin "object.__class__")))
    (hm_TooGreat : PySem.W.mroIn K c_TooGreat (.type "object") = some true)
    (xL_TooGreat : K.lookup c_TooGreat = some (excClassObj nm_TooGreat qq_TooGreat c_TooGreat N_TooGreat bs_TooGreat [.ref c_NetError, .type "ValueError", .type "Exception", .type "BaseException", .type "object"] true sn_TooGreat sub_TooGreat ab_TooGreat col_TooGreat dd_TooGreat m0_TooGreat m1_TooGreat m2_TooGreat m3_TooGreat m5_TooGreat "ValueError.__new__"))
    (sa_TooGreat : PySem.W.findIn K (.ref c_TooGreat) "__setattr__" = some (some (.builtin "object.__setattr__")))
    (kC_TooGreat : PySem.W.keepIn K (.ref c_TooGreat) = true)
    (iC_TooGreat : PySem.W.findIn K (.ref c_TooGreat) "__init__" = some (some (.ref xa_TooGreat)))
    (tI_TooGreat : PySem.W.typeIn K (.ref xa_TooGreat) = some (.type "function"))
    (sup_TooGreat : PySem.W.ks_superIn K c_TooGreat c_TooGreat "__init__" = some (some (.builtin "ValueError.__init__")))
    (sb_TooGreat : PySem.W.subIn K (.ref c_TooGreat) (.type "ValueError") = some true)
    (mr_TooGreat : PySem.W.mroIn K c_TooGreat (.ref c_TooGreat) = some true)
    (op_TooGreat : PySem.W.nsIn K cStatics "thirdparty.any" = some none)
    (lX_TooGreat : K.lookup xa_TooGreat = some ⟨oc_TooGreat, od_TooGreat, .func (PySem.W.ksFn "__init__" "TooGreat.__init__" (defArgs s_TooGreat_init) (defBody s_TooGreat_init) (defScope s_TooGreat_init) .none kV_TooGreat dc_TooGreat pm_TooGreat an_TooGreat (.ref cda_TooGreat) ct_TooGreat cc_TooGreat), sl_TooGreat⟩)
    (cX_TooGreat : PySem.W.codeIn K (.ref cda_TooGreat) "TooGreat.__init__" = true)
    (l2_TooGreat : K.lookup cda_TooGreat = some ⟨e1_TooGreat, od1_TooGreat, .fields vs_TooGreat, sl1_TooGreat⟩)
    (v2_TooGreat : vs_TooGreat[2]? = some (.str fl_TooGreat tf_TooGreat))
    (ff_TooGreat : ((l.prog.main.file : Str) == fl_TooGreat) = true)
    (l3_TooGreat : K.lookup cc_TooGreat = some ⟨e2_TooGreat, od2_TooGreat, .cell (some (.ref c_TooGreat)), sl2_TooGreat⟩)
    (exC_NothingDone : PySem.W.subIn K (.ref c_NothingDone) (.type "BaseException") = some true)
    (tyC_NothingDone : PySem.W.typeIn K (.ref c_NothingDone) = some (.type "type"))
    (hd_NothingDone : PySem.W.hasDictIn K c_NothingDone = true)
    (ga_NothingDone : PySem.W.findIn K (.ref c_NothingDone) "__getattribute__" = some (some (.builtin "BaseException.__getattribute__")))
    (gg_NothingDone : PySem.W.findIn K (.ref c_NothingDone) "__getattr__" = some none)
    (ha_NothingDone : PySem.W.findIn K (.ref c_NothingDone) "__class__" = some (some (.builtin "object.__class__")))
    (hm_NothingDone : PySem.W.mroIn K c_NothingDone (.type "object") = some true)
    (xL_NothingDone : K.lookup c_NothingDone = some (excClassObj nm_NothingDone qq_NothingDone c_NothingDone N_NothingDone bs_NothingDone [.ref c_NetError, .type "ValueError", .type "Exception", .type "BaseException", .type "object"] true sn_NothingDone sub_NothingDone ab_NothingDone col_NothingDone dd_NothingDone m0_NothingDone m1_NothingDone m2_NothingDone m3_NothingDone m5_NothingDone "ValueError.__new__"))
    (sa_NothingDone : PySem.W.findIn K (.ref c_NothingDone) "__setattr__" = some (some (.builtin "object.__setattr__")))
    (kC_NothingDone : PySem.W.keepIn K (.ref c_NothingDone) = true)
    (iC_NothingDone : PySem.W.findIn K (.ref c_NothingDone) "__init__" = some (some (.ref xa_NothingDone)))
    (tI_NothingDone : PySem.W.typeIn K (.ref xa_NothingDone) = some (.type "function"))
    (sup_NothingDone : PySem.W.ks_superIn K c_NothingDone c_NothingDone "__init__" = some (some (.builtin "ValueError.__init__")))
    (sb_NothingDone : PySem.W.subIn K (.ref c_NothingDone) (.type "ValueError") = some true)
    (mr_NothingDone : PySem.W.mroIn K c_NothingDone (.ref c_NothingDone) = some true)
    (op_NothingDone : PySem.W.nsIn K cStatics "thirdparty.any" = some none)
    (lX_NothingDone : K.lookup xa_NothingDone = some ⟨oc_NothingDone, od_NothingDone, .func (PySem.W.ksFn "__init__" "NothingDone.__init__" (defArgs s_NothingDone_init) (defBody s_NothingDone_init) (defScope s_NothingDone_init) .none kV_NothingDone dc_NothingDone pm_NothingDone an_NothingDone (.ref cda_NothingDone) ct_NothingDone cc_NothingDone), sl_NothingDone⟩)
    (cX_NothingDone : PySem.W.codeIn K (.ref cda_NothingDone) "NothingDone.__init__" = true)
    (l2_NothingDone : K.lookup cda_NothingDone = some ⟨e1_NothingDone, od1_NothingDone, .fields vs_NothingDone, sl1_NothingDone⟩)
    (v2_NothingDone : vs_NothingDone[2]? = some (.str fl_NothingDone tf_NothingDone))
    (ff_NothingDone : ((l.prog.main.file : Str) == fl_NothingDone) = true)
    (l3_NothingDone : K.lookup cc_NothingDone = some ⟨e2_NothingDone, od2_NothingDone, .cell (some (.ref c_NothingDone)), sl2_NothingDone⟩)
    (pg_Net : PySem.W.plainGet K c_Net Str.empty = true)
    (hd_Net : PySem.W.hasDictIn K c_Net = true)
    (po_Net : PySem.W.plainOver K c_Net = true)
    (sa_Net : PySem.W.findIn K (.ref c_Net) "__setattr__" = some (some (.builtin "object.__setattr__")))
    (mk_Net : PySem.W.makesIn K c_Net = true)
    (kc_Net : PySem.W.keepIn K (.ref c_Net) = true)
    (ha_Net : PySem.W.findIn K (.ref c_Net) "__class__" = some (some (.builtin "object.__class__")))
    (hm_Net : PySem.W.mroIn K c_Net (.type "object") = some true)
    (ne_Net : PySem.W.findIn K (.ref c_Net) "__ne__" = some (some (.builtin "object.__ne__")))
    (no_Net_places : PySem.W.findIn K (.ref c_Net) "places" = some none)
    (no_Net_deeds : PySem.W.findIn K (.ref c_Net) "deeds" = some none)
    (pg_Life : PySem.W.plainGet K c_Life Str.empty = true)
    (hd_Life : PySem.W.hasDictIn K c_Life = true)
    (po_Life : PySem.W.plainOver K c_Life = true)
    (sa_Life : PySem.W.findIn K (.ref c_Life) "__setattr__" = some (some (.builtin "object.__setattr__")))
    (mk_Life : PySem.W.makesIn K c_Life = true)
    (kc_Life : PySem.W.keepIn K (.ref c_Life) = true)
    (ha_Life : PySem.W.findIn K (.ref c_Life) "__class__" = some (some (.builtin "object.__class__")))
    (hm_Life : PySem.W.mroIn K c_Life (.type "object") = some true)
    (no_Life_present : PySem.W.findIn K (.ref c_Life) "present" = some none)
    (no_Life_elders : PySem.W.findIn K (.ref c_Life) "elders" = some none)
    (no_Life_said : PySem.W.findIn K (.ref c_Life) "said" = some none)
    (gi_MOST_PLACES : PySem.W.nsIn K mainGlobals "MOST_PLACES" = some (some (.int 12 k_MOST_PLACES)))
    (gi_MOST_DEEDS : PySem.W.nsIn K mainGlobals "MOST_DEEDS" = some (some (.int 16 k_MOST_DEEDS)))
    (gi_MOST_TAKEN : PySem.W.nsIn K mainGlobals "MOST_TAKEN" = some (some (.int 9 k_MOST_TAKEN)))
    (gi_MOST_TOKENS : PySem.W.nsIn K mainGlobals "MOST_TOKENS" = some (some (.int 1000000 k_MOST_TOKENS)))
    (z_ValueError : PySem.W.nsIn K mainGlobals "ValueError" = some none)
    (z_abs : PySem.W.nsIn K mainGlobals "abs" = some none)
    (z_all : PySem.W.nsIn K mainGlobals "all" = some none)
    (z_bool : PySem.W.nsIn K mainGlobals "bool" = some none)
    (z_enumerate : PySem.W.nsIn K mainGlobals "enumerate" = some none)
    (z_int : PySem.W.nsIn K mainGlobals "int" = some none)
    (z_isinstance : PySem.W.nsIn K mainGlobals "isinstance" = some none)
    (z_len : PySem.W.nsIn K mainGlobals "len" = some none)
    (z_list : PySem.W.nsIn K mainGlobals "list" = some none)
    (z_max : PySem.W.nsIn K mainGlobals "max" = some none)
    (z_range : PySem.W.nsIn K mainGlobals "range" = some none)
    (z_repr : PySem.W.nsIn K mainGlobals "repr" = some none)
    (z_sum : PySem.W.nsIn K mainGlobals "sum" = some none)
    (z_super : PySem.W.nsIn K mainGlobals "super" = some none)
    (z_tuple : PySem.W.nsIn K mainGlobals "tuple" = some none)
    (z_zip : PySem.W.nsIn K mainGlobals "zip" = some none)
    (kt_Net_int : PySem.W.kitOne K (.type "int") (.ref c_Net) = some false)
    (kt_Net_bool : PySem.W.kitOne K (.type "bool") (.ref c_Net) = some false)
    (kt_Net_str : PySem.W.kitOne K (.type "str") (.ref c_Net) = some false)
    (kt_Net_tuple : PySem.W.kitOne K (.type "tuple") (.ref c_Net) = some false)
    (kt_Net_list : PySem.W.kitOne K (.type "list") (.ref c_Net) = some false)
    (kt_Net_dict : PySem.W.kitOne K (.type "dict") (.ref c_Net) = some false)
    (kt_Net_NoneType : PySem.W.kitOne K (.type "NoneType") (.ref c_Net) = some false)
    (kc_Net_Net : PySem.W.kitOne K (.ref c_Net) (.ref c_Net) = some true)
    (kc_Net_Life : PySem.W.kitOne K (.ref c_Life) (.ref c_Net) = some false)
    (kt_bool_int : PySem.W.kitOne K (.type "int") (.type "bool") = some false)
    (kt_bool_bool : PySem.W.kitOne K (.type "bool") (.type "bool") = some true)
    (kt_bool_str : PySem.W.kitOne K (.type "str") (.type "bool") = some false)
    (kt_bool_tuple : PySem.W.kitOne K (.type "tuple") (.type "bool") = some false)
    (kt_bool_list : PySem.W.kitOne K (.type "list") (.type "bool") = some false)
    (kt_bool_dict : PySem.W.kitOne K (.type "dict") (.type "bool") = some false)
    (kt_bool_NoneType : PySem.W.kitOne K (.type "NoneType") (.type "bool") = some false)
    (kc_bool_Net : PySem.W.kitOne K (.ref c_Net) (.type "bool") = some false)
    (kc_bool_Life : PySem.W.kitOne K (.ref c_Life) (.type "bool") = some false)
    (kt_int_int : PySem.W.kitOne K (.type "int") (.type "int") = some true)
    (kt_int_bool : PySem.W.kitOne K (.type "bool") (.type "int") = some true)
    (kt_int_str : PySem.W.kitOne K (.type "str") (.type "int") = some false)
    (kt_int_tuple : PySem.W.kitOne K (.type "tuple") (.type "int") = some false)
    (kt_int_list : PySem.W.kitOne K (.type "list") (.type "int") = some false)
    (kt_int_dict : PySem.W.kitOne K (.type "dict") (.type "int") = some false)
    (kt_int_NoneType : PySem.W.kitOne K (.type "NoneType") (.type "int") = some false)
    (kc_int_Net : PySem.W.kitOne K (.ref c_Net) (.type "int") = some false)
    (kc_int_Life : PySem.W.kitOne K (.ref c_Life) (.type "int") = some false)
    (kt_tuple_int : PySem.W.kitOne K (.type "int") (.type "tuple") = some false)
    (kt_tuple_bool : PySem.W.kitOne K (.type "bool") (.type "tuple") = some false)
    (kt_tuple_str : PySem.W.kitOne K (.type "str") (.type "tuple") = some false)
    (kt_tuple_tuple : PySem.W.kitOne K (.type "tuple") (.type "tuple") = some true)
    (kt_tuple_list : PySem.W.kitOne K (.type "list") (.type "tuple") = some false)
    (kt_tuple_dict : PySem.W.kitOne K (.type "dict") (.type "tuple") = some false)
    (kt_tuple_NoneType : PySem.W.kitOne K (.type "NoneType") (.type "tuple") = some false)
    (kc_tuple_Net : PySem.W.kitOne K (.ref c_Net) (.type "tuple") = some false)
    (kc_tuple_Life : PySem.W.kitOne K (.ref c_Life) (.type "tuple") = some false)
    (xs_NetError : PySem.W.subIn K (.ref c_NetError) (.ref c_NetError) = some true)
    (xs_BadNet : PySem.W.subIn K (.ref c_BadNet) (.ref c_NetError) = some true)
    (xs_NotReady : PySem.W.subIn K (.ref c_NotReady) (.ref c_NetError) = some true)
    (xs_NoDeed : PySem.W.subIn K (.ref c_NoDeed) (.ref c_NetError) = some true)
    (xs_NoMark : PySem.W.subIn K (.ref c_NoMark) (.ref c_NetError) = some true)
    (xs_NoNumber : PySem.W.subIn K (.ref c_NoNumber) (.ref c_NetError) = some true)
    (xs_TooGreat : PySem.W.subIn K (.ref c_TooGreat) (.ref c_NetError) = some true)
    (xs_NothingDone : PySem.W.subIn K (.ref c_NothingDone) (.ref c_NetError) = some true)
    (ka_NoDeed_NetError : PySem.W.kitOne K (.ref c_NetError) (.ref c_NoDeed) = some false)
    (ka_NoDeed_BadNet : PySem.W.kitOne K (.ref c_BadNet) (.ref c_NoDeed) = some false)
    (ka_NoDeed_NotReady : PySem.W.kitOne K (.ref c_NotReady) (.ref c_NoDeed) = some false)
    (ka_NoDeed_NoDeed : PySem.W.kitOne K (.ref c_NoDeed) (.ref c_NoDeed) = some true)
    (ka_NoDeed_NoMark : PySem.W.kitOne K (.ref c_NoMark) (.ref c_NoDeed) = some false)
    (ka_NoDeed_NoNumber : PySem.W.kitOne K (.ref c_NoNumber) (.ref c_NoDeed) = some false)
    (ka_NoDeed_TooGreat : PySem.W.kitOne K (.ref c_TooGreat) (.ref c_NoDeed) = some false)
    (ka_NoDeed_NothingDone : PySem.W.kitOne K (.ref c_NothingDone) (.ref c_NoDeed) = some false)
    (ka_NoMark_NetError : PySem.W.kitOne K (.ref c_NetError) (.ref c_NoMark) = some false)
    (ka_NoMark_BadNet : PySem.W.kitOne K (.ref c_BadNet) (.ref c_NoMark) = some false)
    (ka_NoMark_NotReady : PySem.W.kitOne K (.ref c_NotReady) (.ref c_NoMark) = some false)
    (ka_NoMark_NoDeed : PySem.W.kitOne K (.ref c_NoDeed) (.ref c_NoMark) = some false)
    (ka_NoMark_NoMark : PySem.W.kitOne K (.ref c_NoMark) (.ref c_NoMark) = some true)
    (ka_NoMark_NoNumber : PySem.W.kitOne K (.ref c_NoNumber) (.ref c_NoMark) = some false)
    (ka_NoMark_TooGreat : PySem.W.kitOne K (.ref c_TooGreat) (.ref c_NoMark) = some false)
    (ka_NoMark_NothingDone : PySem.W.kitOne K (.ref c_NothingDone) (.ref c_NoMark) = some false)
    (ka_NoNumber_NetError : PySem.W.kitOne K (.ref c_NetError) (.ref c_NoNumber) = some false)
    (ka_NoNumber_BadNet : PySem.W.kitOne K (.ref c_BadNet) (.ref c_NoNumber) = some false)
    (ka_NoNumber_NotReady : PySem.W.kitOne K (.ref c_NotReady) (.ref c_NoNumber) = some false)
    (ka_NoNumber_NoDeed : PySem.W.kitOne K (.ref c_NoDeed) (.ref c_NoNumber) = some false)
    (ka_NoNumber_NoMark : PySem.W.kitOne K (.ref c_NoMark) (.ref c_NoNumber) = some false)
    (ka_NoNumber_NoNumber : PySem.W.kitOne K (.ref c_NoNumber) (.ref c_NoNumber) = some true)
    (ka_NoNumber_TooGreat : PySem.W.kitOne K (.ref c_TooGreat) (.ref c_NoNumber) = some false)
    (ka_NoNumber_NothingDone : PySem.W.kitOne K (.ref c_NothingDone) (.ref c_NoNumber) = some false)
    (ka_NotReady_NetError : PySem.W.kitOne K (.ref c_NetError) (.ref c_NotReady) = some false)
    (ka_NotReady_BadNet : PySem.W.kitOne K (.ref c_BadNet) (.ref c_NotReady) = some false)
    (ka_NotReady_NotReady : PySem.W.kitOne K (.ref c_NotReady) (.ref c_NotReady) = some true)
    (ka_NotReady_NoDeed : PySem.W.kitOne K (.ref c_NoDeed) (.ref c_NotReady) = some false)
    (ka_NotReady_NoMark : PySem.W.kitOne K (.ref c_NoMark) (.ref c_NotReady) = some false)
    (ka_NotReady_NoNumber : PySem.W.kitOne K (.ref c_NoNumber) (.ref c_NotReady) = some false)
    (ka_NotReady_TooGreat : PySem.W.kitOne K (.ref c_TooGreat) (.ref c_NotReady) = some false)
    (ka_NotReady_NothingDone : PySem.W.kitOne K (.ref c_NothingDone) (.ref c_NotReady) = some false)
    (ka_NothingDone_NetError : PySem.W.kitOne K (.ref c_NetError) (.ref c_NothingDone) = some false)
    (ka_NothingDone_BadNet : PySem.W.kitOne K (.ref c_BadNet) (.ref c_NothingDone) = some false)
    (ka_NothingDone_NotReady : PySem.W.kitOne K (.ref c_NotReady) (.ref c_NothingDone) = some false)
    (ka_NothingDone_NoDeed : PySem.W.kitOne K (.ref c_NoDeed) (.ref c_NothingDone) = some false)
    (ka_NothingDone_NoMark : PySem.W.kitOne K (.ref c_NoMark) (.ref c_NothingDone) = some false)
    (ka_NothingDone_NoNumber : PySem.W.kitOne K (.ref c_NoNumber) (.ref c_NothingDone) = some false)
    (ka_NothingDone_TooGreat : PySem.W.kitOne K (.ref c_TooGreat) (.ref c_NothingDone) = some false)
    (ka_NothingDone_NothingDone : PySem.W.kitOne K (.ref c_NothingDone) (.ref c_NothingDone) = some true)
    (ka_TooGreat_NetError : PySem.W.kitOne K (.ref c_NetError) (.ref c_TooGreat) = some false)
    (ka_TooGreat_BadNet : PySem.W.kitOne K (.ref c_BadNet) (.ref c_TooGreat) = some false)
    (ka_TooGreat_NotReady : PySem.W.kitOne K (.ref c_NotReady) (.ref c_TooGreat) = some false)
    (ka_TooGreat_NoDeed : PySem.W.kitOne K (.ref c_NoDeed) (.ref c_TooGreat) = some false)
    (ka_TooGreat_NoMark : PySem.W.kitOne K (.ref c_NoMark) (.ref c_TooGreat) = some false)
    (ka_TooGreat_NoNumber : PySem.W.kitOne K (.ref c_NoNumber) (.ref c_TooGreat) = some false)
    (ka_TooGreat_TooGreat : PySem.W.kitOne K (.ref c_TooGreat) (.ref c_TooGreat) = some true)
    (ka_TooGreat_NothingDone : PySem.W.kitOne K (.ref c_NothingDone) (.ref c_TooGreat) = some false)
    (ka_ValueError_NetError : PySem.W.kitOne K (.ref c_NetError) (.type "ValueError") = some true)
    (ka_ValueError_BadNet : PySem.W.kitOne K (.ref c_BadNet) (.type "ValueError") = some true)
    (ka_ValueError_NotReady : PySem.W.kitOne K (.ref c_NotReady) (.type "ValueError") = some true)
    (ka_ValueError_NoDeed : PySem.W.kitOne K (.ref c_NoDeed) (.type "ValueError") = some true)
    (ka_ValueError_NoMark : PySem.W.kitOne K (.ref c_NoMark) (.type "ValueError") = some true)
    (ka_ValueError_NoNumber : PySem.W.kitOne K (.ref c_NoNumber) (.type "ValueError") = some true)
    (ka_ValueError_TooGreat : PySem.W.kitOne K (.ref c_TooGreat) (.type "ValueError") = some true)
    (ka_ValueError_NothingDone : PySem.W.kitOne K (.ref c_NothingDone) (.type "ValueError") = some true)
    (xz_at_NetError : PySem.W.findIn K (.ref c_NetError) "at" = some none)
    (xz_at_BadNet : PySem.W.findIn K (.ref c_BadNet) "at" = some none)
    (xz_at_NotReady : PySem.W.findIn K (.ref c_NotReady) "at" = some none)
    (xz_at_NoDeed : PySem.W.findIn K (.ref c_NoDeed) "at" = some none)
    (xz_at_NoMark : PySem.W.findIn K (.ref c_NoMark) "at" = some none)
    (xz_at_NoNumber : PySem.W.findIn K (.ref c_NoNumber) "at" = some none)
    (xz_at_TooGreat : PySem.W.findIn K (.ref c_TooGreat) "at" = some none)
    (xz_at_NothingDone : PySem.W.findIn K (.ref c_NothingDone) "at" = some none)
    (lL : K.lookup fL = some ⟨ocL, odL, .func (PySem.W.fnOf "law" "law" (defArgs s_law) (defBody s_law) (defScope s_law) .none kVL dcL pmL anL (.ref cdL) ctL), slL⟩)
    (cL : PySem.W.codeIn K (.ref cdL) "law" = true)
    (lC : K.lookup cdL = some ⟨.type "code", ddL, .fields vsL, slC⟩)
    (v11 : vsL[11]? = some (.ref TbL))
    (w11 : vsL.getD 11 .none = .ref TbL)
    (w18 : vsL.getD 18 .none = .str flL tfL)
    (w7 : vsL.getD 7 .none = .int flagsL tgL)
    (w9 : vsL.getD 9 .none = .bool inFL)
    (w10 : vsL.getD 10 .none = .int textL ttL)
    (neL : cdL ≠ TbL)
    (noT : K.lookup TbL = none)
    (hsup : (l.prog.main.scope.names.lookup ("super" : Str)).isSome = false) :
    LawAtG l w K (L2.CX l.prog w) 10 63 "script" mg fa h := by
  have e := hfa.symm.trans (PySem.W.mg_of X G aL)
  cases e
  have F_is_integer := fun_mk (st := s_is_integer) l1_is_integer c1_is_integer k1_is_integer
  have b_is_integer := F_is_integer.binds (ps := ["thing"]) fun _ _ _ _ _ _ us hl => match us, hl with | [_], _ => rfl
  have F_is_within := fun_mk (st := s_is_within) l1_is_within c1_is_within k1_is_within
  have b_is_within := F_is_within.binds (ps := ["thing", "least", "most"]) fun _ _ _ _ _ _ us hl => match us, hl with | [_, _, _], _ => rfl
  have F_is_tuple := fun_mk (st := s_is_tuple) l1_is_tuple c1_is_tuple k1_is_tuple
  have b_is_tuple := F_is_tuple.binds (ps := ["thing", "least", "most"]) fun _ _ _ _ _ _ us hl => match us, hl with | [_, _, _], _ => rfl
  have F_Net_eq := fun_mk (st := s_Net_eq) l1_Net_eq c1_Net_eq k1_Net_eq
  have b_Net_eq := F_Net_eq.binds (ps := ["self", "other"]) fun _ _ _ _ _ _ us hl => match us, hl with | [_, _], _ => rfl
  have F_is_counts := fun_mk (st := s_is_counts) l1_is_counts c1_is_counts k1_is_counts
  have b_is_counts := F_is_counts.binds (ps := ["places", "thing"]) fun _ _ _ _ _ _ us hl => match us, hl with | [_, _], _ => rfl
  have F_is_mark := fun_mk (st := s_is_mark) l1_is_mark c1_is_mark k1_is_mark
  have b_is_mark := F_is_mark.binds (ps := ["net", "thing"]) fun _ _ _ _ _ _ us hl => match us, hl with | [_, _], _ => rfl
  have F_check_mark := fun_mk (st := s_check_mark) l1_check_mark c1_check_mark k1_check_mark
  have b_check_mark := F_check_mark.binds (ps := ["net", "thing"]) fun _ _ _ _ _ _ us hl => match us, hl with | [_, _], _ => rfl
  have F_check_deed := fun_mk (st := s_check_deed) l1_check_deed c1_check_deed k1_check_deed
  have b_check_deed := F_check_deed.binds (ps := ["net", "thing"]) fun _ _ _ _ _ _ us hl => match us, hl with | [_, _], _ => rfl
  have F_can_do := fun_mk (st := s_can_do) l1_can_do c1_can_do k1_can_do
  have b_can_do := F_can_do.binds (ps := ["net", "mark", "deed"]) fun _ _ _ _ _ _ us hl => match us, hl with | [_, _, _], _ => rfl
  have F_behind := fun_mk (st := s_behind) l1_behind c1_behind k1_behind
  have b_behind := F_behind.binds (ps := ["net", "mark", "deed"]) fun _ _ _ _ _ _ us hl => match us, hl with | [_, _, _], _ => rfl
  have F_ready_of := fun_mk (st := s_ready_of) l1_ready_of c1_ready_of k1_ready_of
  have b_ready_of := F_ready_of.binds (ps := ["net", "mark"]) fun _ _ _ _ _ _ us hl => match us, hl with | [_, _], _ => rfl
  have F_Life_init := fun_mk (st := s_Life_init) l1_Life_init c1_Life_init k1_Life_init
  have b_Life_init := F_Life_init.binds (ps := ["self", "net", "mark"]) fun _ _ _ _ _ _ us hl => match us, hl with | [_, _, _], _ => rfl
  have F_Life_go_on := fun_mk (st := s_Life_go_on) l1_Life_go_on c1_Life_go_on k1_Life_go_on
  have b_Life_go_on := F_Life_go_on.binds (ps := ["self", "net", "mark", "word"]) fun _ _ _ _ _ _ us hl => match us, hl with | [_, _, _, _], _ => rfl
  have F_Life_now := fun_mk (st := s_Life_now) l1_Life_now c1_Life_now k1_Life_now
  have b_Life_now := F_Life_now.binds (ps := ["self"]) fun _ _ _ _ _ _ us hl => match us, hl with | [_], _ => rfl
  have F_Life_do := fun_mk (st := s_Life_do) l1_Life_do c1_Life_do k1_Life_do
  have b_Life_do := F_Life_do.binds (ps := ["self", "deed"]) fun _ _ _ _ _ _ us hl => match us, hl with | [_, _], _ => rfl
  have F_Life_put := fun_mk (st := s_Life_put) l1_Life_put c1_Life_put k1_Life_put
  have b_Life_put := F_Life_put.binds (ps := ["self", "place", "many"]) fun _ _ _ _ _ _ us hl => match us, hl with | [_, _, _], _ => rfl
  have F_Life_take := fun_mk (st := s_Life_take) l1_Life_take c1_Life_take k1_Life_take
  have b_Life_take := F_Life_take.binds (ps := ["self", "place", "many"]) fun _ _ _ _ _ _ us hl => match us, hl with | [_, _, _], _ => rfl
  have F_Life_ready := fun_mk (st := s_Life_ready) l1_Life_ready c1_Life_ready k1_Life_ready
  have b_Life_ready := F_Life_ready.binds (ps := ["self"]) fun _ _ _ _ _ _ us hl => match us, hl with | [_], _ => rfl
  have F_Life_tokens := fun_mk (st := s_Life_tokens) l1_Life_tokens c1_Life_tokens k1_Life_tokens
  have b_Life_tokens := F_Life_tokens.binds (ps := ["self"]) fun _ _ _ _ _ _ us hl => match us, hl with | [_], _ => rfl
  have F__law_hand := fun_mk (st := s__law_hand) l1__law_hand c1__law_hand k1__law_hand
  have b__law_hand := F__law_hand.binds (ps := ["script"]) fun _ _ _ _ _ _ us hl => match us, hl with | [_], _ => rfl
  have F__law_draw := fun_mk (st := s__law_draw) l1__law_draw c1__law_draw k1__law_draw
  have b__law_draw := F__law_draw.binds (ps := ["hand", "many"]) fun _ _ _ _ _ _ us hl => match us, hl with | [_, _], _ => rfl
  have F__law_some := fun_mk (st := s__law_some) l1__law_some c1__law_some k1__law_some
  have b__law_some := F__law_some.binds (ps := ["hand", "things"]) fun _ _ _ _ _ _ us hl => match us, hl with | [_, _], _ => rfl
  have F__law_is_int := fun_mk (st := s__law_is_int) l1__law_is_int c1__law_is_int k1__law_is_int
  have b__law_is_int := F__law_is_int.binds (ps := ["thing", "least_now", "most"]) fun _ _ _ _ _ _ us hl => match us, hl with | [_, _, _], _ => rfl
  have F__law_net := fun_mk (st := s__law_net) l1__law_net c1__law_net k1__law_net
  have b__law_net := F__law_net.binds (ps := ["hand", "most"]) fun _ _ _ _ _ _ us hl => match us, hl with | [_, _], _ => rfl
  have F__law_ready := fun_mk (st := s__law_ready) l1__law_ready c1__law_ready k1__law_ready
  have b__law_ready := F__law_ready.binds (ps := ["deeds", "mark"]) fun _ _ _ _ _ _ us hl => match us, hl with | [_, _], _ => rfl
  have F__law_is_deed := fun_mk (st := s__law_is_deed) l1__law_is_deed c1__law_is_deed k1__law_is_deed
  have b__law_is_deed := F__law_is_deed.binds (ps := ["places", "deed"]) fun _ _ _ _ _ _ us hl => match us, hl with | [_, _], _ => rfl
  have F__law_due := fun_mk (st := s__law_due) l1__law_due c1__law_due k1__law_due
  have b__law_due := F__law_due.binds (ps := ["state", "act"]) fun _ _ _ _ _ _ us hl => match us, hl with | [_, _], _ => rfl
  have F__law_act := fun_mk (st := s__law_act) l1__law_act c1__law_act k1__law_act
  have b__law_act := F__law_act.binds (ps := ["hand", "state"]) fun _ _ _ _ _ _ us hl => match us, hl with | [_, _], _ => rfl
  have F__law_is_like := fun_mk (st := s__law_is_like) l1__law_is_like c1__law_is_like k1__law_is_like
  have b__law_is_like := F__law_is_like.binds (ps := ["life", "state"]) fun _ _ _ _ _ _ us hl => match us, hl with | [_, _], _ => rfl
  have F_Net_init := fun_mk (st := s_Net_init) l1_Net_init c1_Net_init k1_Net_init
  have b_Net_init := F_Net_init.binds (ps := ["self", "places", "deeds"]) fun _ _ _ _ _ _ us hl => match us, hl with | [_, _, _], _ => rfl
  have F_Life_add := fun_mk (st := s_Life_add) l1_Life_add c1_Life_add k1_Life_add
  have b_Life_add := F_Life_add.binds (ps := ["self", "takes", "puts"]) fun _ _ _ _ _ _ us hl => match us, hl with | [_, _, _], _ => rfl
  have F_Life_leave := fun_mk (st := s_Life_leave) l1_Life_leave c1_Life_leave k1_Life_leave
  have b_Life_leave := F_Life_leave.binds (ps := ["self", "deed"]) fun _ _ _ _ _ _ us hl => match us, hl with | [_, _], _ => rfl
  have F__law_do := fun_mk (st := s__law_do) l1__law_do c1__law_do k1__law_do
  have b__law_do := F__law_do.binds (ps := ["life", "act"]) fun _ _ _ _ _ _ us hl => match us, hl with | [_, _], _ => rfl
  have F__law_word := fun_mk (st := s__law_word) l1__law_word c1__law_word k1__law_word
  have b__law_word := F__law_word.binds (ps := ["call"]) fun _ _ _ _ _ _ us hl => match us, hl with | [_], _ => rfl
  let T : TX l.prog K mg := {
    c_NetError := c_NetError,
    g_NetError := PySem.W.mg_of X G aC_NetError,
    c_BadNet := c_BadNet,
    g_BadNet := PySem.W.mg_of X G aC_BadNet,
    c_NotReady := c_NotReady,
    g_NotReady := PySem.W.mg_of X G aC_NotReady,
    c_NoDeed := c_NoDeed,
    g_NoDeed := PySem.W.mg_of X G aC_NoDeed,
    c_NoMark := c_NoMark,
    g_NoMark := PySem.W.mg_of X G aC_NoMark,
    c_NoNumber := c_NoNumber,
    g_NoNumber := PySem.W.mg_of X G aC_NoNumber,
    c_TooGreat := c_TooGreat,
    g_TooGreat := PySem.W.mg_of X G aC_TooGreat,
    c_NothingDone := c_NothingDone,
    g_NothingDone := PySem.W.mg_of X G aC_NothingDone,
    c_Net := c_Net,
    g_Net := PySem.W.mg_of X G aC_Net,
    c_Life := c_Life,
    g_Life := PySem.W.mg_of X G aC_Life,
    a_is_integer := a_is_integer,
    fd_is_integer := _,
    t_is_integer := F_is_integer,
    b_is_integer := b_is_integer,
    g_is_integer := PySem.W.mg_of X G a1_is_integer,
    a_is_within := a_is_within,
    fd_is_within := _,
    t_is_within := F_is_within,
    b_is_within := b_is_within,
    g_is_within := PySem.W.mg_of X G a1_is_within,
    a_is_tuple := a_is_tuple,
    fd_is_tuple := _,
    t_is_tuple := F_is_tuple,
    b_is_tuple := b_is_tuple,
    g_is_tuple := PySem.W.mg_of X G a1_is_tuple,
    a_Net_eq := a_Net_eq,
    fd_Net_eq := _,
    t_Net_eq := F_Net_eq,
    b_Net_eq := b_Net_eq,
    a_is_counts := a_is_counts,
    fd_is_counts := _,
    t_is_counts := F_is_counts,
    b_is_counts := b_is_counts,
    g_is_counts := PySem.W.mg_of X G a1_is_counts,
    a_is_mark := a_is_mark,
    fd_is_mark := _,
    t_is_mark := F_is_mark,
    b_is_mark := b_is_mark,
    g_is_mark := PySem.W.mg_of X G a1_is_mark,
    a_check_mark := a_check_mark,
    fd_check_mark := _,
    t_check_mark := F_check_mark,
    b_check_mark := b_check_mark,
    g_check_mark := PySem.W.mg_of X G a1_check_mark,
    a_check_deed := a_check_deed,
    fd_check_deed := _,
    t_check_deed := F_check_deed,
    b_check_deed := b_check_deed,
    g_check_deed := PySem.W.mg_of X G a1_check_deed,
    a_can_do := a_can_do,
    fd_can_do := _,
    t_can_do := F_can_do,
    b_can_do := b_can_do,
    g_can_do := PySem.W.mg_of X G a1_can_do,
    a_behind := a_behind,
    fd_behind := _,
    t_behind := F_behind,
    b_behind := b_behind,
    g_behind := PySem.W.mg_of X G a1_behind,
    a_ready_of := a_ready_of,
    fd_ready_of := _,
    t_ready_of := F_ready_of,
    b_ready_of := b_ready_of,
    g_ready_of := PySem.W.mg_of X G a1_ready_of,
    a_Life_init := a_Life_init,
    fd_Life_init := _,
    t_Life_init := F_Life_init,
    b_Life_init := b_Life_init,
    a_Life_go_on := a_Life_go_on,
    fd_Life_go_on := _,
    t_Life_go_on := F_Life_go_on,
    b_Life_go_on := b_Life_go_on,
    a_Life_now := a_Life_now,
    fd_Life_now := _,
    t_Life_now := F_Life_now,
    b_Life_now := b_Life_now,
    a_Life_do := a_Life_do,
    fd_Life_do := _,
    t_Life_do := F_Life_do,
    b_Life_do := b_Life_do,
    a_Life_put := a_Life_put,
    fd_Life_put := _,
    t_Life_put := F_Life_put,
    b_Life_put := b_Life_put,
    a_Life_take := a_Life_take,
    fd_Life_take := _,
    t_Life_take := F_Life_take,
    b_Life_take := b_Life_take,
    a_Life_ready := a_Life_ready,
    fd_Life_ready := _,
    t_Life_ready := F_Life_ready,
    b_Life_ready := b_Life_ready,
    a_Life_tokens := a_Life_tokens,
    fd_Life_tokens := _,
    t_Life_tokens := F_Life_tokens,
    b_Life_tokens := b_Life_tokens,
    a__law_hand := a__law_hand,
    fd__law_hand := _,
    t__law_hand := F__law_hand,
    b__law_hand := b__law_hand,
    g__law_hand := PySem.W.mg_of X G a1__law_hand,
    a__law_draw := a__law_draw,
    fd__law_draw := _,
    t__law_draw := F__law_draw,
    b__law_draw := b__law_draw,
    g__law_draw := PySem.W.mg_of X G a1__law_draw,
    a__law_some := a__law_some,
    fd__law_some := _,
    t__law_some := F__law_some,
    b__law_some := b__law_some,
    g__law_some := PySem.W.mg_of X G a1__law_some,
    a__law_is_int := a__law_is_int,
    fd__law_is_int := _,
    t__law_is_int := F__law_is_int,
    b__law_is_int := b__law_is_int,
    g__law_is_int := PySem.W.mg_of X G a1__law_is_int,
    a__law_net := a__law_net,
    fd__law_net := _,
    t__law_net := F__law_net,
    b__law_net := b__law_net,
    g__law_net := PySem.W.mg_of X G a1__law_net,
    a__law_ready := a__law_ready,
    fd__law_ready := _,
    t__law_ready := F__law_ready,
    b__law_ready := b__law_ready,
    g__law_ready := PySem.W.mg_of X G a1__law_ready,
    a__law_is_deed := a__law_is_deed,
    fd__law_is_deed := _,
    t__law_is_deed := F__law_is_deed,
    b__law_is_deed := b__law_is_deed,
    g__law_is_deed := PySem.W.mg_of X G a1__law_is_deed,
    a__law_due := a__law_due,
    fd__law_due := _,
    t__law_due := F__law_due,
    b__law_due := b__law_due,
    g__law_due := PySem.W.mg_of X G a1__law_due,
    a__law_act := a__law_act,
    fd__law_act := _,
    t__law_act := F__law_act,
    b__law_act := b__law_act,
    g__law_act := PySem.W.mg_of X G a1__law_act,
    a__law_is_like := a__law_is_like,
    fd__law_is_like := _,
    t__law_is_like := F__law_is_like,
    b__law_is_like := b__law_is_like,
    g__law_is_like := PySem.W.mg_of X G a1__law_is_like,
    a_Net_init := a_Net_init,
    fd_Net_init := _,
    t_Net_init := F_Net_init,
    b_Net_init := b_Net_init,
    a_Life_add := a_Life_add,
    fd_Life_add := _,
    t_Life_add := F_Life_add,
    b_Life_add := b_Life_add,
    a_Life_leave := a_Life_leave,
    fd_Life_leave := _,
    t_Life_leave := F_Life_leave,
    b_Life_leave := b_Life_leave,
    a__law_do := a__law_do,
    fd__law_do := _,
    t__law_do := F__law_do,
    b__law_do := b__law_do,
    g__law_do := PySem.W.mg_of X G a1__law_do,
    a__law_word := a__law_word,
    fd__law_word := _,
    t__law_word := F__law_word,
    b__law_word := b__law_word,
    g__law_word := PySem.W.mg_of X G a1__law_word,
    xa_BadNet := xa_BadNet,
    x_BadNet := ⟨⟨⟨_, _, _, _, _, _, _, _, _, _, _, _, _, _, _, xL_BadNet, by first | rfl | decide +kernel⟩, sa_BadNet, exC_BadNet, tyC_BadNet, kC_BadNet⟩, iC_BadNet, tI_BadNet, sup_BadNet, sb_BadNet, mr_BadNet, op_BadNet, hsup, ⟨_, _, _, _, _, _, _, _, _, _, _, _, _, _, _, _, lX_BadNet, cX_BadNet, l2_BadNet, rfl, v2_BadNet, ff_BadNet, l3_BadNet, rfl⟩⟩,
    xn_BadNet := xn_BadNet,
    xa_NotReady := xa_NotReady,
    x_NotReady := ⟨⟨⟨_, _, _, _, _, _, _, _, _, _, _, _, _, _, _, xL_NotReady, by first | rfl | decide +kernel⟩, sa_NotReady, exC_NotReady, tyC_NotReady, kC_NotReady⟩, iC_NotReady, tI_NotReady, sup_NotReady, sb_NotReady, mr_NotReady, op_NotReady, hsup, ⟨_, _, _, _, _, _, _, _, _, _, _, _, _, _, _, _, lX_NotReady, cX_NotReady, l2_NotReady, rfl, v2_NotReady, ff_NotReady, l3_NotReady, rfl⟩⟩,
    xn_NotReady := xn_NotReady,
    xa_NoDeed := xa_NoDeed,
    x_NoDeed := ⟨⟨⟨_, _, _, _, _, _, _, _, _, _, _, _, _, _, _, xL_NoDeed, by first | rfl | decide +kernel⟩, sa_NoDeed, exC_NoDeed, tyC_NoDeed, kC_NoDeed⟩, iC_NoDeed, tI_NoDeed, sup_NoDeed, sb_NoDeed, mr_NoDeed, op_NoDeed, hsup, ⟨_, _, _, _, _, _, _, _, _, _, _, _, _, _, _, _, lX_NoDeed, cX_NoDeed, l2_NoDeed, rfl, v2_NoDeed, ff_NoDeed, l3_NoDeed, rfl⟩⟩,
    xa_NoMark := xa_NoMark,
    x_NoMark := ⟨⟨⟨_, _, _, _, _, _, _, _, _, _, _, _, _, _, _, xL_NoMark, by first | rfl | decide +kernel⟩, sa_NoMark, exC_NoMark, tyC_NoMark, kC_NoMark⟩, iC_NoMark, tI_NoMark, sup_NoMark, sb_NoMark, mr_NoMark, op_NoMark, hsup, ⟨_, _, _, _, _, _, _, _, _, _, _, _, _, _, _, _, lX_NoMark, cX_NoMark, l2_NoMark, rfl, v2_NoMark, ff_NoMark, l3_NoMark, rfl⟩⟩,
    xa_NoNumber := xa_NoNumber,
    x_NoNumber := ⟨⟨⟨_, _, _, _, _, _, _, _, _, _, _, _, _, _, _, xL_NoNumber, by first | rfl | decide +kernel⟩, sa_NoNumber, exC_NoNumber, tyC_NoNumber, kC_NoNumber⟩, iC_NoNumber, tI_NoNumber, sup_NoNumber, sb_NoNumber, mr_NoNumber, op_NoNumber, hsup, ⟨_, _, _, _, _, _, _, _, _, _, _, _, _, _, _, _, lX_NoNumber, cX_NoNumber, l2_NoNumber, rfl, v2_NoNumber, ff_NoNumber, l3_NoNumber, rfl⟩⟩,
    xa_TooGreat := xa_TooGreat,
    x_TooGreat := ⟨⟨⟨_, _, _, _, _, _, _, _, _, _, _, _, _, _, _, xL_TooGreat, by first | rfl | decide +kernel⟩, sa_TooGreat, exC_TooGreat, tyC_TooGreat, kC_TooGreat⟩, iC_TooGreat, tI_TooGreat, sup_TooGreat, sb_TooGreat, mr_TooGreat, op_TooGreat, hsup, ⟨_, _, _, _, _, _, _, _, _, _, _, _, _, _, _, _, lX_TooGreat, cX_TooGreat, l2_TooGreat, rfl, v2_TooGreat, ff_TooGreat, l3_TooGreat, rfl⟩⟩,
    xa_NothingDone := xa_NothingDone,
    x_NothingDone := ⟨⟨⟨_, _, _, _, _, _, _, _, _, _, _, _, _, _, _, xL_NothingDone, by first | rfl | decide +kernel⟩, sa_NothingDone, exC_NothingDone, tyC_NothingDone, kC_NothingDone⟩, iC_NothingDone, tI_NothingDone, sup_NothingDone, sb_NothingDone, mr_NothingDone, op_NothingDone, hsup, ⟨_, _, _, _, _, _, _, _, _, _, _, _, _, _, _, _, lX_NothingDone, cX_NothingDone, l2_NothingDone, rfl, v2_NothingDone, ff_NothingDone, l3_NothingDone, rfl⟩⟩,
    m_Net := ⟨mk_Net, a1_Net_init, i1_Net_init, kc_Net⟩,
    i_Net := ⟨⟨pg_Net, hd_Net, po_Net, sa_Net⟩, ha_Net, hnG, htG, hm_Net⟩,
    e_Net := ⟨a1_Net_eq, i1_Net_eq, ne_Net, hm_Net⟩,
    na_Net_places := fun C h => by have z := h.symm.trans (PySem.W.mg_of X G aC_Net); cases z; exact no_Net_places,
    na_Net_deeds := fun C h => by have z := h.symm.trans (PySem.W.mg_of X G aC_Net); cases z; exact no_Net_deeds,
    m_Life := ⟨mk_Life, a1_Life_init, i1_Life_init, kc_Life⟩,
    i_Life := ⟨⟨pg_Life, hd_Life, po_Life, sa_Life⟩, ha_Life, hnG, htG, hm_Life⟩,
    me_Life_go_on := ⟨a1_Life_go_on, i1_Life_go_on, k1_Life_go_on⟩,
    me_Life_now := ⟨a1_Life_now, i1_Life_now, k1_Life_now⟩,
    me_Life_do := ⟨a1_Life_do, i1_Life_do, k1_Life_do⟩,
    me_Life_put := ⟨a1_Life_put, i1_Life_put, k1_Life_put⟩,
    me_Life_take := ⟨a1_Life_take, i1_Life_take, k1_Life_take⟩,
    me_Life_add := ⟨a1_Life_add, i1_Life_add, k1_Life_add⟩,
    me_Life_leave := ⟨a1_Life_leave, i1_Life_leave, k1_Life_leave⟩,
    me_Life_ready := ⟨a1_Life_ready, i1_Life_ready, k1_Life_ready⟩,
    me_Life_tokens := ⟨a1_Life_tokens, i1_Life_tokens, k1_Life_tokens⟩,
    na_Life_present := fun C h => by have z := h.symm.trans (PySem.W.mg_of X G aC_Life); cases z; exact no_Life_present,
    na_Life_elders := fun C h => by have z := h.symm.trans (PySem.W.mg_of X G aC_Life); cases z; exact no_Life_elders,
    na_Life_said := fun C h => by have z := h.symm.trans (PySem.W.mg_of X G aC_Life); cases z; exact no_Life_said,
    k_MOST_PLACES := k_MOST_PLACES,
    g_MOST_PLACES := PySem.W.mg_of X G gi_MOST_PLACES,
    k_MOST_DEEDS := k_MOST_DEEDS,
    g_MOST_DEEDS := PySem.W.mg_of X G gi_MOST_DEEDS,
    k_MOST_TAKEN := k_MOST_TAKEN,
    g_MOST_TAKEN := PySem.W.mg_of X G gi_MOST_TAKEN,
    k_MOST_TOKENS := k_MOST_TOKENS,
    g_MOST_TOKENS := PySem.W.mg_of X G gi_MOST_TOKENS,
    n_abs := PySem.W.mg_none_of X G z_abs,
    n_all := PySem.W.mg_none_of X G z_all,
    n_bool := PySem.W.mg_none_of X G z_bool,
    n_enumerate := PySem.W.mg_none_of X G z_enumerate,
    n_int := PySem.W.mg_none_of X G z_int,
    n_isinstance := PySem.W.mg_none_of X G z_isinstance,
    n_len := PySem.W.mg_none_of X G z_len,
    n_list := PySem.W.mg_none_of X G z_list,
    n_max := PySem.W.mg_none_of X G z_max,
    n_range := PySem.W.mg_none_of X G z_range,
    n_repr := PySem.W.mg_none_of X G z_repr,
    n_sum := PySem.W.mg_none_of X G z_sum,
    n_super := PySem.W.mg_none_of X G z_super,
    n_tuple := PySem.W.mg_none_of X G z_tuple,
    n_zip := PySem.W.mg_none_of X G z_zip,
    k_Net := ⟨fun t b h => (by
      unfold yesT_Net at h
      simp only [List.mem_cons, List.not_mem_nil, or_false] at h
      split at h
      · rename_i hh; cases h; rcases hh with rfl|rfl|rfl|rfl|rfl|rfl|rfl <;> assumption
      · cases h),
    fun n C b h hm => (by
      unfold yesC_Net at h
      try simp only [List.mem_cons, List.not_mem_nil, or_false] at h
      split at h
      · rename_i hh; cases h; rcases hh with rfl <;> (first | (have z := hm.symm.trans (PySem.W.mg_of X G aC_Net); cases z; assumption) | (have z := hm.symm.trans (PySem.W.mg_of X G aC_Life); cases z; assumption))
      · cases h)⟩,
    k_bool := ⟨fun t b h => (by
      unfold yesT_bool at h
      simp only [List.mem_cons, List.not_mem_nil, or_false] at h
      split at h
      · rename_i hh; cases h; rcases hh with rfl <;> assumption
      · split at h
        · rename_i hh; cases h; rcases hh with rfl|rfl|rfl|rfl|rfl|rfl|rfl <;> first | assumption | (rename_i h0; exact absurd rfl (by simpa using h0)) | (exfalso; simp_all)
        · cases h),
    fun n C b h hm => (by
      unfold yesC_bool at h
      try simp only [List.mem_cons, List.not_mem_nil, or_false] at h
      split at h
      · rename_i hh; cases h; rcases hh with rfl|rfl <;> (first | (have z := hm.symm.trans (PySem.W.mg_of X G aC_Net); cases z; assumption) | (have z := hm.symm.trans (PySem.W.mg_of X G aC_Life); cases z; assumption))
      · cases h)⟩,
    k_int := ⟨fun t b h => (by
      unfold yesT_int at h
      simp only [List.mem_cons, List.not_mem_nil, or_false] at h
      split at h
      · rename_i hh; cases h; rcases hh with rfl|rfl <;> assumption
      · split at h
        · rename_i hh; cases h; rcases hh with rfl|rfl|rfl|rfl|rfl|rfl|rfl <;> first | assumption | (rename_i h0; exact absurd rfl (by simpa using h0)) | (exfalso; simp_all)
        · cases h),
    fun n C b h hm => (by
      unfold yesC_int at h
      try simp only [List.mem_cons, List.not_mem_nil, or_false] at h
      split at h
      · rename_i hh; cases h; rcases hh with rfl|rfl <;> (first | (have z := hm.symm.trans (PySem.W.mg_of X G aC_Net); cases z; assumption) | (have z := hm.symm.trans (PySem.W.mg_of X G aC_Life); cases z; assumption))
      · cases h)⟩,
    k_tuple := ⟨fun t b h => (by
      unfold yesT_tuple at h
      simp only [List.mem_cons, List.not_mem_nil, or_false] at h
      split at h
      · rename_i hh; cases h; rcases hh with rfl <;> assumption
      · split at h
        · rename_i hh; cases h; rcases hh with rfl|rfl|rfl|rfl|rfl|rfl|rfl <;> first | assumption | (rename_i h0; exact absurd rfl (by simpa using h0)) | (exfalso; simp_all)
        · cases h),
    fun n C b h hm => (by
      unfold yesC_tuple at h
      try simp only [List.mem_cons, List.not_mem_nil, or_false] at h
      split at h
      · rename_i hh; cases h; rcases hh with rfl|rfl <;> (first | (have z := hm.symm.trans (PySem.W.mg_of X G aC_Net); cases z; assumption) | (have z := hm.symm.trans (PySem.W.mg_of X G aC_Life); cases z; assumption))
      · cases h)⟩ }
  have T2 : TX2 l.prog K mg T := {
    n_ValueError := PySem.W.mg_none_of X G z_ValueError,
    xm_NetError := fun c C b h hm => (by
      unfold isx_NetError at h
      simp only [List.mem_cons, List.not_mem_nil, or_false] at h
      split at h
      · rename_i hh; cases h; rcases hh with rfl|rfl|rfl|rfl|rfl|rfl|rfl|rfl <;> (first | (have z := hm.symm.trans (PySem.W.mg_of X G aC_NetError); cases z; exact PySem.W.exm_ref exC_NetError hd_NetError tyC_NetError xs_NetError) | (have z := hm.symm.trans (PySem.W.mg_of X G aC_BadNet); cases z; exact PySem.W.exm_ref exC_NetError hd_NetError tyC_NetError xs_BadNet) | (have z := hm.symm.trans (PySem.W.mg_of X G aC_NotReady); cases z; exact PySem.W.exm_ref exC_NetError hd_NetError tyC_NetError xs_NotReady) | (have z := hm.symm.trans (PySem.W.mg_of X G aC_NoDeed); cases z; exact PySem.W.exm_ref exC_NetError hd_NetError tyC_NetError xs_NoDeed) | (have z := hm.symm.trans (PySem.W.mg_of X G aC_NoMark); cases z; exact PySem.W.exm_ref exC_NetError hd_NetError tyC_NetError xs_NoMark) | (have z := hm.symm.trans (PySem.W.mg_of X G aC_NoNumber); cases z; exact PySem.W.exm_ref exC_NetError hd_NetError tyC_NetError xs_NoNumber) | (have z := hm.symm.trans (PySem.W.mg_of X G aC_TooGreat); cases z; exact PySem.W.exm_ref exC_NetError hd_NetError tyC_NetError xs_TooGreat) | (have z := hm.symm.trans (PySem.W.mg_of X G aC_NothingDone); cases z; exact PySem.W.exm_ref exC_NetError hd_NetError tyC_NetError xs_NothingDone))
      · cases h),
    xe := fun c C h hm => (by
      unfold isx_NetError at h
      simp only [List.mem_cons, List.not_mem_nil, or_false] at h
      split at h
      · rename_i hh; clear h; rcases hh with rfl|rfl|rfl|rfl|rfl|rfl|rfl|rfl <;> (first | (have z := hm.symm.trans (PySem.W.mg_of X G aC_NetError); cases z; exact ⟨ga_NetError, gg_NetError, exC_NetError, hd_NetError, ha_NetError, hnG, htG, hm_NetError⟩) | (have z := hm.symm.trans (PySem.W.mg_of X G aC_BadNet); cases z; exact ⟨ga_BadNet, gg_BadNet, exC_BadNet, hd_BadNet, ha_BadNet, hnG, htG, hm_BadNet⟩) | (have z := hm.symm.trans (PySem.W.mg_of X G aC_NotReady); cases z; exact ⟨ga_NotReady, gg_NotReady, exC_NotReady, hd_NotReady, ha_NotReady, hnG, htG, hm_NotReady⟩) | (have z := hm.symm.trans (PySem.W.mg_of X G aC_NoDeed); cases z; exact ⟨ga_NoDeed, gg_NoDeed, exC_NoDeed, hd_NoDeed, ha_NoDeed, hnG, htG, hm_NoDeed⟩) | (have z := hm.symm.trans (PySem.W.mg_of X G aC_NoMark); cases z; exact ⟨ga_NoMark, gg_NoMark, exC_NoMark, hd_NoMark, ha_NoMark, hnG, htG, hm_NoMark⟩) | (have z := hm.symm.trans (PySem.W.mg_of X G aC_NoNumber); cases z; exact ⟨ga_NoNumber, gg_NoNumber, exC_NoNumber, hd_NoNumber, ha_NoNumber, hnG, htG, hm_NoNumber⟩) | (have z := hm.symm.trans (PySem.W.mg_of X G aC_TooGreat); cases z; exact ⟨ga_TooGreat, gg_TooGreat, exC_TooGreat, hd_TooGreat, ha_TooGreat, hnG, htG, hm_TooGreat⟩) | (have z := hm.symm.trans (PySem.W.mg_of X G aC_NothingDone); cases z; exact ⟨ga_NothingDone, gg_NothingDone, exC_NothingDone, hd_NothingDone, ha_NothingDone, hnG, htG, hm_NothingDone⟩))
      · cases h),
    xf := fun c C h hm => (by
      unfold isx_NetError at h
      simp only [List.mem_cons, List.not_mem_nil, or_false] at h
      split at h
      · rename_i hh; clear h; rcases hh with rfl|rfl|rfl|rfl|rfl|rfl|rfl|rfl <;> (first | (have z := hm.symm.trans (PySem.W.mg_of X G aC_NetError); cases z; exact ⟨ga_NetError, gg_NetError, exC_NetError, hd_NetError⟩) | (have z := hm.symm.trans (PySem.W.mg_of X G aC_BadNet); cases z; exact ⟨ga_BadNet, gg_BadNet, exC_BadNet, hd_BadNet⟩) | (have z := hm.symm.trans (PySem.W.mg_of X G aC_NotReady); cases z; exact ⟨ga_NotReady, gg_NotReady, exC_NotReady, hd_NotReady⟩) | (have z := hm.symm.trans (PySem.W.mg_of X G aC_NoDeed); cases z; exact ⟨ga_NoDeed, gg_NoDeed, exC_NoDeed, hd_NoDeed⟩) | (have z := hm.symm.trans (PySem.W.mg_of X G aC_NoMark); cases z; exact ⟨ga_NoMark, gg_NoMark, exC_NoMark, hd_NoMark⟩) | (have z := hm.symm.trans (PySem.W.mg_of X G aC_NoNumber); cases z; exact ⟨ga_NoNumber, gg_NoNumber, exC_NoNumber, hd_NoNumber⟩) | (have z := hm.symm.trans (PySem.W.mg_of X G aC_TooGreat); cases z; exact ⟨ga_TooGreat, gg_TooGreat, exC_TooGreat, hd_TooGreat⟩) | (have z := hm.symm.trans (PySem.W.mg_of X G aC_NothingDone); cases z; exact ⟨ga_NothingDone, gg_NothingDone, exC_NothingDone, hd_NothingDone⟩))
      · cases h),
    xn_at := fun c C h hm => (by
      unfold isx_NetError at h
      simp only [List.mem_cons, List.not_mem_nil, or_false] at h
      split at h
      · rename_i hh; clear h; rcases hh with rfl|rfl|rfl|rfl|rfl|rfl|rfl|rfl <;> (first | (have z := hm.symm.trans (PySem.W.mg_of X G aC_NetError); cases z; exact xz_at_NetError) | (have z := hm.symm.trans (PySem.W.mg_of X G aC_BadNet); cases z; exact xz_at_BadNet) | (have z := hm.symm.trans (PySem.W.mg_of X G aC_NotReady); cases z; exact xz_at_NotReady) | (have z := hm.symm.trans (PySem.W.mg_of X G aC_NoDeed); cases z; exact xz_at_NoDeed) | (have z := hm.symm.trans (PySem.W.mg_of X G aC_NoMark); cases z; exact xz_at_NoMark) | (have z := hm.symm.trans (PySem.W.mg_of X G aC_NoNumber); cases z; exact xz_at_NoNumber) | (have z := hm.symm.trans (PySem.W.mg_of X G aC_TooGreat); cases z; exact xz_at_TooGreat) | (have z := hm.symm.trans (PySem.W.mg_of X G aC_NothingDone); cases z; exact xz_at_NothingDone))
      · cases h),
    kx_NoDeed := ⟨fun t b h => (by cases h),
    fun c C b h hm => (by
      unfold yesX_NoDeed at h
      simp only [List.mem_cons, List.not_mem_nil, or_false] at h
      split at h
      · rename_i hh; cases h; rcases hh with rfl <;> (first | (have z := hm.symm.trans (PySem.W.mg_of X G aC_NetError); cases z; assumption) | (have z := hm.symm.trans (PySem.W.mg_of X G aC_BadNet); cases z; assumption) | (have z := hm.symm.trans (PySem.W.mg_of X G aC_NotReady); cases z; assumption) | (have z := hm.symm.trans (PySem.W.mg_of X G aC_NoDeed); cases z; assumption) | (have z := hm.symm.trans (PySem.W.mg_of X G aC_NoMark); cases z; assumption) | (have z := hm.symm.trans (PySem.W.mg_of X G aC_NoNumber); cases z; assumption) | (have z := hm.symm.trans (PySem.W.mg_of X G aC_TooGreat); cases z; assumption) | (have z := hm.symm.trans (PySem.W.mg_of X G aC_NothingDone); cases z; assumption))
      · split at h
        · rename_i hh; cases h; rcases hh with rfl|rfl|rfl|rfl|rfl|rfl|rfl <;> (first | (have z := hm.symm.trans (PySem.W.mg_of X G aC_NetError); cases z; assumption) | (have z := hm.symm.trans (PySem.W.mg_of X G aC_BadNet); cases z; assumption) | (have z := hm.symm.trans (PySem.W.mg_of X G aC_NotReady); cases z; assumption) | (have z := hm.symm.trans (PySem.W.mg_of X G aC_NoDeed); cases z; assumption) | (have z := hm.symm.trans (PySem.W.mg_of X G aC_NoMark); cases z; assumption) | (have z := hm.symm.trans (PySem.W.mg_of X G aC_NoNumber); cases z; assumption) | (have z := hm.symm.trans (PySem.W.mg_of X G aC_TooGreat); cases z; assumption) | (have z := hm.symm.trans (PySem.W.mg_of X G aC_NothingDone); cases z; assumption))
        · cases h)⟩,
    kx_NoMark := ⟨fun t b h => (by cases h),
    fun c C b h hm => (by
      unfold yesX_NoMark at h
      simp only [List.mem_cons, List.not_mem_nil, or_false] at h
      split at h
      · rename_i hh; cases h; rcases hh with rfl <;> (first | (have z := hm.symm.trans (PySem.W.mg_of X G aC_NetError); cases z; assumption) | (have z := hm.symm.trans (PySem.W.mg_of X G aC_BadNet); cases z; assumption) | (have z := hm.symm.trans (PySem.W.mg_of X G aC_NotReady); cases z; assumption) | (have z := hm.symm.trans (PySem.W.mg_of X G aC_NoDeed); cases z; assumption) | (have z := hm.symm.trans (PySem.W.mg_of X G aC_NoMark); cases z; assumption) | (have z := hm.symm.trans (PySem.W.mg_of X G aC_NoNumber); cases z; assumption) | (have z := hm.symm.trans (PySem.W.mg_of X G aC_TooGreat); cases z; assumption) | (have z := hm.symm.trans (PySem.W.mg_of X G aC_NothingDone); cases z; assumption))
      · split at h
        · rename_i hh; cases h; rcases hh with rfl|rfl|rfl|rfl|rfl|rfl|rfl <;> (first | (have z := hm.symm.trans (PySem.W.mg_of X G aC_NetError); cases z; assumption) | (have z := hm.symm.trans (PySem.W.mg_of X G aC_BadNet); cases z; assumption) | (have z := hm.symm.trans (PySem.W.mg_of X G aC_NotReady); cases z; assumption) | (have z := hm.symm.trans (PySem.W.mg_of X G aC_NoDeed); cases z; assumption) | (have z := hm.symm.trans (PySem.W.mg_of X G aC_NoMark); cases z; assumption) | (have z := hm.symm.trans (PySem.W.mg_of X G aC_NoNumber); cases z; assumption) | (have z := hm.symm.trans (PySem.W.mg_of X G aC_TooGreat); cases z; assumption) | (have z := hm.symm.trans (PySem.W.mg_of X G aC_NothingDone); cases z; assumption))
        · cases h)⟩,
    kx_NoNumber := ⟨fun t b h => (by cases h),
    fun c C b h hm => (by
      unfold yesX_NoNumber at h
      simp only [List.mem_cons, List.not_mem_nil, or_false] at h
      split at h
      · rename_i hh; cases h; rcases hh with rfl <;> (first | (have z := hm.symm.trans (PySem.W.mg_of X G aC_NetError); cases z; assumption) | (have z := hm.symm.trans (PySem.W.mg_of X G aC_BadNet); cases z; assumption) | (have z := hm.symm.trans (PySem.W.mg_of X G aC_NotReady); cases z; assumption) | (have z := hm.symm.trans (PySem.W.mg_of X G aC_NoDeed); cases z; assumption) | (have z := hm.symm.trans (PySem.W.mg_of X G aC_NoMark); cases z; assumption) | (have z := hm.symm.trans (PySem.W.mg_of X G aC_NoNumber); cases z; assumption) | (have z := hm.symm.trans (PySem.W.mg_of X G aC_TooGreat); cases z; assumption) | (have z := hm.symm.trans (PySem.W.mg_of X G aC_NothingDone); cases z; assumption))
      · split at h
        · rename_i hh; cases h; rcases hh with rfl|rfl|rfl|rfl|rfl|rfl|rfl <;> (first | (have z := hm.symm.trans (PySem.W.mg_of X G aC_NetError); cases z; assumption) | (have z := hm.symm.trans (PySem.W.mg_of X G aC_BadNet); cases z; assumption) | (have z := hm.symm.trans (PySem.W.mg_of X G aC_NotReady); cases z; assumption) | (have z := hm.symm.trans (PySem.W.mg_of X G aC_NoDeed); cases z; assumption) | (have z := hm.symm.trans (PySem.W.mg_of X G aC_NoMark); cases z; assumption) | (have z := hm.symm.trans (PySem.W.mg_of X G aC_NoNumber); cases z; assumption) | (have z := hm.symm.trans (PySem.W.mg_of X G aC_TooGreat); cases z; assumption) | (have z := hm.symm.trans (PySem.W.mg_of X G aC_NothingDone); cases z; assumption))
        · cases h)⟩,
    kx_NotReady := ⟨fun t b h => (by cases h),
    fun c C b h hm => (by
      unfold yesX_NotReady at h
      simp only [List.mem_cons, List.not_mem_nil, or_false] at h
      split at h
      · rename_i hh; cases h; rcases hh with rfl <;> (first | (have z := hm.symm.trans (PySem.W.mg_of X G aC_NetError); cases z; assumption) | (have z := hm.symm.trans (PySem.W.mg_of X G aC_BadNet); cases z; assumption) | (have z := hm.symm.trans (PySem.W.mg_of X G aC_NotReady); cases z; assumption) | (have z := hm.symm.trans (PySem.W.mg_of X G aC_NoDeed); cases z; assumption) | (have z := hm.symm.trans (PySem.W.mg_of X G aC_NoMark); cases z; assumption) | (have z := hm.symm.trans (PySem.W.mg_of X G aC_NoNumber); cases z; assumption) | (have z := hm.symm.trans (PySem.W.mg_of X G aC_TooGreat); cases z; assumption) | (have z := hm.symm.trans (PySem.W.mg_of X G aC_NothingDone); cases z; assumption))
      · split at h
        · rename_i hh; cases h; rcases hh with rfl|rfl|rfl|rfl|rfl|rfl|rfl <;> (first | (have z := hm.symm.trans (PySem.W.mg_of X G aC_NetError); cases z; assumption) | (have z := hm.symm.trans (PySem.W.mg_of X G aC_BadNet); cases z; assumption) | (have z := hm.symm.trans (PySem.W.mg_of X G aC_NotReady); cases z; assumption) | (have z := hm.symm.trans (PySem.W.mg_of X G aC_NoDeed); cases z; assumption) | (have z := hm.symm.trans (PySem.W.mg_of X G aC_NoMark); cases z; assumption) | (have z := hm.symm.trans (PySem.W.mg_of X G aC_NoNumber); cases z; assumption) | (have z := hm.symm.trans (PySem.W.mg_of X G aC_TooGreat); cases z; assumption) | (have z := hm.symm.trans (PySem.W.mg_of X G aC_NothingDone); cases z; assumption))
        · cases h)⟩,
    kx_NothingDone := ⟨fun t b h => (by cases h),
    fun c C b h hm => (by
      unfold yesX_NothingDone at h
      simp only [List.mem_cons, List.not_mem_nil, or_false] at h
      split at h
      · rename_i hh; cases h; rcases hh with rfl <;> (first | (have z := hm.symm.trans (PySem.W.mg_of X G aC_NetError); cases z; assumption) | (have z := hm.symm.trans (PySem.W.mg_of X G aC_BadNet); cases z; assumption) | (have z := hm.symm.trans (PySem.W.mg_of X G aC_NotReady); cases z; assumption) | (have z := hm.symm.trans (PySem.W.mg_of X G aC_NoDeed); cases z; assumption) | (have z := hm.symm.trans (PySem.W.mg_of X G aC_NoMark); cases z; assumption) | (have z := hm.symm.trans (PySem.W.mg_of X G aC_NoNumber); cases z; assumption) | (have z := hm.symm.trans (PySem.W.mg_of X G aC_TooGreat); cases z; assumption) | (have z := hm.symm.trans (PySem.W.mg_of X G aC_NothingDone); cases z; assumption))
      · split at h
        · rename_i hh; cases h; rcases hh with rfl|rfl|rfl|rfl|rfl|rfl|rfl <;> (first | (have z := hm.symm.trans (PySem.W.mg_of X G aC_NetError); cases z; assumption) | (have z := hm.symm.trans (PySem.W.mg_of X G aC_BadNet); cases z; assumption) | (have z := hm.symm.trans (PySem.W.mg_of X G aC_NotReady); cases z; assumption) | (have z := hm.symm.trans (PySem.W.mg_of X G aC_NoDeed); cases z; assumption) | (have z := hm.symm.trans (PySem.W.mg_of X G aC_NoMark); cases z; assumption) | (have z := hm.symm.trans (PySem.W.mg_of X G aC_NoNumber); cases z; assumption) | (have z := hm.symm.trans (PySem.W.mg_of X G aC_TooGreat); cases z; assumption) | (have z := hm.symm.trans (PySem.W.mg_of X G aC_NothingDone); cases z; assumption))
        · cases h)⟩,
    kx_TooGreat := ⟨fun t b h => (by cases h),
    fun c C b h hm => (by
      unfold yesX_TooGreat at h
      simp only [List.mem_cons, List.not_mem_nil, or_false] at h
      split at h
      · rename_i hh; cases h; rcases hh with rfl <;> (first | (have z := hm.symm.trans (PySem.W.mg_of X G aC_NetError); cases z; assumption) | (have z := hm.symm.trans (PySem.W.mg_of X G aC_BadNet); cases z; assumption) | (have z := hm.symm.trans (PySem.W.mg_of X G aC_NotReady); cases z; assumption) | (have z := hm.symm.trans (PySem.W.mg_of X G aC_NoDeed); cases z; assumption) | (have z := hm.symm.trans (PySem.W.mg_of X G aC_NoMark); cases z; assumption) | (have z := hm.symm.trans (PySem.W.mg_of X G aC_NoNumber); cases z; assumption) | (have z := hm.symm.trans (PySem.W.mg_of X G aC_TooGreat); cases z; assumption) | (have z := hm.symm.trans (PySem.W.mg_of X G aC_NothingDone); cases z; assumption))
      · split at h
        · rename_i hh; cases h; rcases hh with rfl|rfl|rfl|rfl|rfl|rfl|rfl <;> (first | (have z := hm.symm.trans (PySem.W.mg_of X G aC_NetError); cases z; assumption) | (have z := hm.symm.trans (PySem.W.mg_of X G aC_BadNet); cases z; assumption) | (have z := hm.symm.trans (PySem.W.mg_of X G aC_NotReady); cases z; assumption) | (have z := hm.symm.trans (PySem.W.mg_of X G aC_NoDeed); cases z; assumption) | (have z := hm.symm.trans (PySem.W.mg_of X G aC_NoMark); cases z; assumption) | (have z := hm.symm.trans (PySem.W.mg_of X G aC_NoNumber); cases z; assumption) | (have z := hm.symm.trans (PySem.W.mg_of X G aC_TooGreat); cases z; assumption) | (have z := hm.symm.trans (PySem.W.mg_of X G aC_NothingDone); cases z; assumption))
        · cases h)⟩,
    kx_ValueError := ⟨fun t b h => (by cases h),
    fun c C b h hm => (by
      unfold yesX_ValueError at h
      simp only [List.mem_cons, List.not_mem_nil, or_false] at h
      split at h
      · rename_i hh; cases h; rcases hh with rfl|rfl|rfl|rfl|rfl|rfl|rfl|rfl <;> (first | (have z := hm.symm.trans (PySem.W.mg_of X G aC_NetError); cases z; assumption) | (have z := hm.symm.trans (PySem.W.mg_of X G aC_BadNet); cases z; assumption) | (have z := hm.symm.trans (PySem.W.mg_of X G aC_NotReady); cases z; assumption) | (have z := hm.symm.trans (PySem.W.mg_of X G aC_NoDeed); cases z; assumption) | (have z := hm.symm.trans (PySem.W.mg_of X G aC_NoMark); cases z; assumption) | (have z := hm.symm.trans (PySem.W.mg_of X G aC_NoNumber); cases z; assumption) | (have z := hm.symm.trans (PySem.W.mg_of X G aC_TooGreat); cases z; assumption) | (have z := hm.symm.trans (PySem.W.mg_of X G aC_NothingDone); cases z; assumption))
      · cases h)⟩ }
  refine ⟨_, cdL, TbL, spLaw K mg TbL qL 14 (b_law TbL), own cdL TbL _ _ _ _ _ _ lL rfl rfl lC v11, noT, ⟨_, _, _, _, _, _, _, _, _, X _ _ lC, rfl, rfl, v11, w11, w18, w7, w9, w10, neL⟩, fun s u => .of_eq rfl, ?_, fun base _ _ TB => ok_law T T2 TB lL cL⟩
  · intro H a ns hl hb hT hS
    obtain ⟨d, hd, w0⟩ := law_start (kk := 14) (q := qL) hS hT
    exact ⟨a, d, rfl, w0, plain_law TbL ns hl d hd, fun _ => rfl⟩
end Toy
open PySem PySem.W PyProof.Rows
set_option maxRecDepth 100000 in
set_option maxHeartbeats 0 in
theorem PySem.Challenge.cw_tokennets_k83_whole_live_nets_changed_holds : PySem.Challenge.rw_tokennets_k83_whole_live_nets_changed.Holds := by
  w_on; o_law; k_head; (case hw => w_witness2)
  k_fill
  refine DL.walk_ofOwnG (l := PySem.Challenge.rw_tokennets_k83_whole_live_nets_changed) (n := 63) (k := 10) (x := "script") rfl (by decide) rfl ⟨rfl, by decide, by decide⟩ (by decide +kernel) (CX := fun w => L2.CX PySem.Challenge.rw_tokennets_k83_whole_live_nets_changed.prog w) (fun w h Y => by first | exact PySem.W.km_in_of Y | exact PySem.W.kIn_of Y) ?F (fun _ _ _ _ _ z => by obtain ⟨a, B, H2, cls, d, _, _, _, _, _, _, _, hh⟩ := z; exact hh)
  case F =>
    intro w mg fa h Y KX G hmg own
    refine' Toy.law_mk KX G hmg own ?aL ?aC_NetError ?aC_BadNet ?aC_NotReady ?aC_NoDeed ?aC_NoMark ?aC_NoNumber ?aC_TooGreat ?aC_NothingDone ?aC_Net ?aC_Life ?hnG ?htG ?a1_is_integer ?l1_is_integer ?c1_is_integer ?k1_is_integer ?a1_is_within ?l1_is_within ?c1_is_within ?k1_is_within ?a1_is_tuple ?l1_is_tuple ?c1_is_tuple ?k1_is_tuple ?a1_Net_eq ?i1_Net_eq ?l1_Net_eq ?c1_Net_eq ?k1_Net_eq ?a1_is_counts ?l1_is_counts ?c1_is_counts ?k1_is_counts ?a1_is_mark ?l1_is_mark ?c1_is_mark ?k1_is_mark ?a1_check_mark ?l1_check_mark ?c1_check_mark ?k1_check_mark ?a1_check_deed ?l1_check_deed ?c1_check_deed ?k1_check_deed ?a1_can_do ?l1_can_do ?c1_can_do ?k1_can_do ?a1_behind ?l1_behind ?c1_behind ?k1_behind ?a1_ready_of ?l1_ready_of ?c1_ready_of ?k1_ready_of ?a1_Life_init ?i1_Life_init ?l1_Life_init ?c1_Life_init ?k1_Life_init ?a1_Life_go_on ?i1_Life_go_on ?l1_Life_go_on ?c1_Life_go_on ?k1_Life_go_on ?a1_Life_now ?i1_Life_now ?l1_Life_now ?c1_Life_now ?k1_Life_now ?a1_Life_do ?i1_Life_do ?l1_Life_do ?c1_Life_do ?k1_Life_do ?a1_Life_put ?i1_Life_put ?l1_Life_put ?c1_Life_put ?k1_Life_put ?a1_Life_take ?i1_Life_take ?l1_Life_take ?c1_Life_take ?k1_Life_take ?a1_Life_ready ?i1_Life_ready ?l1_Life_ready ?c1_Life_ready ?k1_Life_ready ?a1_Life_tokens ?i1_Life_tokens ?l1_Life_tokens ?c1_Life_tokens ?k1_Life_tokens ?a1__law_hand ?l1__law_hand ?c1__law_hand ?k1__law_hand ?a1__law_draw ?l1__law_draw ?c1__law_draw ?k1__law_draw ?a1__law_some ?l1__law_some ?c1__law_some ?k1__law_some ?a1__law_is_int ?l1__law_is_int ?c1__law_is_int ?k1__law_is_int ?a1__law_net ?l1__law_net ?c1__law_net ?k1__law_net ?a1__law_ready ?l1__law_ready ?c1__law_ready ?k1__law_ready ?a1__law_is_deed ?l1__law_is_deed ?c1__law_is_deed ?k1__law_is_deed ?a1__law_due ?l1__law_due ?c1__law_due ?k1__law_due ?a1__law_act ?l1__law_act ?c1__law_act ?k1__law_act ?a1__law_is_like ?l1__law_is_like ?c1__law_is_like ?k1__law_is_like ?a1_Net_init ?i1_Net_init ?l1_Net_init ?c1_Net_init ?k1_Net_init ?a1_Life_add ?i1_Life_add ?l1_Life_add ?c1_Life_add ?k1_Life_add ?a1_Life_leave ?i1_Life_leave ?l1_Life_leave ?c1_Life_leave ?k1_Life_leave ?a1__law_do ?l1__law_do ?c1__law_do ?k1__law_do ?a1__law_word ?l1__law_word ?c1__law_word ?k1__law_word ?exC_NetError ?tyC_NetError ?hd_NetError ?ga_NetError ?gg_NetError ?ha_NetError ?hm_NetError ?exC_BadNet ?tyC_BadNet ?hd_BadNet ?ga_BadNet ?gg_BadNet ?ha_BadNet ?hm_BadNet ?xL_BadNet ?sa_BadNet ?kC_BadNet ?iC_BadNet ?tI_BadNet ?sup_BadNet ?sb_BadNet ?mr_BadNet ?op_BadNet ?lX_BadNet ?cX_BadNet ?l2_BadNet ?v2_BadNet ?ff_BadNet ?l3_BadNet ?xn_BadNet ?exC_NotReady ?tyC_NotReady ?hd_NotReady ?ga_NotReady ?gg_NotReady ?ha_NotReady ?hm_NotReady ?xL_NotReady ?sa_NotReady ?kC_NotReady ?iC_NotReady ?tI_NotReady ?sup_NotReady ?sb_NotReady ?mr_NotReady ?op_NotReady ?lX_NotReady ?cX_NotReady ?l2_NotReady ?v2_NotReady ?ff_NotReady ?l3_NotReady ?xn_NotReady ?exC_NoDeed ?tyC_NoDeed ?hd_NoDeed ?ga_NoDeed ?gg_NoDeed ?ha_NoDeed ?hm_NoDeed ?xL_NoDeed ?sa_NoDeed ?kC_NoDeed ?iC_NoDeed ?tI_NoDeed ?sup_NoDeed ?sb_NoDeed ?mr_NoDeed ?op_NoDeed ?lX_NoDeed ?cX_NoDeed ?l2_NoDeed ?v2_NoDeed ?ff_NoDeed ?l3_NoDeed ?exC_NoMark ?tyC_NoMark ?hd_NoMark ?ga_NoMark ?gg_NoMark ?ha_NoMark ?hm_NoMark ?xL_NoMark ?sa_NoMark ?kC_NoMark ?iC_NoMark ?tI_NoMark ?sup_NoMark ?sb_NoMark ?mr_NoMark ?op_NoMark ?lX_NoMark ?cX_NoMark ?l2_NoMark ?v2_NoMark ?ff_NoMark ?l3_NoMark ?exC_NoNumber ?tyC_NoNumber ?hd_NoNumber ?ga_NoNumber ?gg_NoNumber ?ha_NoNumber ?hm_NoNumber ?xL_NoNumber ?sa_NoNumber ?kC_NoNumber ?iC_NoNumber ?tI_NoNumber ?sup_NoNumber ?sb_NoNumber ?mr_NoNumber ?op_NoNumber ?lX_NoNumber ?cX_NoNumber ?l2_NoNumber ?v2_NoNumber ?ff_NoNumber ?l3_NoNumber ?exC_TooGreat ?tyC_TooGreat ?hd_TooGreat ?ga_TooGreat ?gg_TooGreat ?ha_TooGreat ?hm_TooGreat ?xL_TooGreat ?sa_TooGreat ?kC_TooGreat ?iC_TooGreat ?tI_TooGreat ?sup_TooGreat ?sb_TooGreat ?mr_TooGreat ?op_TooGreat ?lX_TooGreat ?cX_TooGreat ?l2_TooGreat ?v2_TooGreat ?ff_TooGreat ?l3_TooGreat ?exC_NothingDone ?tyC_NothingDone ?hd_NothingDone ?ga_NothingDone ?gg_NothingDone ?ha_NothingDone ?hm_NothingDone ?xL_NothingDone ?sa_NothingDone ?kC_NothingDone ?iC_NothingDone ?tI_NothingDone ?sup_NothingDone ?sb_NothingDone ?mr_NothingDone ?op_NothingDone ?lX_NothingDone ?cX_NothingDone ?l2_NothingDone ?v2_NothingDone ?ff_NothingDone ?l3_NothingDone ?pg_Net ?hd_Net ?po_Net ?sa_Net ?mk_Net ?kc_Net ?ha_Net ?hm_Net ?ne_Net ?no_Net_places ?no_Net_deeds ?pg_Life ?hd_Life ?po_Life ?sa_Life ?mk_Life ?kc_Life ?ha_Life ?hm_Life ?no_Life_present ?no_Life_elders ?no_Life_said ?gi_MOST_PLACES ?gi_MOST_DEEDS ?gi_MOST_TAKEN ?gi_MOST_TOKENS ?z_ValueError ?z_abs ?z_all ?z_bool ?z_enumerate ?z_int ?z_isinstance ?z_len ?z_list ?z_max ?z_range ?z_repr ?z_sum ?z_super ?z_tuple ?z_zip ?kt_Net_int ?kt_Net_bool ?kt_Net_str ?kt_Net_tuple ?kt_Net_list ?kt_Net_dict ?kt_Net_NoneType ?kc_Net_Net ?kc_Net_Life ?kt_bool_int ?kt_bool_bool ?kt_bool_str ?kt_bool_tuple ?kt_bool_list ?kt_bool_dict ?kt_bool_NoneType ?kc_bool_Net ?kc_bool_Life ?kt_int_int ?kt_int_bool ?kt_int_str ?kt_int_tuple ?kt_int_list ?kt_int_dict ?kt_int_NoneType ?kc_int_Net ?kc_int_Life ?kt_tuple_int ?kt_tuple_bool ?kt_tuple_str ?kt_tuple_tuple ?kt_tuple_list ?kt_tuple_dict ?kt_tuple_NoneType ?kc_tuple_Net ?kc_tuple_Life ?xs_NetError ?xs_BadNet ?xs_NotReady ?xs_NoDeed ?xs_NoMark ?xs_NoNumber ?xs_TooGreat ?xs_NothingDone ?ka_NoDeed_NetError ?ka_NoDeed_BadNet ?ka_NoDeed_NotReady ?ka_NoDeed_NoDeed ?ka_NoDeed_NoMark ?ka_NoDeed_NoNumber ?ka_NoDeed_TooGreat ?ka_NoDeed_NothingDone ?ka_NoMark_NetError ?ka_NoMark_BadNet ?ka_NoMark_NotReady ?ka_NoMark_NoDeed ?ka_NoMark_NoMark ?ka_NoMark_NoNumber ?ka_NoMark_TooGreat ?ka_NoMark_NothingDone ?ka_NoNumber_NetError ?ka_NoNumber_BadNet ?ka_NoNumber_NotReady ?ka_NoNumber_NoDeed ?ka_NoNumber_NoMark ?ka_NoNumber_NoNumber ?ka_NoNumber_TooGreat ?ka_NoNumber_NothingDone ?ka_NotReady_NetError ?ka_NotReady_BadNet ?ka_NotReady_NotReady ?ka_NotReady_NoDeed ?ka_NotReady_NoMark ?ka_NotReady_NoNumber ?ka_NotReady_TooGreat ?ka_NotReady_NothingDone ?ka_NothingDone_NetError ?ka_NothingDone_BadNet ?ka_NothingDone_NotReady ?ka_NothingDone_NoDeed ?ka_NothingDone_NoMark ?ka_NothingDone_NoNumber ?ka_NothingDone_TooGreat ?ka_NothingDone_NothingDone ?ka_TooGreat_NetError ?ka_TooGreat_BadNet ?ka_TooGreat_NotReady ?ka_TooGreat_NoDeed ?ka_TooGreat_NoMark ?ka_TooGreat_NoNumber ?ka_TooGreat_TooGreat ?ka_TooGreat_NothingDone ?ka_ValueError_NetError ?ka_ValueError_BadNet ?ka_ValueError_NotReady ?ka_ValueError_NoDeed ?ka_ValueError_NoMark ?ka_ValueError_NoNumber ?ka_ValueError_TooGreat ?ka_ValueError_NothingDone ?xz_at_NetError ?xz_at_BadNet ?xz_at_NotReady ?xz_at_NoDeed ?xz_at_NoMark ?xz_at_NoNumber ?xz_at_TooGreat ?xz_at_NothingDone ?lL ?cL ?lC ?v11 ?w11 ?w18 ?w7 ?w9 ?w10 ?neL ?noT ?hsup
    (case aL => k_is)
    (case aC_NetError => k_is)
    (case aC_BadNet => k_is)
    (case aC_NotReady => k_is)
    (case aC_NoDeed => k_is)
    (case aC_NoMark => k_is)
    (case aC_NoNumber => k_is)
    (case aC_TooGreat => k_is)
    (case aC_NothingDone => k_is)
    (case aC_Net => k_is)
    (case aC_Life => k_is)
    (case hnG => k_is)
    (case htG => k_is)
    (case a1_is_integer => k_is)
    (case l1_is_integer => k_is)
    (case c1_is_integer => k_is)
    (case k1_is_integer => k_is)
    (case a1_is_within => k_is)
    (case l1_is_within => k_is)
    (case c1_is_within => k_is)
    (case k1_is_within => k_is)
    (case a1_is_tuple => k_is)
    (case l1_is_tuple => k_is)
    (case c1_is_tuple => k_is)
    (case k1_is_tuple => k_is)
    (case a1_Net_eq => k_is)
    (case i1_Net_eq => k_is)
    (case l1_Net_eq => k_is)
    (case c1_Net_eq => k_is)
    (case k1_Net_eq => k_is)
    (case a1_is_counts => k_is)
    (case l1_is_counts => k_is)
    (case c1_is_counts => k_is)
    (case k1_is_counts => k_is)
    (case a1_is_mark => k_is)
    (case l1_is_mark => k_is)
    (case c1_is_mark => k_is)
    (case k1_is_mark => k_is)
    (case a1_check_mark => k_is)
    (case l1_check_mark => k_is)
    (case c1_check_mark => k_is)
    (case k1_check_mark => k_is)
    (case a1_check_deed => k_is)
    (case l1_check_deed => k_is)
    (case c1_check_deed => k_is)
    (case k1_check_deed => k_is)
    (case a1_can_do => k_is)
    (case l1_can_do => k_is)
    (case c1_can_do => k_is)
    (case k1_can_do => k_is)
    (case a1_behind => k_is)
    (case l1_behind => k_is)
    (case c1_behind => k_is)
    (case k1_behind => k_is)
    (case a1_ready_of => k_is)
    (case l1_ready_of => k_is)
    (case c1_ready_of => k_is)
    (case k1_ready_of => k_is)
    (case a1_Life_init => k_is)
    (case i1_Life_init => k_is)
    (case l1_Life_init => k_is)
    (case c1_Life_init => k_is)
    (case k1_Life_init => k_is)
    (case a1_Life_go_on => k_is)
    (case i1_Life_go_on => k_is)
    (case l1_Life_go_on => k_is)
    (case c1_Life_go_on => k_is)
    (case k1_Life_go_on => k_is)
    (case a1_Life_now => k_is)
    (case i1_Life_now => k_is)
    (case l1_Life_now => k_is)
    (case c1_Life_now => k_is)
    (case k1_Life_now => k_is)
    (case a1_Life_do => k_is)
    (case i1_Life_do => k_is)
    (case l1_Life_do => k_is)
    (case c1_Life_do => k_is)
    (case k1_Life_do => k_is)
    (case a1_Life_put => k_is)
    (case i1_Life_put => k_is)
    (case l1_Life_put => k_is)
    (case c1_Life_put => k_is)
    (case k1_Life_put => k_is)
    (case a1_Life_take => k_is)
    (case i1_Life_take => k_is)
    (case l1_Life_take => k_is)
    (case c1_Life_take => k_is)
    (case k1_Life_take => k_is)
    (case a1_Life_ready => k_is)
    (case i1_Life_ready => k_is)
    (case l1_Life_ready => k_is)
    (case c1_Life_ready => k_is)
    (case k1_Life_ready => k_is)
    (case a1_Life_tokens => k_is)
    (case i1_Life_tokens => k_is)
    (case l1_Life_tokens => k_is)
    (case c1_Life_tokens => k_is)
    (case k1_Life_tokens => k_is)
    (case a1__law_hand => k_is)
    (case l1__law_hand => k_is)
    (case c1__law_hand => k_is)
    (case k1__law_hand => k_is)
    (case a1__law_draw => k_is)
    (case l1__law_draw => k_is)
    (case c1__law_draw => k_is)
    (case k1__law_draw => k_is)
    (case a1__law_some => k_is)
    (case l1__law_some => k_is)
    (case c1__law_some => k_is)
    (case k1__law_some => k_is)
    (case a1__law_is_int => k_is)
    (case l1__law_is_int => k_is)
    (case c1__law_is_int => k_is)
    (case k1__law_is_int => k_is)
    (case a1__law_net => k_is)
    (case l1__law_net => k_is)
    (case c1__law_net => k_is)
    (case k1__law_net => k_is)
    (case a1__law_ready => k_is)
    (case l1__law_ready => k_is)
    (case c1__law_ready => k_is)
    (case k1__law_ready => k_is)
    (case a1__law_is_deed => k_is)
    (case l1__law_is_deed => k_is)
    (case c1__law_is_deed => k_is)
    (case k1__law_is_deed => k_is)
    (case a1__law_due => k_is)
    (case l1__law_due => k_is)
    (case c1__law_due => k_is)
    (case k1__law_due => k_is)
    (case a1__law_act => k_is)
    (case l1__law_act => k_is)
    (case c1__law_act => k_is)
    (case k1__law_act => k_is)
    (case a1__law_is_like => k_is)
    (case l1__law_is_like => k_is)
    (case c1__law_is_like => k_is)
    (case k1__law_is_like => k_is)
    (case a1_Net_init => k_is)
    (case i1_Net_init => k_is)
    (case l1_Net_init => k_is)
    (case c1_Net_init => k_is)
    (case k1_Net_init => k_is)
    (case a1_Life_add => k_is)
    (case i1_Life_add => k_is)
    (case l1_Life_add => k_is)
    (case c1_Life_add => k_is)
    (case k1_Life_add => k_is)
    (case a1_Life_leave => k_is)
    (case i1_Life_leave => k_is)
    (case l1_Life_leave => k_is)
    (case c1_Life_leave => k_is)
    (case k1_Life_leave => k_is)
    (case a1__law_do => k_is)
    (case l1__law_do => k_is)
    (case c1__law_do => k_is)
    (case k1__law_do => k_is)
    (case a1__law_word => k_is)
    (case l1__law_word => k_is)
    (case c1__law_word => k_is)
    (case k1__law_word => k_is)
    (case exC_NetError => k_is)
    (case tyC_NetError => k_is)
    (case hd_NetError => k_is)
    (case ga_NetError => k_is)
    (case gg_NetError => k_is)
    (case ha_NetError => k_is)
    (case hm_NetError => k_is)
    (case exC_BadNet => k_is)
    (case tyC_BadNet => k_is)
    (case hd_BadNet => k_is)
    (case ga_BadNet => k_is)
    (case gg_BadNet => k_is)
    (case ha_BadNet => k_is)
    (case hm_BadNet => k_is)
    (case xL_BadNet => k_is)
    (case sa_BadNet => k_is)
    (case kC_BadNet => k_is)
    (case iC_BadNet => k_is)
    (case tI_BadNet => k_is)
    (case sup_BadNet => ks_is)
    (case sb_BadNet => k_is)
    (case mr_BadNet => k_is)
    (case op_BadNet => k_is)
    (case lX_BadNet => k_is)
    (case cX_BadNet => k_is)
    (case l2_BadNet => k_is)
    (case v2_BadNet => rfl)
    (case ff_BadNet => first | rfl | decide +kernel)
    (case l3_BadNet => k_is)
    (case xn_BadNet => k_is)
    (case exC_NotReady => k_is)
    (case tyC_NotReady => k_is)
    (case hd_NotReady => k_is)
    (case ga_NotReady => k_is)
    (case gg_NotReady => k_is)
    (case ha_NotReady => k_is)
    (case hm_NotReady => k_is)
    (case xL_NotReady => k_is)
    (case sa_NotReady => k_is)
    (case kC_NotReady => k_is)
    (case iC_NotReady => k_is)
    (case tI_NotReady => k_is)
    (case sup_NotReady => ks_is)
    (case sb_NotReady => k_is)
    (case mr_NotReady => k_is)
    (case op_NotReady => k_is)
    (case lX_NotReady => k_is)
    (case cX_NotReady => k_is)
    (case l2_NotReady => k_is)
    (case v2_NotReady => rfl)
    (case ff_NotReady => first | rfl | decide +kernel)
    (case l3_NotReady => k_is)
    (case xn_NotReady => k_is)
    (case exC_NoDeed => k_is)
    (case tyC_NoDeed => k_is)
    (case hd_NoDeed => k_is)
    (case ga_NoDeed => k_is)
    (case gg_NoDeed => k_is)
    (case ha_NoDeed => k_is)
    (case hm_NoDeed => k_is)
    (case xL_NoDeed => k_is)
    (case sa_NoDeed => k_is)
    (case kC_NoDeed => k_is)
    (case iC_NoDeed => k_is)
    (case tI_NoDeed => k_is)
    (case sup_NoDeed => ks_is)
    (case sb_NoDeed => k_is)
    (case mr_NoDeed => k_is)
    (case op_NoDeed => k_is)
    (case lX_NoDeed => k_is)
    (case cX_NoDeed => k_is)
    (case l2_NoDeed => k_is)
    (case v2_NoDeed => rfl)
    (case ff_NoDeed => first | rfl | decide +kernel)
    (case l3_NoDeed => k_is)
    (case exC_NoMark => k_is)
    (case tyC_NoMark => k_is)
    (case hd_NoMark => k_is)
    (case ga_NoMark => k_is)
    (case gg_NoMark => k_is)
    (case ha_NoMark => k_is)
    (case hm_NoMark => k_is)
    (case xL_NoMark => k_is)
    (case sa_NoMark => k_is)
    (case kC_NoMark => k_is)
    (case iC_NoMark => k_is)
    (case tI_NoMark => k_is)
    (case sup_NoMark => ks_is)
    (case sb_NoMark => k_is)
    (case mr_NoMark => k_is)
    (case op_NoMark => k_is)
    (case lX_NoMark => k_is)
    (case cX_NoMark => k_is)
    (case l2_NoMark => k_is)
    (case v2_NoMark => rfl)
    (case ff_NoMark => first | rfl | decide +kernel)
    (case l3_NoMark => k_is)
    (case exC_NoNumber => k_is)
    (case tyC_NoNumber => k_is)
    (case hd_NoNumber => k_is)
    (case ga_NoNumber => k_is)
    (case gg_NoNumber => k_is)
    (case ha_NoNumber => k_is)
    (case hm_NoNumber => k_is)
    (case xL_NoNumber => k_is)
    (case sa_NoNumber => k_is)
    (case kC_NoNumber => k_is)
    (case iC_NoNumber => k_is)
    (case tI_NoNumber => k_is)
    (case sup_NoNumber => ks_is)
    (case sb_NoNumber => k_is)
    (case mr_NoNumber => k_is)
    (case op_NoNumber => k_is)
    (case lX_NoNumber => k_is)
    (case cX_NoNumber => k_is)
    (case l2_NoNumber => k_is)
    (case v2_NoNumber => rfl)
    (case ff_NoNumber => first | rfl | decide +kernel)
    (case l3_NoNumber => k_is)
    (case exC_TooGreat => k_is)
    (case tyC_TooGreat => k_is)
    (case hd_TooGreat => k_is)
    (case ga_TooGreat => k_is)
    (case gg_TooGreat => k_is)
    (case ha_TooGreat => k_is)
    (case hm_TooGreat => k_is)
    (case xL_TooGreat => k_is)
    (case sa_TooGreat => k_is)
    (case kC_TooGreat => k_is)
    (case iC_TooGreat => k_is)
    (case tI_TooGreat => k_is)
    (case sup_TooGreat => ks_is)
    (case sb_TooGreat => k_is)
    (case mr_TooGreat => k_is)
    (case op_TooGreat => k_is)
    (case lX_TooGreat => k_is)
    (case cX_TooGreat => k_is)
    (case l2_TooGreat => k_is)
    (case v2_TooGreat => rfl)
    (case ff_TooGreat => first | rfl | decide +kernel)
    (case l3_TooGreat => k_is)
    (case exC_NothingDone => k_is)
    (case tyC_NothingDone => k_is)
    (case hd_NothingDone => k_is)
    (case ga_NothingDone => k_is)
    (case gg_NothingDone => k_is)
    (case ha_NothingDone => k_is)
    (case hm_NothingDone => k_is)
    (case xL_NothingDone => k_is)
    (case sa_NothingDone => k_is)
    (case kC_NothingDone => k_is)
    (case iC_NothingDone => k_is)
    (case tI_NothingDone => k_is)
    (case sup_NothingDone => ks_is)
    (case sb_NothingDone => k_is)
    (case mr_NothingDone => k_is)
    (case op_NothingDone => k_is)
    (case lX_NothingDone => k_is)
    (case cX_NothingDone => k_is)
    (case l2_NothingDone => k_is)
    (case v2_NothingDone => rfl)
    (case ff_NothingDone => first | rfl | decide +kernel)
    (case l3_NothingDone => k_is)
    (case pg_Net => k_is)
    (case hd_Net => k_is)
    (case po_Net => k_is)
    (case sa_Net => k_is)
    (case mk_Net => k_is)
    (case kc_Net => k_is)
    (case ha_Net => k_is)
    (case hm_Net => k_is)
    (case ne_Net => k_is)
    (case no_Net_places => k_is)
    (case no_Net_deeds => k_is)
    (case pg_Life => k_is)
    (case hd_Life => k_is)
    (case po_Life => k_is)
    (case sa_Life => k_is)
    (case mk_Life => k_is)
    (case kc_Life => k_is)
    (case ha_Life => k_is)
    (case hm_Life => k_is)
    (case no_Life_present => k_is)
    (case no_Life_elders => k_is)
    (case no_Life_said => k_is)
    (case gi_MOST_PLACES => k_is)
    (case gi_MOST_DEEDS => k_is)
    (case gi_MOST_TAKEN => k_is)
    (case gi_MOST_TOKENS => k_is)
    (case z_ValueError => k_is)
    (case z_abs => k_is)
    (case z_all => k_is)
    (case z_bool => k_is)
    (case z_enumerate => k_is)
    (case z_int => k_is)
    (case z_isinstance => k_is)
    (case z_len => k_is)
    (case z_list => k_is)
    (case z_max => k_is)
    (case z_range => k_is)
    (case z_repr => k_is)
    (case z_sum => k_is)
    (case z_super => k_is)
    (case z_tuple => k_is)
    (case z_zip => k_is)
    (case kt_Net_int => kit_is)
    (case kt_Net_bool => kit_is)
    (case kt_Net_str => kit_is)
    (case kt_Net_tuple => kit_is)
    (case kt_Net_list => kit_is)
    (case kt_Net_dict => kit_is)
    (case kt_Net_NoneType => kit_is)
    (case kc_Net_Net => kit_is)
    (case kc_Net_Life => kit_is)
    (case kt_bool_int => kit_is)
    (case kt_bool_bool => kit_is)
    (case kt_bool_str => kit_is)
    (case kt_bool_tuple => kit_is)
    (case kt_bool_list => kit_is)
    (case kt_bool_dict => kit_is)
    (case kt_bool_NoneType => kit_is)
    (case kc_bool_Net => kit_is)
    (case kc_bool_Life => kit_is)
    (case kt_int_int => kit_is)
    (case kt_int_bool => kit_is)
    (case kt_int_str => kit_is)
    (case kt_int_tuple => kit_is)
    (case kt_int_list => kit_is)
    (case kt_int_dict => kit_is)
    (case kt_int_NoneType => kit_is)
    (case kc_int_Net => kit_is)
    (case kc_int_Life => kit_is)
    (case kt_tuple_int => kit_is)
    (case kt_tuple_bool => kit_is)
    (case kt_tuple_str => kit_is)
    (case kt_tuple_tuple => kit_is)
    (case kt_tuple_list => kit_is)
    (case kt_tuple_dict => kit_is)
    (case kt_tuple_NoneType => kit_is)
    (case kc_tuple_Net => kit_is)
    (case kc_tuple_Life => kit_is)
    (case xs_NetError => k_is)
    (case xs_BadNet => k_is)
    (case xs_NotReady => k_is)
    (case xs_NoDeed => k_is)
    (case xs_NoMark => k_is)
    (case xs_NoNumber => k_is)
    (case xs_TooGreat => k_is)
    (case xs_NothingDone => k_is)
    (case ka_NoDeed_NetError => kit_is)
    (case ka_NoDeed_BadNet => kit_is)
    (case ka_NoDeed_NotReady => kit_is)
    (case ka_NoDeed_NoDeed => kit_is)
    (case ka_NoDeed_NoMark => kit_is)
    (case ka_NoDeed_NoNumber => kit_is)
    (case ka_NoDeed_TooGreat => kit_is)
    (case ka_NoDeed_NothingDone => kit_is)
    (case ka_NoMark_NetError => kit_is)
    (case ka_NoMark_BadNet => kit_is)
    (case ka_NoMark_NotReady => kit_is)
    (case ka_NoMark_NoDeed => kit_is)
    (case ka_NoMark_NoMark => kit_is)
    (case ka_NoMark_NoNumber => kit_is)
    (case ka_NoMark_TooGreat => kit_is)
    (case ka_NoMark_NothingDone => kit_is)
    (case ka_NoNumber_NetError => kit_is)
    (case ka_NoNumber_BadNet => kit_is)
    (case ka_NoNumber_NotReady => kit_is)
    (case ka_NoNumber_NoDeed => kit_is)
    (case ka_NoNumber_NoMark => kit_is)
    (case ka_NoNumber_NoNumber => kit_is)
    (case ka_NoNumber_TooGreat => kit_is)
    (case ka_NoNumber_NothingDone => kit_is)
    (case ka_NotReady_NetError => kit_is)
    (case ka_NotReady_BadNet => kit_is)
    (case ka_NotReady_NotReady => kit_is)
    (case ka_NotReady_NoDeed => kit_is)
    (case ka_NotReady_NoMark => kit_is)
    (case ka_NotReady_NoNumber => kit_is)
    (case ka_NotReady_TooGreat => kit_is)
    (case ka_NotReady_NothingDone => kit_is)
    (case ka_NothingDone_NetError => kit_is)
    (case ka_NothingDone_BadNet => kit_is)
    (case ka_NothingDone_NotReady => kit_is)
    (case ka_NothingDone_NoDeed => kit_is)
    (case ka_NothingDone_NoMark => kit_is)
    (case ka_NothingDone_NoNumber => kit_is)
    (case ka_NothingDone_TooGreat => kit_is)
    (case ka_NothingDone_NothingDone => kit_is)
    (case ka_TooGreat_NetError => kit_is)
    (case ka_TooGreat_BadNet => kit_is)
    (case ka_TooGreat_NotReady => kit_is)
    (case ka_TooGreat_NoDeed => kit_is)
    (case ka_TooGreat_NoMark => kit_is)
    (case ka_TooGreat_NoNumber => kit_is)
    (case ka_TooGreat_TooGreat => kit_is)
    (case ka_TooGreat_NothingDone => kit_is)
    (case ka_ValueError_NetError => kit_is)
    (case ka_ValueError_BadNet => kit_is)
    (case ka_ValueError_NotReady => kit_is)
    (case ka_ValueError_NoDeed => kit_is)
    (case ka_ValueError_NoMark => kit_is)
    (case ka_ValueError_NoNumber => kit_is)
    (case ka_ValueError_TooGreat => kit_is)
    (case ka_ValueError_NothingDone => kit_is)
    (case xz_at_NetError => k_is)
    (case xz_at_BadNet => k_is)
    (case xz_at_NotReady => k_is)
    (case xz_at_NoDeed => k_is)
    (case xz_at_NoMark => k_is)
    (case xz_at_NoNumber => k_is)
    (case xz_at_TooGreat => k_is)
    (case xz_at_NothingDone => k_is)
    (case lL => k_is)
    (case cL => k_is)
    (case lC => k_is)
    (case v11 => rfl)
    (case w11 => rfl)
    (case w18 => rfl)
    (case w7 => rfl)
    (case w9 => rfl)
    (case w10 => rfl)
    (case neL => first | decide | rfl | with_unfolding_all rfl | kernel_rfl | k_is)
    (case noT => first | rfl | with_unfolding_all rfl | kernel_rfl | k_is)
    (case hsup => rfl)
