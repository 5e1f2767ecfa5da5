import PyProof.Rows.All
import Wide.All
import OpenK.AllK
import Wide.FinOn
import HandS.ForMost
import HandS.Exc
import HandS.TryOnly
import HandS.ExcOwn
import HandS.WordsExc
import HandS.Wide
import HandS.TupAny
import HandS.IsInst
import HandS.Lambda
import HandS.Flow
import HandS.Style
import HandS.FStr
import HandS.Conv
import HandS.SetKeys
import HandS.SetBool
import HandS.Zip
import HandS.RaiseMore
import HandS.NoneIn
import KE.DataEq
import KE.KUnpackStar
import HandS.Slots
import KE.Datum
import HandS.EndBits
import PyProof.ReprRoads
import HandS.SortInts
import HandS.Dict
import HandS.DictTup
import KE.KRevSl
import PyProof.ReprLen
import KE.SortUse
import KE.SortKeyHeap
import PyProof.Rows.RuleN_abs
import HandS.DictComp
import HandS.Iter
import KE.GoesEnum
import KE.GoesEnumKw
import HandS.More
import HandS.Defaults
import HandS.TupLen
import KE.KDictPairs
import PyProof.FactsAll.bool_1
import PyProof.TupleOfStr
import HandS.TupMul
import HandS.SetFor
import HandS.MakeKwOnly
import HandS.MakeKw
import HandS.OwnEq
import KE.KDictLaws
import HandS.ExcValue
import HandS.ExcInit
import HandS.Small
import KE.KExcIs
import HandS.ExcField
import KE.KNest
import HandS.EndTab
import HandS.Nested
import PyProof.FactsAll.NoneType_1
import PyProof.Rows.TupDisplay
import KE.KAssignIn
import HandS.TupSets
import HandS.WordsDict
import HandS.Finally
import HandS.Strs
import PySem.Challenge.RW_turnless_k19_members_and_factors
set_option Elab.async false
set_option linter.all false
set_option maxRecDepth 100000
namespace WL
open PySem PySem.Spec PyProof.Rows L2
inductive W where
  | non | bl (b : Bool) | int (i : Int) | str (x : Str) | tup (xs : List W) | kt (xs : List W) | fl (xs : List W) | ref (a : Addr) | ty (n : String)
  /-- a dict that nothing writes any more: its keys, its values; an instance likewise: its class, its attributes' names, their values -/
  | fdK (kws : List (Key × W)) | fdT (kws : List (List Key × W)) | fo (c : Str) (fs : List (Str × W))
  /-- an exception that was caught: its class, its attributes -/
  | ex (c : Str) (fs : List (Str × W))
  /-- a lambda at f, its code object at c of the name q -/
  | lam (f c : Addr) (q : Str)
def kW : Key → W
  | .inl i => .int i
  | .inr x => .str x
def ClsAt (K : PySem.W.Frag) (c : Str) (C : Addr) : Prop := PySem.W.nsIn K mainGlobals c = some (some (.ref C))
theorem ClsAt.inj {K : PySem.W.Frag} {c : Str} {C D : Addr} (h : ClsAt K c C) (h' : ClsAt K c D) : C = D := by
  have e := h.symm.trans h'
  cases e; rfl
def ExH (cls : Value) (od : Option Addr) (a : Addr) : HO := .ext fun h => ∃ (oe : Obj) (vs : Array Value), h.get? a = some oe ∧ Zc cls od oe ∧ oe.data = .fields vs
def ExA (H : Hp) (od : Option Addr) (fvs : List (Str × V)) : Prop := (od = none ∧ fvs = []) ∨ ∃ d, od = some d ∧ H d = some (.xd fvs)
def FrzL (K : PySem.W.Frag) (H : Hp) (a : Addr) (xs : List V) : Prop :=
  (∃ o, H a = some (.frz o (.lst xs))) ∨
    ∃ (o : Obj) (its : Array Value) (n : Nat), K.lookup a = some o ∧ o.cls = .type "list" ∧ o.dict = none ∧ o.data = .seq its n ∧ its.size ≤ sizeLine ∧ Vals xs its.toList
theorem FrzL.seq {K : PySem.W.Frag} {H : Hp} {a : Addr} {xs : List V} (h : FrzL K H a xs) : SqL K H a xs := by
  rcases h with ⟨o, h⟩ | h
  · exact .inl (.inr ⟨o, h⟩)
  · exact .inr h
def KtT (K : PySem.W.Frag) (a : Addr) (xs : List V) : Prop :=
  ∃ (o : Obj) (its : Array Value) (n : Nat), K.lookup a = some o ∧ o.cls = .type "tuple" ∧ o.data = .seq its n ∧ its.size ≤ sizeLine ∧ Vals xs its.toList
theorem KtT.seq {K : PySem.W.Frag} {H : Hp} {a : Addr} {xs : List V} (h : KtT K a xs) : SqT K H a xs := .inr h
mutual
inductive RV (K : PySem.W.Frag) (H : Hp) : V → W → Prop
  | non : RV K H .non .non
  | bl (b : Bool) : RV K H (.bl b) (.bl b)
  | int (i : Int) : RV K H (.int i) (.int i)
  | str (x : Str) : RV K H (.str x) (.str x)
  | ty (n : String) : RV K H (.ty n) (.ty n)
  | ref (a : Addr) : RV K H (.ref a) (.ref a)
  | tup {a : Addr} {vs : List V} {ws : List W} : H a = some (.tup vs) → RVs K H vs ws → RV K H (.ref a) (.tup ws)
  | kt {a : Addr} {vs : List V} {ws : List W} : KtT K a vs → RVs K H vs ws → RV K H (.ref a) (.kt ws)
  | fl {a : Addr} {vs : List V} {ws : List W} : FrzL K H a vs → RVs K H vs ws → RV K H (.ref a) (.fl ws)
  | fdK {a : Addr} {o : Obj} {kvs : List (Key × V)} {kws : List (Key × W)} : H a = some (.frz o (.dK kvs)) → kvs.map (·.1) = kws.map (·.1) → RVs K H (kvs.map (·.2)) (kws.map (·.2)) → RV K H (.ref a) (.fdK kws)
  | fdT {a : Addr} {o : Obj} {kvs : List (List Key × V)} {kws : List (List Key × W)} : H a = some (.frz o (.dT kvs)) → kvs.map (·.1) = kws.map (·.1) → RVs K H (kvs.map (·.2)) (kws.map (·.2)) → RV K H (.ref a) (.fdT kws)
  | fo {a C dx : Addr} {o : Obj} {c : Str} {fvs : List (Str × V)} {fs : List (Str × W)} : ClsAt K c C → H a = some (.frz o (.ins C dx fvs)) → fvs.map (·.1) = fs.map (·.1) → RVs K H (fvs.map (·.2)) (fs.map (·.2)) → RV K H (.ref a) (.fo c fs)
  | ex {a C : Addr} {od : Option Addr} {c : Str} {fvs : List (Str × V)} {fs : List (Str × W)} : ClsAt K c C → H a = some (ExH (.ref C) od a) → ExA H od fvs → fvs.map (·.1) = fs.map (·.1) → RVs K H (fvs.map (·.2)) (fs.map (·.2)) → RV K H (.ref a) (.ex c fs)
  | lam {f c : Addr} {q : Str} : H c = some (LamX.CodeO c q) → RV K H (.ref f) (.lam f c q)
inductive RVs (K : PySem.W.Frag) (H : Hp) : List V → List W → Prop
  | nil : RVs K H [] []
  | cons {v : V} {vs : List V} {w : W} {ws : List W} : RV K H v w → RVs K H vs ws → RVs K H (v :: vs) (w :: ws)
end
section
variable {K : PySem.W.Frag} {H H' H1 H2 : Hp} {v : V} {w : W} {vs us : List V} {ws : List W}
theorem RVs.length : ∀ {vs : List V} {ws : List W}, RVs K H vs ws → vs.length = ws.length
  | _, _, .nil => rfl
  | _, _, .cons _ rs => congrArg (· + 1) (RVs.length rs)
theorem RVs.get : ∀ {vs : List V} {ws : List W} {i : Nat} {w : W}, RVs K H vs ws → ws[i]? = some w → ∃ v, vs[i]? = some v ∧ RV K H v w
  | _, _, _, _, .nil, e => by simp at e
  | _, _, 0, _, .cons r _, e => by simp at e; subst e; exact ⟨_, rfl, r⟩
  | _, _, i + 1, w, .cons _ t, e => by
    obtain ⟨u, h1, h2⟩ := RVs.get (i := i) (w := w) t (by simpa using e)
    exact ⟨u, by simpa using h1, h2⟩
theorem RVs.append : ∀ {vs us : List V} {ws xs : List W}, RVs K H vs ws → RVs K H us xs → RVs K H (vs ++ us) (ws ++ xs)
  | _, _, _, _, .nil, r => r
  | _, _, _, _, .cons a t, r => .cons a (RVs.append t r)
theorem RVs.take : ∀ {vs : List V} {ws : List W} (n : Nat), RVs K H vs ws → RVs K H (vs.take n) (ws.take n)
  | _, _, 0, _ => .nil
  | _, _, _ + 1, .nil => .nil
  | _, _, n + 1, .cons r t => .cons r (RVs.take n t)
theorem RVs.drop : ∀ {vs : List V} {ws : List W} (n : Nat), RVs K H vs ws → RVs K H (vs.drop n) (ws.drop n)
  | _, _, 0, r => r
  | _, _, _ + 1, .nil => .nil
  | _, _, n + 1, .cons _ t => RVs.drop n t
theorem RVs.set {v : V} {w : W} (r : RV K H v w) : ∀ {vs : List V} {ws : List W} (i : Nat), RVs K H vs ws → RVs K H (vs.set i v) (ws.set i w)
  | _, _, _, .nil => .nil
  | _, _, 0, .cons _ t => .cons r t
  | _, _, i + 1, .cons q t => .cons q (RVs.set r i t)
theorem RVs.erase : ∀ {vs : List V} {ws : List W} (i : Nat), RVs K H vs ws → RVs K H (vs.eraseIdx i) (ws.eraseIdx i)
  | _, _, _, .nil => .nil
  | _, _, 0, .cons _ t => t
  | _, _, i + 1, .cons q t => .cons q (RVs.erase i t)
theorem RVs.dropLast : ∀ {vs : List V} {ws : List W}, RVs K H vs ws → RVs K H vs.dropLast ws.dropLast
  | _, _, .nil => .nil
  | _, _, .cons q .nil => .nil
  | _, _, .cons q (.cons r t) => .cons q (RVs.dropLast (.cons r t))
theorem RVs.rev : ∀ {vs : List V} {ws : List W}, RVs K H vs ws → RVs K H vs.reverse ws.reverse
  | _, _, .nil => .nil
  | _, _, .cons q t => by
    rw [List.reverse_cons, List.reverse_cons]
    exact RVs.append (RVs.rev t) (.cons q .nil)
end
def W.tup? : W → Option (List W)
  | .tup xs => some xs
  | .kt xs => some xs
  | _ => none
section
variable {K : PySem.W.Frag} {H : Hp}
theorem RV.tupT {v : V} {w : W} {xs : List W} (r : RV K H v w) (e : w.tup? = some xs) : ∃ a vs, v = .ref a ∧ SqT K H a vs ∧ RVs K H vs xs := by
  cases w with
  | tup ys =>
    cases e
    cases r with
    | tup q rs => exact ⟨_, _, rfl, SqT.of q, rs⟩
  | kt ys =>
    cases e
    cases r with
    | kt q rs => exact ⟨_, _, rfl, q.seq, rs⟩
  | _ => cases e
theorem RVs.ints : ∀ {ns : List Int} {vs : List V}, RVs K H vs (ns.map W.int) → vs = ns.map V.int
  | [], _, .nil => rfl
  | n :: ns, _, .cons r t => by
    cases r
    rw [List.map_cons, RVs.ints t]
theorem RVs.of_ints : ∀ (ns : List Int), RVs K H (ns.map V.int) (ns.map W.int)
  | [] => .nil
  | n :: ns => .cons (.int n) (RVs.of_ints ns)
theorem RVs.bls : ∀ {ns : List Bool} {vs : List V}, RVs K H vs (ns.map W.bl) → vs = ns.map V.bl
  | [], _, .nil => rfl
  | n :: ns, _, .cons r t => by
    cases r
    rw [List.map_cons, RVs.bls t]
end
inductive GO where
  /-- a list that may be written -/
  | lst (ws : List W)
  /-- a dict with keys ints and texts; with keys that are tuples of these -/
  | dK (kws : List (Key × W)) | dT (kws : List (List Key × W))
  /-- an instance -/
  | ins (c : Str) (fs : List (Str × W))
  /-- any other thing that is tracked -/
  | ho (u : HO)
  /-- the table of the def x's code objects of lambdas; they bear the name q -/
  | tab (x q : Str)
abbrev GH := Addr → Option GO
def updG (G : GH) (a : Addr) (o : GO) : GH := fun b => if b = a then some o else G b
theorem updG_same {G : GH} {a : Addr} {o : GO} : updG G a o a = some o := by unfold updG; rw [if_pos rfl]
theorem updG_ne {G : GH} {a b : Addr} {o : GO} (h : b ≠ a) : updG G a o b = G b := by unfold updG; rw [if_neg h]
theorem updG_updG {G : GH} {a : Addr} {o u : GO} : updG (updG G a o) a u = updG G a u := by
  funext b; unfold updG; split <;> rfl
theorem neG {G : GH} {a b : Addr} {o : GO} (h : G a = some o) (h' : G b = none) : a ≠ b := by
  intro e; subst e; rw [h] at h'; cases h'
def NoTup : HO → Prop
  | .tup _ => False
  | .frz _ _ => False
  | .ext φ => ∀ h, φ h → ∃ (D : Addr) (o : Obj), h.get? D = some o ∧ ∀ vs, o.data ≠ .fields vs
  | .xd _ => False
  | _ => True
def recs (n : Nat) (o : Obj) : Heap := ⟨Array.replicate n o, {}⟩
theorem recs_at {n : Nat} {o : Obj} {a : Addr} {vs : Array Value} (hd : o.data = .fields vs) (h : a < n) : (recs n o).get? a = some o := by
  obtain ⟨c, d, dt, sl⟩ := o
  subst hd
  unfold recs Heap.get?
  simp [h]
theorem recs_data {n : Nat} {o x : Obj} {a : Addr} (h : (recs n o).get? a = some x) : x = o := by
  have h1 := (Heap.get?_some_iff.mp h).1
  unfold recs at h1
  rw [Array.getElem?_replicate] at h1
  split at h1
  · exact (Option.some.inj h1).symm
  · cases h1
theorem exH_no {cls : Value} {od : Option Addr} {a : Addr} : ¬ NoTup (ExH cls od a) := fun z => by
  obtain ⟨D, o, h1, h2⟩ := z (recs (a + 1) ⟨cls, od, .fields #[], #[]⟩) ⟨_, #[], recs_at rfl (Nat.lt_succ_self a), ⟨rfl, rfl⟩, rfl⟩
  rw [recs_data h1] at h2
  exact h2 _ rfl
theorem codeO_no {c : Addr} {q : Str} : ¬ NoTup (LamX.CodeO c q) := fun z => by
  obtain ⟨D, o, h1, h2⟩ := z (recs (c + 1) ⟨.none, none, .fields #[.none, .str q 0], #[]⟩) ⟨_, #[.none, .str q 0], 0, recs_at rfl (Nat.lt_succ_self c), rfl, rfl⟩
  rw [recs_data h1] at h2
  exact h2 _ rfl
def RKV {κ : Type} (K : PySem.W.Frag) (H : Hp) : List (κ × V) → List (κ × W) → Prop := Paired fun p q => p.1 = q.1 ∧ RV K H p.2 q.2
def RO (K : PySem.W.Frag) (H : Hp) (a : Addr) : GO → Prop
  | .lst ws => ∃ vs, H a = some (.lst vs) ∧ RVs K H vs ws
  | .dK kws => ∃ kvs, H a = some (.dK kvs) ∧ RKV K H kvs kws
  | .dT kws => ∃ kvs, H a = some (.dT kvs) ∧ RKV K H kvs kws
  | .ins c fs => ∃ C dx fvs, ClsAt K c C ∧ H a = some (.ins C dx fvs) ∧ RKV K H fvs fs
  | .ho u => H a = some u ∧ NoTup u
  | .tab x q => LamX.TabS H a q ∧ ∃ c, PySem.W.tabIn K x = some (c, a)
theorem RVs.rkv {κ : Type} {K : PySem.W.Frag} {H : Hp} : ∀ {kvs : List (κ × V)} {kws : List (κ × W)}, kvs.map (·.1) = kws.map (·.1) → RVs K H (kvs.map (·.2)) (kws.map (·.2)) → RKV K H kvs kws
  | [], [], _, _ => .nil
  | _ :: _, [], e, _ => by cases e
  | [], _ :: _, e, _ => by cases e
  | _ :: _, _ :: _, e, .cons r t => .cons ⟨(List.cons.inj e).1, r⟩ (RVs.rkv (List.cons.inj e).2 t)
def RH (K : PySem.W.Frag) (H : Hp) (G : GH) : Prop := ∀ a o, G a = some o → RO K H a o
def FR (G : GH) (H : Hp) (G' : GH) (H' : Hp) : Prop := ∀ a o, H a = some o → G a = none → H' a = some o ∧ G' a = none
section
variable {K : PySem.W.Frag} {H H' H1 H2 : Hp} {G G' G1 G2 : GH} {a p : Addr} {o x : GO} {u : HO} {v : V} {w : W} {vs us : List V} {ws : List W}
theorem FR.refl : FR G H G H := fun _ _ h g => ⟨h, g⟩
theorem FR.trans (a : FR G H G1 H1) (b : FR G1 H1 G2 H2) : FR G H G2 H2 := fun c o h g => let ⟨h1, g1⟩ := a c o h g; b c o h1 g1
theorem FR.new (hp : H p = none) : FR G H G (upd H p u) := fun c o h g => ⟨by rw [upd_ne (ne_of_none h hp)]; exact h, g⟩
theorem FR.newG (hp : H p = none) : FR G H (updG G p o) (upd H p u) := fun c y h g => by
  have ne := ne_of_none h hp
  exact ⟨by rw [upd_ne ne]; exact h, by rw [updG_ne ne]; exact g⟩
theorem FR.put (hg : G p = some x) : FR G H (updG G p o) (upd H p u) := fun c y h g => by
  have ne : c ≠ p := fun e => by subst e; rw [hg] at g; cases g
  exact ⟨by rw [upd_ne ne]; exact h, by rw [updG_ne ne]; exact g⟩
theorem FR.weak (f : FR G H G1 H1) (h : ∀ a, G1 a = none → G2 a = none) : FR G H G2 H1 := fun c o e g => let ⟨h1, g1⟩ := f c o e g; ⟨h1, h c g1⟩
theorem RO.ntup (r : RO K H a o) (h : H a = some u) : NoTup u := by
  cases o with
  | lst ws => obtain ⟨vs, q, _⟩ := r; rw [h] at q; cases q; trivial
  | dK ws => obtain ⟨vs, q, _⟩ := r; rw [h] at q; cases q; trivial
  | dT ws => obtain ⟨vs, q, _⟩ := r; rw [h] at q; cases q; trivial
  | ins C fs => obtain ⟨_, _, vs, _, q, _⟩ := r; rw [h] at q; cases q; trivial
  | ho z => obtain ⟨q, n⟩ := r; rw [h] at q; cases q; exact n
  | tab y z => obtain ⟨⟨ps, q, _⟩, _⟩ := r; rw [h] at q; cases q; trivial
theorem RH.notup (r : RH K H G) (h : H a = some u) (n : ¬ NoTup u) : G a = none := by
  cases e : G a with
  | none => rfl
  | some o => exact absurd (RO.ntup (r a o e) h) n
theorem FR.tup (f : FR G H G' H') (r : RH K H G) {xs : List V} (h : H a = some (.tup xs)) : H' a = some (.tup xs) := (f a _ h (r.notup h fun z => z)).1
theorem FR.frz (f : FR G H G' H') (r : RH K H G) {xs : List V} (h : FrzL K H a xs) : FrzL K H' a xs := by
  rcases h with ⟨o, h⟩ | h
  · exact .inl ⟨o, (f a _ h (r.notup h fun z => z)).1⟩
  · exact .inr h
theorem FR.frzO (f : FR G H G' H') (r : RH K H G) {o : Obj} {u : HO} (h : H a = some (.frz o u)) : H' a = some (.frz o u) := (f a _ h (r.notup h fun z => z)).1
theorem FR.keepN (f : FR G H G' H') (r : RH K H G) {u : HO} (h : H a = some u) (n : ¬ NoTup u) : H' a = some u := (f a _ h (r.notup h n)).1
theorem FR.exA (f : FR G H G' H') (r : RH K H G) {od : Option Addr} {fvs : List (Str × V)} (h : ExA H od fvs) : ExA H' od fvs := by
  rcases h with h | ⟨d, e, h⟩
  · exact .inl h
  · exact .inr ⟨d, e, (f d _ h (r.notup h fun z => z)).1⟩
mutual
theorem RV.mono (t : FR G H G' H') (r : RH K H G) : ∀ {v : V} {w : W}, RV K H v w → RV K H' v w
  | _, _, .non => .non
  | _, _, .bl b => .bl b
  | _, _, .int i => .int i
  | _, _, .str x => .str x
  | _, _, .ty n => .ty n
  | _, _, .ref a => .ref a
  | _, _, .tup q rs => .tup (t.tup r q) (RVs.mono t r rs)
  | _, _, .kt q rs => .kt q (RVs.mono t r rs)
  | _, _, .fl q rs => .fl (t.frz r q) (RVs.mono t r rs)
  | _, _, .fdK q e rs => .fdK (t.frzO r q) e (RVs.mono t r rs)
  | _, _, .fdT q e rs => .fdT (t.frzO r q) e (RVs.mono t r rs)
  | _, _, .fo c q e rs => .fo c (t.frzO r q) e (RVs.mono t r rs)
  | _, _, .ex c q z e rs => .ex c (t.keepN r q exH_no) (t.exA r z) e (RVs.mono t r rs)
  | _, _, .lam q => .lam (t.keepN r q codeO_no)
theorem RVs.mono (t : FR G H G' H') (r : RH K H G) : ∀ {vs : List V} {ws : List W}, RVs K H vs ws → RVs K H' vs ws
  | _, _, .nil => .nil
  | _, _, .cons q rs => .cons (RV.mono t r q) (RVs.mono t r rs)
end
theorem RKV.mono {κ : Type} {kvs : List (κ × V)} {kws : List (κ × W)} (t : FR G H G' H') (r : RH K H G) (q : RKV K H kvs kws) : RKV K H' kvs kws := Paired.mapP q fun _ _ h => ⟨h.1, h.2.mono t r⟩
theorem RKV.length {κ : Type} {kvs : List (κ × V)} {kws : List (κ × W)} (r : RKV K H kvs kws) : kvs.length = kws.length := Paired.length r
theorem RO.ex (r : RO K H a o) : ∃ u, H a = Option.some u := by
  cases o with
  | lst ws => obtain ⟨vs, h, _⟩ := r; exact ⟨_, h⟩
  | dK kws => obtain ⟨vs, h, _⟩ := r; exact ⟨_, h⟩
  | dT kws => obtain ⟨vs, h, _⟩ := r; exact ⟨_, h⟩
  | ins C fs => obtain ⟨_, _, _, _, h, _⟩ := r; exact ⟨_, h⟩
  | ho u => exact ⟨_, r.1⟩
  | tab y q => obtain ⟨⟨ps, h, _⟩, _⟩ := r; exact ⟨_, h⟩
theorem RO.keep {b : Addr} {y : GO} (r : RO K H b y) (t : FR G H G' H') (rh : RH K H G) (e : ∀ u, H b = some u → H' b = some u) : RO K H' b y := by
  cases y with
  | lst ws => obtain ⟨vs, h, rr⟩ := r; exact ⟨vs, e _ h, rr.mono t rh⟩
  | dK kws => obtain ⟨vs, h, rr⟩ := r; exact ⟨vs, e _ h, RKV.mono t rh rr⟩
  | dT kws => obtain ⟨vs, h, rr⟩ := r; exact ⟨vs, e _ h, RKV.mono t rh rr⟩
  | ins C fs => obtain ⟨D, dx, vs, c, h, rr⟩ := r; exact ⟨D, dx, vs, c, e _ h, RKV.mono t rh rr⟩
  | ho u => exact ⟨e _ r.1, r.2⟩
  | tab y q =>
    obtain ⟨⟨ps, h, h2, h3⟩, z⟩ := r
    exact ⟨⟨ps, e _ h, h2, fun pos cv hc => let ⟨c, e1, e2⟩ := h3 pos cv hc; ⟨c, e1, t.keepN rh e2 codeO_no⟩⟩, z⟩
theorem RH.new (r : RH K H G) (hp : H p = none) : RH K (upd H p u) G := fun a x e =>
  RO.keep (r a x e) (FR.new hp) r fun z h => by rw [upd_ne (ne_of_none h hp)]; exact h
theorem RH.newG (r : RH K H G) (hp : H p = none) (ro : RO K (upd H p u) p o) : RH K (upd H p u) (updG G p o) := fun a x e => by
  by_cases h : a = p
  · subst h; rw [updG_same] at e; cases e; exact ro
  · rw [updG_ne h] at e
    exact RO.keep (r a x e) (FR.new hp) r fun z q => by rw [upd_ne h]; exact q
theorem RH.put (r : RH K H G) (hg : G p = some x) (ro : RO K (upd H p u) p o) : RH K (upd H p u) (updG G p o) := fun a y e => by
  by_cases h : a = p
  · subst h; rw [updG_same] at e; cases e; exact ro
  · rw [updG_ne h] at e
    exact RO.keep (r a y e) (FR.put (o := o) hg) r fun z q => by rw [upd_ne h]; exact q
theorem RH.weak (r : RH K H G) (h : ∀ a o, G' a = some o → G a = some o) : RH K H G' := fun a o e => r a o (h a o e)
theorem RH.free (r : RH K H G) (hp : H p = none) : G p = none := by
  cases e : G p with
  | none => rfl
  | some o =>
    obtain ⟨u, h⟩ := RO.ex (r p o e)
    rw [hp] at h; cases h
end
abbrev WSt := List (Option W)
def OV (K : PySem.W.Frag) (H : Hp) (ov : Option V) (ow : Option W) : Prop := ∀ w : W, ow = some w → ∃ v, ov = some v ∧ RV K H v w
structure SR (K : PySem.W.Frag) (Z : GH × Hp) (σ : L2.St) (H : Hp) (S : WSt) (G : GH) : Prop where
  tk : FR Z.1 Z.2 G H
  rs : Paired (OV K H) σ S
  rh : RH K H G
theorem Paired.get2 {α β : Type} {F : α → β → Prop} : ∀ {l₁ : List α} {l₂ : List β} {i : Nat} {y : β}, Paired F l₁ l₂ → l₂[i]? = some y → ∃ x, l₁[i]? = some x ∧ F x y
  | _, _, _, _, .nil, e => by simp at e
  | _, _, 0, _, .cons r _, e => by simp at e; subst e; exact ⟨_, rfl, r⟩
  | _, _, i + 1, y, .cons _ t, e => by
    obtain ⟨u, h1, h2⟩ := Paired.get2 (i := i) (y := y) t (by simpa using e)
    exact ⟨u, by simpa using h1, h2⟩
theorem Paired.set2 {α β : Type} {F : α → β → Prop} {x : α} {y : β} (r : F x y) : ∀ {l₁ : List α} {l₂ : List β} (i : Nat), Paired F l₁ l₂ → Paired F (l₁.set i x) (l₂.set i y)
  | _, _, _, .nil => .nil
  | _, _, 0, .cons _ t => .cons r t
  | _, _, i + 1, .cons q t => .cons q (Paired.set2 r i t)
section
variable {K : PySem.W.Frag} {Z : GH × Hp} {H H' : Hp} {σ : L2.St} {S : WSt} {G G' : GH}
theorem SR.next (r : SR K Z σ H S G) (t : FR G H G' H') (h : RH K H' G') : SR K Z σ H' S G' :=
  ⟨r.tk.trans t, Paired.mapP r.rs fun ov ow f w e => let ⟨v, h1, h2⟩ := f w e; ⟨v, h1, h2.mono t r.rh⟩, h⟩
theorem SR.get (r : SR K Z σ H S G) {i : Nat} {w : W} (e : S[i]? = some (some w)) : ∃ v, σ[i]? = some (some v) ∧ RV K H v w := by
  obtain ⟨ov, h1, h2⟩ := Paired.get2 r.rs e
  obtain ⟨v, rfl, h3⟩ := h2 w rfl
  exact ⟨v, h1, h3⟩
theorem SR.set (r : SR K Z σ H S G) {i : Nat} {v : V} {w : W} (e : RV K H v w) : SR K Z (σ.set i (some v)) H (S.set i (some w)) G :=
  ⟨r.tk, Paired.set2 (show OV K H (some v) (some w) from fun w' e' => by cases e'; exact ⟨v, rfl, e⟩) i r.rs, r.rh⟩
theorem SR.unset (r : SR K Z σ H S G) {i : Nat} : SR K Z (σ.set i none) H (S.set i none) G :=
  ⟨r.tk, Paired.set2 (show OV K H none none from fun w' e' => by cases e') i r.rs, r.rh⟩
end
abbrev KW := W → GH → Prop
abbrev TW := WSt → GH → KW → Prop
abbrev TWT := WSt → GH → (Bool → GH → Prop) → Prop
abbrev TWA := WSt → GH → (List W → GH → Prop) → Prop
structure WEnds where
  nx : WSt → GH → Prop
  rt : KW
  bk : WSt → GH → Prop := fun _ _ => False
  ct : WSt → GH → Prop := fun _ _ => False
abbrev TWS := WEnds → WSt → GH → Prop
def LK (K : PySem.W.Frag) (G : GH) (H : Hp) (R : KW) (Q : VK) : Prop := ∀ w G' v H', R w G' → FR G H G' H' → RV K H' v w → RH K H' G' → Q v H'
def Lf (K : PySem.W.Frag) (Z : GH × Hp) (T : TW) : TE := fun σ H Q => ∃ S G R, SR K Z σ H S G ∧ T S G R ∧ LK K G H R Q
def LfT (K : PySem.W.Frag) (Z : GH × Hp) (T : TWT) : TT := fun σ H Q => ∃ S G R, SR K Z σ H S G ∧ T S G R ∧ ∀ b G' H', R b G' → FR G H G' H' → RH K H' G' → Q b H'
def LfA (K : PySem.W.Frag) (Z : GH × Hp) (T : TWA) : TA := fun σ H Q => ∃ S G R, SR K Z σ H S G ∧ T S G R ∧ ∀ ws G' vs H', R ws G' → FR G H G' H' → RVs K H' vs ws → RH K H' G' → Q vs H'
structure LD (K : PySem.W.Frag) (Z : GH × Hp) (G : GH) (H : Hp) (DW : WEnds) (D : Ends) : Prop where
  nx : ∀ S G' σ H', DW.nx S G' → SR K Z σ H' S G' → FR G H G' H' → D.nx σ H'
  rt : ∀ w G' v H', DW.rt w G' → FR G H G' H' → RV K H' v w → RH K H' G' → D.rt v H'
  bk : ∀ S G' σ H', DW.bk S G' → SR K Z σ H' S G' → FR G H G' H' → D.bk σ H'
  ct : ∀ S G' σ H', DW.ct S G' → SR K Z σ H' S G' → FR G H G' H' → D.ct σ H'
def LfS (K : PySem.W.Frag) (Z : GH × Hp) (T : TWS) : TS := fun D σ H => ∃ S G DW, SR K Z σ H S G ∧ T DW S G ∧ LD K Z G H DW D
theorem LD.from_ {K : PySem.W.Frag} {Z : GH × Hp} {G G1 : GH} {H H1 : Hp} {DW : WEnds} {D : Ends} (l : LD K Z G H DW D) (f : FR G H G1 H1) : LD K Z G1 H1 DW D :=
  ⟨fun S G' σ H' d sr g => l.nx S G' σ H' d sr (f.trans g), fun w G' v H' d g => l.rt w G' v H' d (f.trans g), fun S G' σ H' d sr g => l.bk S G' σ H' d sr (f.trans g), fun S G' σ H' d sr g => l.ct S G' σ H' d sr (f.trans g)⟩
section
variable (X : Cx) (Z : GH × Hp)
def WE (e : Expr) (T : TW) : Prop := PE X e (Lf X.K Z T)
def WT (e : Expr) (T : TWT) : Prop := PT X e (LfT X.K Z T)
def WP (e : Expr) (T : TWT) : Prop := PW X e (LfT X.K Z T)
def WA (es : List Expr) (T : TWA) : Prop := PA X es (LfA X.K Z T)
def WS (s : Stmt) (T : TWS) : Prop := PS X s (LfS X.K Z T)
def WSs (s : List Stmt) (T : TWS) : Prop := PSs X s (LfS X.K Z T)
end
theorem _root_.L2.PE.weak {X : Cx} {e : Expr} {t t' : TE} (h : PE X e t) (w : ∀ σ H Q, t' σ H Q → t σ H Q) : PE X e t' := ⟨fun pins s σ H Q I q => h.run pins s σ H Q I (w σ H Q q)⟩
theorem _root_.L2.PT.weak {X : Cx} {e : Expr} {t t' : TT} (h : PT X e t) (w : ∀ σ H Q, t' σ H Q → t σ H Q) : PT X e t' := ⟨fun pins s σ H Q I q => h.run pins s σ H Q I (w σ H Q q)⟩
theorem _root_.L2.PW.weak {X : Cx} {e : Expr} {t t' : TT} (h : PW X e t) (w : ∀ σ H Q, t' σ H Q → t σ H Q) : PW X e t' := ⟨fun wh pins s σ H Q I q => h.run wh pins s σ H Q I (w σ H Q q)⟩
theorem _root_.L2.PA.weak {X : Cx} {e : List Expr} {t t' : TA} (h : PA X e t) (w : ∀ σ H Q, t' σ H Q → t σ H Q) : PA X e t' := ⟨fun p pins s σ H Q I q => h.run p pins s σ H Q I (w σ H Q q)⟩
theorem _root_.L2.PS.weak {X : Cx} {e : Stmt} {t t' : TS} (h : PS X e t) (w : ∀ D σ H, t' D σ H → t D σ H) : PS X e t' := ⟨fun pins s σ H D I q => h.run pins s σ H D I (w D σ H q)⟩
theorem _root_.L2.PSs.weak {X : Cx} {e : List Stmt} {t t' : TS} (h : PSs X e t) (w : ∀ D σ H, t' D σ H → t D σ H) : PSs X e t' := ⟨fun pins s σ H D I q => h.run pins s σ H D I (w D σ H q)⟩
end WL
set_option Elab.async false
set_option linter.all false
set_option maxRecDepth 100000
set_option maxHeartbeats 2000000
namespace WL
open PySem PySem.Spec PyProof.Rows L2
section
variable {X : Cx} {Z : GH × Hp} {a b c e : Expr} {Ta Tb Tc : TW} {pos : Pos}
theorem Lf.go {K : PySem.W.Frag} {σ : L2.St} {H : Hp} {S : WSt} {G : GH} {T : TW} {R : KW} {Q : VK} (sr : SR K Z σ H S G) (t : T S G R) (k : ∀ w G' v H', R w G' → FR G H G' H' → RV K H' v w → RH K H' G' → Q v H') : Lf K Z T σ H Q := ⟨S, G, R, sr, t, k⟩
abbrev R2W := W → W → GH → KW → Prop
def l2 (K : PySem.W.Frag) (r : R2W) : R2 := fun x y H Q => ∃ w1 w2 G R, RV K H x w1 ∧ RV K H y w2 ∧ RH K H G ∧ r w1 w2 G R ∧ LK K G H R Q
def tOpW (r : R2W) (Ta Tb : TW) : TW := fun S G R => Ta S G fun w1 G1 => Tb S G1 fun w2 G2 => r w1 w2 G2 R
theorem lf2 {K : PySem.W.Frag} {r : R2W} (σ : L2.St) (H : Hp) (Q : VK) (h : Lf K Z (tOpW r Ta Tb) σ H Q) : tOp (l2 K r) (Lf K Z Ta) (Lf K Z Tb) σ H Q := by
  obtain ⟨S, G, R, sr, t, k⟩ := h
  refine Lf.go sr t fun w1 G1 x H1 t1 tk1 r1 h1 => ?_
  refine Lf.go (sr.next tk1 h1) t1 fun w2 G2 y H2 t2 tk2 r2 h2 => ?_
  exact ⟨w1, w2, G2, R, r1.mono tk2 h1, r2, h2, t2, fun w G' v H' q tk rv rh => k w G' v H' q (tk1.trans (tk2.trans tk)) rv rh⟩
def OpW (X : Cx) (f : Value → Value → Sem Value) (r : R2W) : Prop := OpR X f (l2 X.K r)
theorem we_op {op : Operator} {r : R2W} (ho : OpW X (binaryOp op) r) (ha : WE X Z a Ta) (hb : WE X Z b Tb) : WE X Z (.BinOp a op b pos) (tOpW r Ta Tb) := (pe_op ho ha hb).weak lf2
theorem we_cmp {op : CmpOp} {r : R2W} (ho : OpW X (compareOp op) r) (ha : WE X Z a Ta) (hb : WE X Z b Tb) (hm : behindInMarks op b = false) : WE X Z (.Compare a [op] [b] pos) (tOpW r Ta Tb) := (pe_cmpR ho ha hb hm).weak lf2
def boolW (w : W) (G : GH) (R : Bool → GH → Prop) : Prop := match w with
  | .bl b => R b G
  | _ => False
def tTestW (T : TW) : TWT := fun S G R => T S G fun w G1 => boolW w G1 R
theorem lfTest {K : PySem.W.Frag} {T : TW} (σ : L2.St) (H : Hp) (Q : Bool → Hp → Prop) (h : LfT K Z (tTestW T) σ H Q) : tTest (Lf K Z T) σ H Q := by
  obtain ⟨S, G, R, sr, t, k⟩ := h
  refine Lf.go sr t fun w G1 v H1 t1 tk rv rh => ?_
  cases w with
  | bl b => cases rv; exact ⟨b, rfl, k b G1 H1 t1 tk rh⟩
  | _ => exact t1.elim
theorem wt_cmp {op : CmpOp} {r : R2W} (ho : OpW X (compareOp op) r) (ha : WE X Z a Ta) (hb : WE X Z b Tb) (hm : behindInMarks op b = false) : WT X Z (.Compare a [op] [b] pos) (tTestW (tOpW r Ta Tb)) :=
  (pt_cmpR ho ha hb hm).weak fun σ H Q h => lfTest' (fun σ H Q q => lf2 σ H Q q) σ H Q h
where lfTest' {K : PySem.W.Frag} {T : TW} {t : TE} (hw : ∀ σ H Q, Lf K Z T σ H Q → t σ H Q) (σ : L2.St) (H : Hp) (Q : Bool → Hp → Prop) (h : LfT K Z (tTestW T) σ H Q) : tTest t σ H Q := hw _ _ _ (lfTest σ H Q h)
def tChainW (r r' : R2W) (Ta Tb Tc : TW) : TW := fun S G R => Ta S G fun x G1 => Tb S G1 fun y G2 => r x y G2 fun z G3 => boolW z G3 fun k G3 => if k = true then Tc S G3 fun w' G4 => r' y w' G4 R else R (.bl false) G3
theorem lfChain {K : PySem.W.Frag} {r r' : R2W} (σ : L2.St) (H : Hp) (Q : VK) (h : Lf K Z (tChainW r r' Ta Tb Tc) σ H Q) : tChain (l2 K r) (l2 K r') (Lf K Z Ta) (Lf K Z Tb) (Lf K Z Tc) σ H Q := by
  obtain ⟨S, G, R, sr, t, k⟩ := h
  refine Lf.go sr t fun w1 G1 x H1 t1 tk1 r1 h1 => ?_
  refine Lf.go (sr.next tk1 h1) t1 fun w2 G2 y H2 t2 tk2 r2 h2 => ?_
  refine ⟨w1, w2, G2, _, r1.mono tk2 h1, r2, h2, t2, fun z G3 v H3 t3 tk3 r3 h3 => ?_⟩
  cases z with
  | bl b =>
    cases r3
    refine ⟨b, rfl, ?_⟩
    cases b with
    | false => exact iteF (k _ _ _ _ t3 (tk1.trans (tk2.trans tk3)) (.bl false) h3)
    | true =>
      refine iteT ?_
      refine Lf.go ((sr.next tk1 h1).next (tk2.trans tk3) h3) t3 fun w4 G4 y4 H4 t4 tk4 r4 h4 => ?_
      exact ⟨w2, w4, G4, R, (r2.mono tk3 h2).mono tk4 h3, r4, h4, t4, fun w G' v H' q tk rv rh => k w G' v H' q (tk1.trans (tk2.trans (tk3.trans (tk4.trans tk)))) rv rh⟩
  | _ => exact (show False from t3).elim
theorem we_chain {op op' : CmpOp} {r r' : R2W} (ho : OpW X (compareOp op) r) (ho' : OpW X (compareOp op') r') (ha : WE X Z a Ta) (hb : WE X Z b Tb) (hc : WE X Z c Tc)
    (hm : lastMarks [op, op'] [b, c] = false := by with_unfolding_all rfl) : WE X Z (.Compare a [op, op'] [b, c] pos) (tChainW r r' Ta Tb Tc) := (pe_chain ho ho' ha hb hc hm).weak lfChain
theorem wt_chain {op op' : CmpOp} {r r' : R2W} (ho : OpW X (compareOp op) r) (ho' : OpW X (compareOp op') r') (ha : WE X Z a Ta) (hb : WE X Z b Tb) (hc : WE X Z c Tc)
    (hm : lastMarks [op, op'] [b, c] = false := by with_unfolding_all rfl) : WT X Z (.Compare a [op, op'] [b, c] pos) (tTestW (tChainW r r' Ta Tb Tc)) :=
  (pt_chain ho ho' ha hb hc hm).weak fun σ H Q h => lfChain _ _ _ (lfTest σ H Q h)
def truW (w : W) (G : GH) (R : Bool → GH → Prop) : Prop := match w with
  | .bl b => R b G
  | .non => R false G
  | .int i => R (i != 0) G
  | .str x => x.length ≤ sizeLine ∧ R ((x.length : Int) != 0) G
  | .tup xs => R (!xs.isEmpty) G
  | .kt xs => R (!xs.isEmpty) G
  | .fl xs => R (!xs.isEmpty) G
  | .ref p => match G p with
    | some (.lst xs) => R (!xs.isEmpty) G
    | some (.dK kws) => R (!kws.isEmpty) G
    | _ => False
  | _ => False
theorem tru_of {K : PySem.W.Frag} {w : W} {G : GH} {R : Bool → GH → Prop} {v : V} {H : Hp} (t : truW w G R) (rv : RV K H v w) (rh : RH K H G) : ∃ k, TruV K v H k ∧ R k G := by
  cases w with
  | bl b => cases rv; exact ⟨b, rfl, t⟩
  | non => cases rv; exact ⟨false, rfl, t⟩
  | int i => cases rv; exact ⟨_, rfl, t⟩
  | str x => cases rv; exact ⟨_, ⟨t.1, rfl⟩, t.2⟩
  | tup xs =>
    cases rv with
    | tup q rs =>
      refine ⟨_, .inr (.inl ⟨_, SqT.of q, rfl⟩), ?_⟩
      have t' : R (!xs.isEmpty) G := t
      cases rs <;> exact t'
  | kt xs =>
    cases rv with
    | kt q rs =>
      refine ⟨_, .inr (.inl ⟨_, q.seq, rfl⟩), ?_⟩
      have t' : R (!xs.isEmpty) G := t
      cases rs <;> exact t'
  | fl xs =>
    cases rv with
    | fl q rs =>
      refine ⟨_, .inl ⟨_, q.seq, rfl⟩, ?_⟩
      have t' : R (!xs.isEmpty) G := t
      cases rs <;> exact t'
  | ref p =>
    cases rv
    unfold truW at t
    cases e : G p with
    | none => simp only [e] at t
    | some o =>
      cases o with
      | lst xs =>
        simp only [e] at t
        obtain ⟨vs, h, rs⟩ := rh _ _ e
        refine ⟨_, .inl ⟨_, SqL.of h, rfl⟩, ?_⟩
        cases rs <;> exact t
      | dK kws =>
        simp only [e] at t
        obtain ⟨vs, h, rs⟩ := rh _ _ e
        refine ⟨_, .inr (.inr ⟨_, h, rfl⟩), ?_⟩
        cases rs <;> exact t
      | _ => simp only [e] at t
  | _ => exact (show False from t).elim
def tTruW (T : TW) : TWT := fun S G R => T S G fun w G1 => truW w G1 R
theorem wt_truth (ha : WE X Z a Ta) (he : ∀ whole, isTrue a X.env whole = (do let v ← whole; standAt a.pos; holding [v] (truthy v)) := by intro _; rfl) : WT X Z a (tTruW Ta) :=
  (pt_truth ha he).weak fun σ H Q h => by
    obtain ⟨S, G, R, sr, t, k⟩ := h
    refine Lf.go sr t fun w G1 v H1 t1 tk rv rh => ?_
    obtain ⟨b, h1, h2⟩ := tru_of t1 rv rh
    exact ⟨b, h1, k _ _ _ h2 tk rh⟩
variable {rest : List Expr} {tA tB : TWT}
def tAndW (t u : TWT) : TWT := fun S G R => t S G fun c G1 => if c = true then u S G1 R else R false G1
def tOrW (t u : TWT) : TWT := fun S G R => t S G fun c G1 => if c = true then R true G1 else u S G1 R
def tNotW (t : TWT) : TWT := fun S G R => t S G fun c G1 => R (!c) G1
theorem LfT.go {K : PySem.W.Frag} {σ : L2.St} {H : Hp} {S : WSt} {G : GH} {T : TWT} {R : Bool → GH → Prop} {Q : Bool → Hp → Prop} (sr : SR K Z σ H S G) (t : T S G R) (k : ∀ w G' H', R w G' → FR G H G' H' → RH K H' G' → Q w H') : LfT K Z T σ H Q := ⟨S, G, R, sr, t, k⟩
theorem wp_and1 (ha : WT X Z a tA) : WP X Z (.BoolOp .And [a] pos) tA := pw_and1 ha
theorem wp_or1 (ha : WT X Z a tA) : WP X Z (.BoolOp .Or [a] pos) tA := pw_or1 ha
theorem wp_and (ha : WT X Z a tA) (hb : WP X Z (.BoolOp .And (b :: rest) pos) tB) : WP X Z (.BoolOp .And (a :: b :: rest) pos) (tAndW tA tB) :=
  (pw_and ha hb).weak fun σ H Q h => by
    obtain ⟨S, G, R, sr, t, k⟩ := h
    refine LfT.go sr t fun b G1 H1 t1 tk rh => ?_
    cases b with
    | true => exact iteT (LfT.go (sr.next tk rh) t1 fun b G2 H2 t2 tk2 rh2 => k _ _ _ t2 (tk.trans tk2) rh2)
    | false => exact iteF (k _ _ _ t1 tk rh)
theorem wp_or (ha : WT X Z a tA) (hb : WP X Z (.BoolOp .Or (b :: rest) pos) tB) : WP X Z (.BoolOp .Or (a :: b :: rest) pos) (tOrW tA tB) :=
  (pw_or ha hb).weak fun σ H Q h => by
    obtain ⟨S, G, R, sr, t, k⟩ := h
    refine LfT.go sr t fun b G1 H1 t1 tk rh => ?_
    cases b with
    | true => exact iteT (k _ _ _ t1 tk rh)
    | false => exact iteF (LfT.go (sr.next tk rh) t1 fun b G2 H2 t2 tk2 rh2 => k _ _ _ t2 (tk.trans tk2) rh2)
theorem wp_t (h : WP X Z e tA) : WT X Z e tA := PW.pt h
theorem wt_not (ha : WT X Z a tA) : WT X Z (.UnaryOp .Not a pos) (tNotW tA) :=
  (pt_not ha).weak fun σ H Q h => by
    obtain ⟨S, G, R, sr, t, k⟩ := h
    exact LfT.go sr t fun b G1 H1 t1 tk rh => k _ _ _ t1 tk rh
def tAndE (Ta Tb : TW) : TW := fun S G R => Ta S G fun x G1 => truW x G1 fun k G1 => if k = true then Tb S G1 R else R x G1
def tNotE (Ta : TW) : TW := fun S G R => Ta S G fun x G1 => truW x G1 fun k G1 => R (.bl (!k)) G1
theorem we_one {op} {T : TW} (h : WE X Z a T) : WE X Z (.BoolOp op [a] pos) T := pe_one h
theorem we_and (ha : WE X Z a Ta) (hb : WE X Z (.BoolOp .And (b :: rest) pos) Tb) : WE X Z (.BoolOp .And (a :: b :: rest) pos) (tAndE Ta Tb) :=
  (pe_andT ha hb).weak fun σ H Q h => by
    obtain ⟨S, G, R, sr, t, k⟩ := h
    refine Lf.go sr t fun w G1 v H1 t1 tk rv rh => ?_
    obtain ⟨c, h1, h2⟩ := tru_of t1 rv rh
    refine ⟨c, h1, ?_⟩
    cases c with
    | true => exact iteT (Lf.go (sr.next tk rh) h2 fun b G2 v2 H2 t2 tk2 rv2 rh2 => k _ _ _ _ t2 (tk.trans tk2) rv2 rh2)
    | false => exact iteF (k _ _ _ _ h2 tk rv rh)
theorem we_not (ha : WE X Z a Ta) : WE X Z (.UnaryOp .Not a pos) (tNotE Ta) :=
  (pe_notT ha).weak fun σ H Q h => by
    obtain ⟨S, G, R, sr, t, k⟩ := h
    refine Lf.go sr t fun w G1 v H1 t1 tk rv rh => ?_
    obtain ⟨c, h1, h2⟩ := tru_of t1 rv rh
    exact ⟨c, h1, k _ _ _ _ h2 tk (.bl _) rh⟩
def tIfE (t : TWT) (Ta Tb : TW) : TW := fun S G R => t S G fun c G1 => if c = true then Ta S G1 R else Tb S G1 R
theorem we_if {c : Expr} (hc : WT X Z c tA) (ha : WE X Z a Ta) (hb : WE X Z b Tb) : WE X Z (.IfExp c a b pos) (tIfE tA Ta Tb) :=
  (pe_ifExp hc ha hb).weak fun σ H Q h => by
    obtain ⟨S, G, R, sr, t, k⟩ := h
    refine LfT.go sr t fun c G1 H1 t1 tk rh => ?_
    cases c with
    | true => exact iteT (Lf.go (sr.next tk rh) t1 fun b G2 v2 H2 t2 tk2 rv2 rh2 => k _ _ _ _ t2 (tk.trans tk2) rv2 rh2)
    | false => exact iteF (Lf.go (sr.next tk rh) t1 fun b G2 v2 H2 t2 tk2 rv2 rh2 => k _ _ _ _ t2 (tk.trans tk2) rv2 rh2)
def tV (i : Nat) : TW := fun S G R => match S[i]? with
  | some (some w) => R w G
  | _ => False
def tK (w : W) : TW := fun _ G R => R w G
theorem we_v (i : Nat) {x : Str} (hN : X.N[i]? = some x := by rfl) (hv : Vis X.env.scope x := by first | exact Or.inl rfl | exact Or.inr (Or.inl rfl) | exact Or.inr (Or.inr rfl)) (hd : (x == ("__debug__" : Str)) = false := by decide)
    (hcd : (x == ("__classdict__" : Str)) = false := by decide) : WE X Z (.Name x pos) (tV i) := (pe_var hN hv hd hcd).weak fun σ H Q h => by
  obtain ⟨S, G, R, sr, t, k⟩ := h
  unfold tV at t
  split at t
  · rename_i w e
    obtain ⟨v, h1, h2⟩ := sr.get e
    exact ⟨v, h1, k _ _ _ _ t .refl h2 sr.rh⟩
  · exact t.elim
theorem we_c {v : V} {w : W} (h : PE X e (tC v)) (rv : ∀ H, RV X.K H v w) : WE X Z e (tK w) := h.weak fun σ H Q h => by
  obtain ⟨S, G, R, sr, t, k⟩ := h
  exact k _ _ _ _ t .refl (rv H) sr.rh
theorem we_int {i j} : WE X Z (.Constant (.int i) j pos) (tK (.int i)) := we_c pe_int fun _ => .int i
theorem we_bl {i j} : WE X Z (.Constant (.bool i) j pos) (tK (.bl i)) := we_c pe_bl fun _ => .bl i
theorem we_non {j} : WE X Z (.Constant .none j pos) (tK .non) := we_c pe_non fun _ => .non
theorem we_str {x j} : WE X Z (.Constant (.str x) j pos) (tK (.str x)) := we_c pe_str fun _ => .str x
theorem we_glob {x : Str} {v : V} {w : W} {u : Value} (hg : Gl X x) (hm : X.mg x = some u) (r : RelV v u) (rv : ∀ H, RV X.K H v w) (hd : (x == ("__debug__" : Str)) = false := by decide) : WE X Z (.Name x pos) (tK w) := we_c (pe_glob hg hm r hd) rv
theorem we_ty {x : Str} {n : String} (hg : Gl X x) (hm : X.mg x = none) (hv : bootBuiltins x = some (.type n)) (hn : x ≠ "__name__" := by decide) (hd : (x == ("__debug__" : Str)) = false := by decide) : WE X Z (.Name x pos) (tK (.ty n)) :=
  we_c (pe_bltn (v := .ty n) hg hm hv rfl hn hd) fun _ => .ty n
variable {es : List Expr} {Tr : TWA}
theorem LfA.go {K : PySem.W.Frag} {σ : L2.St} {H : Hp} {S : WSt} {G : GH} {T : TWA} {R : List W → GH → Prop} {Q : List V → Hp → Prop} (sr : SR K Z σ H S G) (t : T S G R) (k : ∀ ws G' vs H', R ws G' → FR G H G' H' → RVs K H' vs ws → RH K H' G' → Q vs H') : LfA K Z T σ H Q := ⟨S, G, R, sr, t, k⟩
def tN : TWA := fun _ G R => R [] G
def tCo (Ta : TW) (Tr : TWA) : TWA := fun S G R => Ta S G fun w G1 => Tr S G1 fun ws G2 => R (w :: ws) G2
theorem wa_nil : WA X Z [] tN := pa_nil.weak fun σ H Q h => by
  obtain ⟨S, G, R, sr, t, k⟩ := h
  exact k _ _ _ _ t .refl .nil sr.rh
theorem wa_cons (ha : WE X Z e Ta) (hr : WA X Z es Tr) (hs : starEach (e :: es) X.env = (false, eval e X.env) :: starEach es X.env := by rfl) : WA X Z (e :: es) (tCo Ta Tr) := (pa_cons ha hr hs).weak fun σ H Q h => by
  obtain ⟨S, G, R, sr, t, k⟩ := h
  refine Lf.go sr t fun w G1 v H1 t1 tk rv rh => ?_
  refine LfA.go (sr.next tk rh) t1 fun ws G2 vs H2 t2 tk2 rv2 rh2 => ?_
  exact k _ _ _ _ t2 (tk.trans tk2) (.cons (rv.mono tk2 rh) rv2) rh2
def tTupW (T : TWA) : TW := fun S G R => T S G fun ws G1 => ws.length ≤ sizeLine ∧ R (.tup ws) G1
def tLstW (T : TWA) : TW := fun S G R => T S G fun ws G1 => ws.length ≤ sizeLine ∧ ∀ p, G1 p = none → R (.ref p) (updG G1 p (.lst ws))
theorem we_tup {x1} (h : WA X Z es Tr) : WE X Z (.Tuple es x1 pos) (tTupW Tr) := (pe_tup h).weak fun σ H Q h => by
  obtain ⟨S, G, R, sr, t, k⟩ := h
  refine LfA.go sr t fun ws G1 vs H1 t1 tk rs rh => ⟨by rw [rs.length]; exact t1.1, fun p hp => ?_⟩
  exact k _ _ _ _ t1.2 (tk.trans (.new hp)) (.tup upd_same (rs.mono (.new hp) rh)) (rh.new hp)
theorem we_lst (h : WA X Z es Tr) : WE X Z (.List es pos) (tLstW Tr) := (pe_lst h).weak fun σ H Q h => by
  obtain ⟨S, G, R, sr, t, k⟩ := h
  refine LfA.go sr t fun ws G1 vs H1 t1 tk rs rh => ⟨by rw [rs.length]; exact t1.1, fun p hp => ?_⟩
  exact k _ _ _ _ (t1.2 p (rh.free hp)) (tk.trans (.newG hp)) (.ref p) (rh.newG hp ⟨vs, upd_same, rs.mono (.new hp) rh⟩)
end
end WL
set_option Elab.async false
set_option linter.all false
set_option maxRecDepth 100000
set_option maxHeartbeats 4000000
namespace WL
open PySem PySem.Spec PyProof.Rows L2
mutual
inductive PD (G : GH) : W → PyData → Prop
  | non : PD G .non .none
  | bl (b : Bool) : PD G (.bl b) (.bool b)
  | int (i : Int) : PD G (.int i) (.int i)
  | str (x : Str) : PD G (.str x) (.str x)
  | tup {ws : List W} {ds : List PyData} : PDs G ws ds → PD G (.tup ws) (.tuple ds)
  | kt {ws : List W} {ds : List PyData} : PDs G ws ds → PD G (.kt ws) (.tuple ds)
  | fl {ws : List W} {ds : List PyData} : PDs G ws ds → PD G (.fl ws) (.list ds)
  | lst {p : Addr} {ws : List W} {ds : List PyData} : G p = some (.lst ws) → PDs G ws ds → PD G (.ref p) (.list ds)
inductive PDs (G : GH) : List W → List PyData → Prop
  | nil : PDs G [] []
  | cons {w : W} {ws : List W} {d : PyData} {ds : List PyData} : PD G w d → PDs G ws ds → PDs G (w :: ws) (d :: ds)
end
mutual
theorem PD.plain {G : GH} : ∀ {w : W} {d : PyData}, PD G w d → d.plain = true
  | _, _, .non => rfl
  | _, _, .bl _ => rfl
  | _, _, .int _ => rfl
  | _, _, .str _ => rfl
  | _, _, .tup q => PDs.plain q
  | _, _, .kt q => PDs.plain q
  | _, _, .fl q => PDs.plain q
  | _, _, .lst _ q => PDs.plain q
theorem PDs.plain {G : GH} : ∀ {w : List W} {d : List PyData}, PDs G w d → PyData.plainAll d = true
  | _, _, .nil => rfl
  | _, _, .cons q r => by
    simp only [PyData.plainAll, PD.plain q, PDs.plain r, Bool.and_self]
end
mutual
theorem PD.dp {K : PySem.W.Frag} {H : Hp} {G : GH} (rh : RH K H G) : ∀ {v : V} {w : W} {d : PyData}, RV K H v w → PD G w d → Dp K H v d
  | _, _, _, r, .non => by cases r; exact Dp.non
  | _, .bl b, _, r, .bl _ => by cases r; exact Dp.bl b
  | _, .int b, _, r, .int _ => by cases r; exact Dp.int b
  | _, .str b, _, r, .str _ => by cases r; exact Dp.str b
  | _, _, _, r, .tup p => by
    cases r with
    | tup q rs => exact .tup (SqT.of q) (PDs.dp rh rs p)
  | _, _, _, r, .kt p => by
    cases r with
    | kt q rs => exact .tup q.seq (PDs.dp rh rs p)
  | _, _, _, r, .fl p => by
    cases r with
    | fl q rs => exact .lst q.seq (PDs.dp rh rs p)
  | _, _, _, r, .lst e p => by
    cases r with
    | ref a =>
      obtain ⟨vs, h, rs⟩ := rh _ _ e
      exact .lst (SqL.of h) (PDs.dp rh rs p)
theorem PDs.dp {K : PySem.W.Frag} {H : Hp} {G : GH} (rh : RH K H G) : ∀ {vs : List V} {ws : List W} {ds : List PyData}, RVs K H vs ws → PDs G ws ds → DpAll K H vs ds
  | _, _, _, .nil, .nil => .nil
  | _, _, _, .cons r rs, .cons p ps => .cons (PD.dp rh r p) (PDs.dp rh rs ps)
end
theorem PDs.length {G : GH} : ∀ {ws : List W} {ds : List PyData}, PDs G ws ds → ws.length = ds.length
  | _, _, .nil => rfl
  | _, _, .cons _ r => congrArg (· + 1) (PDs.length r)
theorem PDs.ints {G : GH} : ∀ ns : List Int, PDs G (ns.map .int) (ns.map .int)
  | [] => .nil
  | n :: ns => .cons (.int n) (PDs.ints ns)
theorem PDs.map {α : Type} {G : GH} {f : α → W} {g : α → PyData} : ∀ ns : List α, (∀ n ∈ ns, PD G (f n) (g n)) → PDs G (ns.map f) (ns.map g)
  | [], _ => .nil
  | n :: ns, h => .cons (h n List.mem_cons_self) (PDs.map ns fun m hm => h m (List.mem_cons_of_mem _ hm))
section
variable {X : Cx} {Z : GH × Hp}
theorem LK.here {K : PySem.W.Frag} {H : Hp} {R : KW} {Q : VK} {w : W} {v : V} {G : GH} (k : LK K G H R Q) (t : R w G) (rv : RV K H v w) (rh : RH K H G) : Q v H := k w G v H t .refl rv rh
def lstAt (w : W) (G : GH) : Option (List W) := match w with
  | .fl xs => some xs
  | .ref p => match G p with
    | some (.lst xs) => some xs
    | _ => none
  | _ => none
theorem lst_at {K : PySem.W.Frag} {H : Hp} {G : GH} {w : W} {v : V} {xs : List W} (h : lstAt w G = some xs) (rv : RV K H v w) (rh : RH K H G) : ∃ a vs, v = .ref a ∧ SqL K H a vs ∧ RVs K H vs xs := by
  unfold lstAt at h
  split at h
  · cases h
    cases rv with
    | fl q rs => exact ⟨_, _, rfl, q.seq, rs⟩
  · split at h
    · rename_i e
      cases h
      cases rv
      obtain ⟨vs, h1, rs⟩ := rh _ _ e
      exact ⟨_, _, rfl, SqL.of h1, rs⟩
    · cases h
  · cases h
def rCatL (K : PySem.W.Frag) : R2 := fun x y H Q => ∃ l b xs zs, x = .ref l ∧ y = .ref b ∧ SqL K H l xs ∧ SqL K H b zs ∧ xs.length + zs.length ≤ sizeLine ∧ ∀ p, H p = none → Q (.ref p) (upd H p (.lst (xs ++ zs)))
theorem op_catL : OpR X (binaryOp .Add) (rCatL X.K) := by
  intro pins s σ H x y v u Q I rx ry h
  obtain ⟨l, b, xs, zs, rfl, rfl, hH, hB, hz, q⟩ := h
  cases rx
  cases ry
  obtain ⟨its, r, ⟨⟨cls, dd, data, sl⟩, n, e, hc, hd, hdat⟩, hl⟩ := I.list hH
  obtain ⟨its2, r2, ⟨⟨cls2, dd2, data2, sl2⟩, n2, e2, hc2, hd2, hdat2⟩, hl2⟩ := I.list hB
  simp only at hc hd hdat hc2 hd2 hdat2
  subst hc hd hdat hc2 hd2 hdat2
  have z1 := r.length
  have z2 := r2.length
  have ea : its.toArray ++ its2.toArray = (its ++ its2).toArray := by simp
  refine concat_meets ⟨_, e, rfl⟩ ⟨_, e2, rfl⟩ noFill_list_add seq_list_add PySem.F.slot_list_add PySem.F.entry_list_add (PySem.F.args_list_add_2 _ _) (list_addW l b its.toArray its2.toArray n n2 none none sl sl2 (by simp; omega)) ⟨e, e2, ?_⟩
  rw [ea]
  exact ⟨.ref _, _, I.lnew (t' := s.toks) (r.append r2) (by rw [List.length_append]; omega), rfl, q _ I.fresh⟩
def catW (w1 w2 : W) (G : GH) (R : KW) : Prop := match lstAt w1 G with
  | some xs => match lstAt w2 G with
    | some ys => xs.length + ys.length ≤ sizeLine ∧ ∀ r, G r = none → R (.ref r) (updG G r (.lst (xs ++ ys)))
    | none => False
  | none => False
def addW : R2W := fun w1 w2 G R => match w1, w2 with
  | .int a, .int b => R (.int (a + b)) G
  | .str a, .str b => a.length + b.length ≤ sizeLine ∧ R (.str (a ++ b)) G
  | .tup a, .tup b => a.length + b.length ≤ sizeLine ∧ R (.tup (a ++ b)) G
  | .ref p, y => catW (.ref p) y G R
  | .fl xs, y => catW (.fl xs) y G R
  | _, _ => False
theorem op_addW : OpW X (binaryOp .Add) addW := by
  intro pins s σ H x y v u Q I rx ry h
  obtain ⟨w1, w2, G, R, r1, r2, rh, t, k⟩ := h
  have cat : catW w1 w2 G R → wpAny (model X.prog X.w) X.A (binaryOp .Add v u) (EP X pins σ Q) X.xe s := fun t => by
    unfold catW at t
    split at t
    · rename_i xs e1
      split at t
      · rename_i ys e2
        obtain ⟨a, vs, rfl, h1, s1⟩ := lst_at e1 r1 rh
        obtain ⟨b, us, rfl, h2, s2⟩ := lst_at e2 r2 rh
        exact op_catL pins s σ H _ _ v u Q I rx ry ⟨_, _, _, _, rfl, rfl, h1, h2, by rw [s1.length, s2.length]; exact t.1, fun r hr =>
          k _ _ _ _ (t.2 r (rh.free hr)) (.newG hr) (.ref r) (rh.newG hr ⟨_, upd_same, (s1.append s2).mono (.new hr) rh⟩)⟩
      · exact t.elim
    · exact t.elim
  cases w1 with
  | int a =>
    cases w2 with
    | int b => cases r1; cases r2; exact op_add pins s σ H _ _ v u Q I rx ry ⟨a, b, rfl, rfl, k.here t (.int _) rh⟩
    | _ => exact (show False from t).elim
  | str a =>
    cases w2 with
    | str b => cases r1; cases r2; exact op_add_str pins s σ H _ _ v u Q I rx ry ⟨a, b, rfl, rfl, t.1, k.here t.2 (.str _) rh⟩
    | _ => exact (show False from t).elim
  | tup a =>
    cases w2 with
    | tup b =>
      obtain ⟨z, t⟩ : a.length + b.length ≤ sizeLine ∧ R (.tup (a ++ b)) G := t
      cases r1 with
      | tup e1 s1 =>
        cases r2 with
        | tup e2 s2 =>
          refine op_catA pins s σ H _ _ v u Q I rx ry ⟨_, _, _, _, rfl, rfl, SqT.of e1, SqT.of e2, by rw [s1.length, s2.length]; exact z, fun h => ?_, fun h1 h2 => ?_, fun h1 h2 p hp => ?_⟩
          · subst h; cases s1; exact k.here t (.tup e2 s2) rh
          · subst h2; cases s2; rw [List.append_nil] at t; exact k.here t (.tup e1 s1) rh
          · exact k _ _ _ _ t (.new hp) (.tup upd_same ((s1.append s2).mono (.new hp) rh)) (rh.new hp)
    | _ => exact (show False from t).elim
  | ref p => exact cat (by cases w2 <;> exact t)
  | fl p => exact cat (by cases w2 <;> exact t)
  | _ => exact (show False from t).elim
def intW (C : Int → Int → Prop) (g : Int → Int → W) : R2W := fun w1 w2 G R => match w1, w2 with
  | .int a, .int b => C a b ∧ R (g a b) G
  | _, _ => False
theorem opIW {f : Value → Value → Sem Value} {C : Int → Int → Prop} {g : Int → Int → V} {g' : Int → Int → W} (h : OpR X f (rI C g)) (hg : ∀ H i j, RV X.K H (g i j) (g' i j)) : OpW X f (intW C g') := by
  intro pins s σ H x y v u Q I rx ry h'
  obtain ⟨w1, w2, G, R, r1, r2, rh, t, k⟩ := h'
  cases w1 with
  | int a =>
    cases w2 with
    | int b => cases r1; cases r2; exact h pins s σ H _ _ v u Q I rx ry ⟨a, b, rfl, rfl, t.1, k.here t.2 (hg _ _ _) rh⟩
    | _ => exact (show False from t).elim
  | _ => exact (show False from t).elim
def int0W (g : Int → Int → W) : R2W := fun w1 w2 G R => match w1, w2 with
  | .int a, .int b => R (g a b) G
  | _, _ => False
theorem opI0W {f : Value → Value → Sem Value} {g : Int → Int → V} {g' : Int → Int → W} (h : OpR X f (rI0 g)) (hg : ∀ H i j, RV X.K H (g i j) (g' i j)) : OpW X f (int0W g') := by
  intro pins s σ H x y v u Q I rx ry h'
  obtain ⟨w1, w2, G, R, r1, r2, rh, t, k⟩ := h'
  cases w1 with
  | int a =>
    cases w2 with
    | int b => cases r1; cases r2; exact h pins s σ H _ _ v u Q I rx ry ⟨a, b, rfl, rfl, k.here t (hg _ _ _) rh⟩
    | _ => exact (show False from t).elim
  | _ => exact (show False from t).elim
abbrev subW : R2W := int0W fun a b => .int (a - b)
theorem op_subW : OpW X (binaryOp .Sub) subW := opI0W op_sub fun _ _ _ => .int _
def MulC (a b : Int) : Prop := CMul a b ∨ CMulW a b
theorem op_mulAny : OpR X (binaryOp .Mult) (rI MulC fun i j => .int (i * j)) := by
  intro pins s σ H x y v u Q I rx ry h
  obtain ⟨i, j, e1, e2, c, q⟩ := h
  rcases c with c | c
  · exact op_mul pins s σ H x y v u Q I rx ry ⟨i, j, e1, e2, c, q⟩
  · exact op_mulW pins s σ H x y v u Q I rx ry ⟨i, j, e1, e2, c, q⟩
def mulW : R2W := fun w1 w2 G R => match w1, w2 with
  | .int a, .int b => MulC a b ∧ R (.int (a * b)) G
  | .ref p, .int n => match G p with
    | some (.lst xs) => -(2 ^ 63) ≤ n ∧ n < 2 ^ 63 ∧ xs.length * n.toNat ≤ sizeLine ∧ ∀ r, G r = none → R (.ref r) (updG G r (.lst (List.replicate n.toNat xs).flatten))
    | _ => False
  | _, _ => False
theorem RVs.rep {K : PySem.W.Frag} {H : Hp} {vs : List V} {ws : List W} (h : RVs K H vs ws) : ∀ n : Nat, RVs K H (List.replicate n vs).flatten (List.replicate n ws).flatten
  | 0 => .nil
  | n + 1 => by
    rw [List.replicate_succ, List.replicate_succ, List.flatten_cons, List.flatten_cons]
    exact h.append (RVs.rep h n)
theorem op_mulWW : OpW X (binaryOp .Mult) mulW := by
  intro pins s σ H x y v u Q I rx ry h'
  obtain ⟨w1, w2, G, R, r1, r2, rh, t, k⟩ := h'
  cases w1 with
  | int a =>
    cases w2 with
    | int b => cases r1; cases r2; exact op_mulAny pins s σ H _ _ v u Q I rx ry ⟨a, b, rfl, rfl, t.1, k.here t.2 (.int _) rh⟩
    | _ => exact (show False from t).elim
  | ref p =>
    cases w2 with
    | int b =>
      cases r1; cases r2
      unfold mulW at t
      dsimp only at t
      split at t
      · rename_i xs e1
        obtain ⟨vs, h1, s1⟩ := rh _ _ e1
        exact op_rep pins s σ H _ _ v u Q I rx ry ⟨_, _, _, rfl, rfl, h1, t.1, t.2.1, by rw [s1.length]; exact t.2.2.1, fun r hr =>
          k _ _ _ _ (t.2.2.2 r (rh.free hr)) (.newG hr) (.ref r) (rh.newG hr ⟨_, upd_same, (s1.rep _).mono (.new hr) rh⟩)⟩
      · exact t.elim
    | _ => exact (show False from t).elim
  | _ => exact (show False from t).elim
abbrev modW : R2W := intW (fun _ j => 0 < j) fun a b => .int (a % b)
theorem op_modW : OpW X (binaryOp .Mod) modW := opIW op_mod fun _ _ _ => .int _
def DivC (a b : Int) : Prop := CDiv a b ∨ CDivW a b
abbrev fdivW : R2W := intW DivC fun a b => .int (a / b)
theorem op_fdivWW : OpW X (binaryOp .FloorDiv) fdivW := by
  refine opIW (g := fun i j => .int (i / j)) (fun pins s σ H x y v u Q I rx ry h => ?_) fun _ _ _ => .int _
  obtain ⟨i, j, e1, e2, c, q⟩ := h
  rcases c with c | c
  · exact op_fdiv pins s σ H x y v u Q I rx ry ⟨i, j, e1, e2, c, q⟩
  · exact op_fdivW pins s σ H x y v u Q I rx ry ⟨i, j, e1, e2, c, q⟩
abbrev powW : R2W := intW CPow fun a b => .int (a ^ b.toNat)
theorem op_powW : OpW X (binaryOp .Pow) powW := opIW op_pow fun _ _ _ => .int _
def negW (w : W) (G : GH) (R : KW) : Prop := match w with
  | .int i => R (.int (-i)) G
  | _ => False
def tNegW (T : TW) : TW := fun S G R => T S G fun w G1 => negW w G1 R
theorem we_neg {a : Expr} {Ta : TW} {pos : Pos} (ha : WE X Z a Ta) : WE X Z (.UnaryOp .USub a pos) (tNegW Ta) := (pe_un un_neg ha).weak fun σ H Q h => by
  obtain ⟨S, G, R, sr, t, k⟩ := h
  refine Lf.go sr t fun w G1 v H1 t1 tk rv rh => ?_
  cases w with
  | int i => cases rv; exact ⟨i, rfl, k _ _ _ _ t1 tk (.int _) rh⟩
  | _ => exact (show False from t1).elim
abbrev gtW : R2W := int0W fun a b => .bl (decide (b < a))
theorem op_gtW : OpW X (compareOp .Gt) gtW := opI0W op_gt fun _ _ _ => .bl _
abbrev leW : R2W := int0W fun a b => .bl (decide (a ≤ b))
theorem op_leW : OpW X (compareOp .LtE) leW := opI0W op_le fun _ _ _ => .bl _
def ltW : R2W := fun w1 w2 G R => match w1, w2 with
  | .int a, .int b => R (.bl (decide (a < b))) G
  | .tup xs, .tup ys => ∃ ns ms, xs = ns.map W.int ∧ ys = ms.map W.int ∧ R (.bl (HT.lexLt ns ms)) G
  | _, _ => False
theorem op_ltW (hu : X.A.units < cLine) : OpW X (compareOp .Lt) ltW := by
  intro pins s σ H x y v u Q I rx ry h'
  obtain ⟨w1, w2, G, R, r1, r2, rh, t, k⟩ := h'
  cases w1 with
  | int a =>
    cases w2 with
    | int b => cases r1; cases r2; exact op_lt pins s σ H _ _ v u Q I rx ry ⟨a, b, rfl, rfl, k.here t (.bl _) rh⟩
    | _ => exact (show False from t).elim
  | tup a =>
    cases w2 with
    | tup b =>
      obtain ⟨ns, ms, rfl, rfl, t2⟩ := (show ∃ ns ms, a = ns.map W.int ∧ b = ms.map W.int ∧ R (.bl (HT.lexLt ns ms)) G from t)
      cases r1 with
      | tup e1 s1 =>
        cases r2 with
        | tup e2 s2 =>
          have z1 := s1.ints
          have z2 := s2.ints
          subst z1 z2
          exact op_ltT hu pins s σ H _ _ v u Q I rx ry ⟨_, _, ns, ms, rfl, rfl, SqT.of e1, SqT.of e2, k.here t2 (.bl _) rh⟩
    | _ => exact (show False from t).elim
  | _ => exact (show False from t).elim
def eqW (n : Bool) : R2W := fun w1 w2 G R => match w1, w2 with
  | .int a, .int b => R (.bl (n != decide (a = b))) G
  | .str a, .str b => R (.bl (n != decide (a = b))) G
  | _, _ => ∃ d1 d2, PD G w1 d1 ∧ PD G w2 d2 ∧ d1.depth ≤ 60 ∧ R (.bl (n != d1.eqv d2)) G
theorem eqW_pd {n : Bool} {w1 w2 : W} {G : GH} {R : KW} (h : eqW n w1 w2 G R) : ∃ d1 d2, PD G w1 d1 ∧ PD G w2 d2 ∧ d1.depth ≤ 60 ∧ R (.bl (n != d1.eqv d2)) G := by
  have ei : ∀ a b : Int, PyData.eqv (.int a) (.int b) = decide (a = b) := fun a b => by simp [PyData.eqv]; rfl
  have es : ∀ a b : Str, PyData.eqv (.str a) (.str b) = decide (a = b) := fun a b => by simp [PyData.eqv]; rfl
  cases w1 with
  | int a =>
    cases w2 with
    | int b => exact ⟨_, _, .int a, .int b, Nat.zero_le _, by rw [ei]; exact h⟩
    | _ => exact h
  | str a =>
    cases w2 with
    | str b => exact ⟨_, _, .str a, .str b, Nat.zero_le _, by rw [es]; exact h⟩
    | _ => exact h
  | _ => exact h
theorem op_eqW (hu : X.A.units + 64 < cLine) : OpW X (compareOp .Eq) (eqW false) := by
  intro pins s σ H x y v u Q I rx ry h'
  obtain ⟨w1, w2, G, R, r1, r2, rh, t, k⟩ := h'
  obtain ⟨d1, d2, p1, p2, z, t⟩ := eqW_pd t
  obtain ⟨as, q1⟩ := Dp.reads I d1 x v (p1.dp rh r1) rx
  obtain ⟨bs, q2⟩ := Dp.reads I d2 y u (p2.dp rh r2) ry
  exact SeqAt.eq_plain q1 q2 p1.plain p2.plain (by omega) ⟨.bl _, H, I, rfl, k.here (by simpa using t) (.bl _) rh⟩
theorem op_neW (hu : X.A.units + 64 < cLine) : OpW X (compareOp .NotEq) (eqW true) := by
  intro pins s σ H x y v u Q I rx ry h'
  obtain ⟨w1, w2, G, R, r1, r2, rh, t, k⟩ := h'
  obtain ⟨d1, d2, p1, p2, z, t⟩ := eqW_pd t
  obtain ⟨as, q1⟩ := Dp.reads I d1 x v (p1.dp rh r1) rx
  obtain ⟨bs, q2⟩ := Dp.reads I d2 y u (p2.dp rh r2) ry
  exact SeqAt.ne_plain q1 q2 p1.plain p2.plain (by omega) ⟨.bl _, H, I, rfl, k.here (by simpa using t) (.bl _) rh⟩
def W.isN : W → Bool
  | .non => true
  | _ => false
def isW (n : Bool) : R2W := fun w1 w2 G R => match w2 with
  | .non => R (.bl (n != w1.isN)) G
  | .bl b => match w1 with
    | .bl a => R (.bl (n != decide (a = b))) G
    | _ => False
  | _ => False
theorem isN_of {K : PySem.W.Frag} {H : Hp} {v : V} {w : W} (r : RV K H v w) : decide (v = .non) = w.isN := by
  cases r <;> simp [W.isN]
theorem op_isW : OpW X (compareOp .Is) (isW false) := by
  intro pins s σ H x y v u Q I rx ry h'
  obtain ⟨w1, w2, G, R, r1, r2, rh, t, k⟩ := h'
  cases w2 with
  | non => cases r2; exact op_isN pins s σ H _ _ v u Q I rx ry ⟨rfl, k.here (w := .bl _) (by rw [isN_of r1]; simpa [isW] using t) (.bl _) rh⟩
  | bl b =>
    cases w1 with
    | bl a => cases r1; cases r2; exact op_isBl pins s σ H _ _ v u Q I rx ry ⟨a, b, rfl, rfl, k.here (w := .bl _) (by simpa [isW] using t) (.bl _) rh⟩
    | _ => exact (show False from t).elim
  | _ => exact (show False from t).elim
theorem op_isnotW : OpW X (compareOp .IsNot) (isW true) := by
  intro pins s σ H x y v u Q I rx ry h'
  obtain ⟨w1, w2, G, R, r1, r2, rh, t, k⟩ := h'
  cases w2 with
  | non => cases r2; exact op_notN pins s σ H _ _ v u Q I rx ry ⟨rfl, k.here (w := .bl _) (by rw [isN_of r1]; simpa [isW] using t) (.bl _) rh⟩
  | bl b =>
    cases w1 with
    | bl a => cases r1; cases r2; exact op_notBl pins s σ H _ _ v u Q I rx ry ⟨a, b, rfl, rfl, k.here (w := .bl _) (by simpa [isW] using t) (.bl _) rh⟩
    | _ => exact (show False from t).elim
  | _ => exact (show False from t).elim
end
end WL
set_option Elab.async false
set_option linter.all false
set_option maxRecDepth 100000
set_option maxHeartbeats 4000000
namespace WL
open PySem PySem.Spec PyProof.Rows L2
section
variable {κ : Type} [DecidableEq κ]
def valW (kws : List (κ × W)) (k : κ) : Option W := (kws.find? fun kv => decide (kv.1 = k)).map (·.2)
def putW (kws : List (κ × W)) (k : κ) (v : W) : List (κ × W) :=
  if (kws.any fun kv => decide (kv.1 = k)) = true then kws.map (fun kv => if kv.1 = k then (kv.1, v) else kv) else kws ++ [(k, v)]
def dropW (kws : List (κ × W)) (k : κ) : List (κ × W) := kws.filter fun kv => decide (kv.1 ≠ k)
variable {K : PySem.W.Frag} {H : Hp}
theorem RKV.val {k : κ} : ∀ {kvs : List (κ × V)} {kws : List (κ × W)}, RKV K H kvs kws → (valW kws k = none ∧ valV kvs k = none) ∨ ∃ v w, valV kvs k = some v ∧ valW kws k = some w ∧ RV K H v w
  | _, _, .nil => .inl ⟨rfl, rfl⟩
  | (a, v) :: kvs, (b, w) :: kws, .cons ⟨e, r⟩ t => by
    have e' : a = b := e
    subst e'
    by_cases h : a = k
    · exact .inr ⟨v, w, by simp [valV, List.find?_cons, h], by simp [valW, List.find?_cons, h], r⟩
    · rcases RKV.val (k := k) t with ⟨h1, h2⟩ | ⟨v', w', h1, h2, h3⟩
      · exact .inl ⟨by simpa [valW, List.find?_cons, h] using h1, by simpa [valV, List.find?_cons, h] using h2⟩
      · exact .inr ⟨v', w', by simpa [valV, List.find?_cons, h] using h1, by simpa [valW, List.find?_cons, h] using h2, h3⟩
theorem RKV.any {f : κ → Bool} : ∀ {kvs : List (κ × V)} {kws : List (κ × W)}, RKV K H kvs kws → (kvs.any fun kv => f kv.1) = kws.any fun kv => f kv.1
  | _, _, .nil => rfl
  | (a, v) :: kvs, (b, w) :: kws, .cons ⟨e, r⟩ t => by
    have e' : a = b := e
    subst e'
    simp only [List.any_cons, RKV.any t]
theorem RKV.keys : ∀ {kvs : List (κ × V)} {kws : List (κ × W)}, RKV K H kvs kws → kvs.map (·.1) = kws.map (·.1)
  | _, _, .nil => rfl
  | (a, v) :: kvs, (b, w) :: kws, .cons ⟨e, r⟩ t => by
    have e' : a = b := e
    subst e'
    simp only [List.map_cons, RKV.keys t]
theorem RKV.append : ∀ {kvs kv2 : List (κ × V)} {kws kw2 : List (κ × W)}, RKV K H kvs kws → RKV K H kv2 kw2 → RKV K H (kvs ++ kv2) (kws ++ kw2)
  | _, _, _, _, .nil, r => r
  | _, _, _, _, .cons q t, r => .cons q (RKV.append t r)
theorem RKV.mapPut {k : κ} {v : V} {w : W} (r : RV K H v w) : ∀ {kvs : List (κ × V)} {kws : List (κ × W)}, RKV K H kvs kws →
    RKV K H (kvs.map fun kv => if kv.1 = k then (kv.1, v) else kv) (kws.map fun kv => if kv.1 = k then (kv.1, w) else kv)
  | _, _, .nil => .nil
  | (a, x) :: kvs, (b, y) :: kws, .cons ⟨e, q⟩ t => by
    have e' : a = b := e
    subst e'
    refine .cons ?_ (RKV.mapPut r t)
    dsimp only
    by_cases h : a = k
    · rw [if_pos h, if_pos h]; exact ⟨rfl, r⟩
    · rw [if_neg h, if_neg h]; exact ⟨rfl, q⟩
theorem RKV.put {k : κ} {v : V} {w : W} {kvs : List (κ × V)} {kws : List (κ × W)} (t : RKV K H kvs kws) (r : RV K H v w) : RKV K H (putK kvs k v) (putW kws k w) := by
  have e := RKV.any (f := fun a => decide (a = k)) t
  unfold putK putW
  rw [e]
  split
  · exact RKV.mapPut r t
  · exact RKV.append t (.cons ⟨rfl, r⟩ .nil)
theorem RKV.filt {f : κ → Bool} : ∀ {kvs : List (κ × V)} {kws : List (κ × W)}, RKV K H kvs kws → RKV K H (kvs.filter fun kv => f kv.1) (kws.filter fun kv => f kv.1)
  | _, _, .nil => .nil
  | (a, x) :: kvs, (b, y) :: kws, .cons ⟨e, q⟩ t => by
    have e' : a = b := e
    subst e'
    rw [List.filter_cons, List.filter_cons]
    by_cases h : f a = true
    · rw [if_pos h, if_pos h]; exact .cons ⟨rfl, q⟩ (RKV.filt t)
    · rw [if_neg h, if_neg h]; exact RKV.filt t
theorem RKV.drop {k : κ} {kvs : List (κ × V)} {kws : List (κ × W)} (t : RKV K H kvs kws) : RKV K H (dropK kvs k) (dropW kws k) := RKV.filt (f := fun a => decide (a ≠ k)) t
end
def W.key? : W → Option Key
  | .int i => some (.inl i)
  | .str x => some (.inr x)
  | _ => none
def keysOf : List W → Option (List Key)
  | [] => some []
  | w :: ws => match w.key?, keysOf ws with
    | some k, some ks => some (k :: ks)
    | _, _ => none
theorem key_of? {w : W} {k : Key} (h : w.key? = some k) : w = kW k := by
  cases w <;> simp [W.key?] at h <;> subst h <;> rfl
theorem keys_of? : ∀ {ws : List W} {ks : List Key}, keysOf ws = some ks → ws = ks.map kW
  | [], ks, h => by simp [keysOf] at h; subst h; rfl
  | w :: ws, ks, h => by
    unfold keysOf at h
    split at h
    · rename_i k r e1 e2
      cases h
      rw [key_of? e1, keys_of? e2]; rfl
    · cases h
theorem keysOf_ints : ∀ ns : List Int, keysOf (ns.map W.int) = some (ns.map Sum.inl)
  | [] => rfl
  | n :: ns => by
    rw [List.map_cons]
    unfold keysOf
    rw [keysOf_ints ns]
    rfl
theorem RV.key {K : PySem.W.Frag} {H : Hp} {v : V} {k : Key} (r : RV K H v (kW k)) : v = kV k := by
  cases k <;> cases r <;> rfl
theorem RVs.keys {K : PySem.W.Frag} {H : Hp} : ∀ {ks : List Key} {vs : List V}, RVs K H vs (ks.map kW) → vs = ks.map kV
  | [], _, .nil => rfl
  | k :: ks, _, .cons r t => by rw [RV.key r, RVs.keys t]; rfl
def dgetW (p : Addr) (w : W) (G : GH) : Option (Option W) := match G p with
  | some (.dK kws) => match w.key? with
    | some k => some (valW kws k)
    | none => none
  | some (.dT kws) => match w with
    | .tup ks => match keysOf ks with
      | some kk => some (valW kws kk)
      | none => none
    | _ => none
  | _ => none
theorem dget_of {K : PySem.W.Frag} {H : Hp} {G : GH} {p : Addr} {w : W} {v : V} {o : Option W} (h : dgetW p w G = some o) (rv : RV K H v w) (rh : RH K H G) :
    ∃ ov, DGet H p v ov ∧ ((o = none ∧ ov = none) ∨ ∃ x y, o = some y ∧ ov = some x ∧ RV K H x y) := by
  unfold dgetW at h
  split at h
  · rename_i kws e
    split at h
    · rename_i k ek
      cases h
      obtain ⟨kvs, h1, r⟩ := rh _ _ e
      have e1 := key_of? ek
      subst e1
      have e2 := RV.key rv
      subst e2
      refine ⟨_, DGet.k h1, ?_⟩
      rcases RKV.val (k := k) r with ⟨a, b⟩ | ⟨x, y, a, b, c⟩
      · exact .inl ⟨a, b⟩
      · exact .inr ⟨x, y, b, a, c⟩
    · cases h
  · rename_i kws e
    split at h
    · rename_i ks
      split at h
      · rename_i kk ek
        cases h
        obtain ⟨kvs, h1, r⟩ := rh _ _ e
        cases rv with
        | tup q rs =>
          have e1 := keys_of? ek
          subst e1
          have e2 := RVs.keys rs
          subst e2
          refine ⟨_, DGet.t h1 q, ?_⟩
          rcases RKV.val (k := kk) r with ⟨a, b⟩ | ⟨x, y, a, b, c⟩
          · exact .inl ⟨a, b⟩
          · exact .inr ⟨x, y, b, a, c⟩
      · cases h
    · cases h
  · cases h
def fgetW (d w : W) : Option (Option W) := match d with
  | .fdK kws => match w.key? with
    | some k => some (valW kws k)
    | none => none
  | .fdT kws => match w with
    | .tup ks => match keysOf ks with
      | some kk => some (valW kws kk)
      | none => none
    | _ => none
  | _ => none
theorem fget_of {K : PySem.W.Frag} {H : Hp} {d w : W} {u v : V} {o : Option W} (h : fgetW d w = some o) (rd : RV K H u d) (rv : RV K H v w) :
    ∃ p ov, u = .ref p ∧ DGet H p v ov ∧ ((o = none ∧ ov = none) ∨ ∃ x y, o = some y ∧ ov = some x ∧ RV K H x y) := by
  unfold fgetW at h
  split at h
  · rename_i kws
    split at h
    · rename_i k ek
      cases h
      cases rd with
      | @fdK a ob kvs _ h1 e r =>
        have r := RVs.rkv e r
        have e1 := key_of? ek
        subst e1
        have e2 := RV.key rv
        subst e2
        refine ⟨a, _, rfl, .inl ⟨kvs, k, .inr ⟨ob, h1⟩, rfl, rfl⟩, ?_⟩
        rcases RKV.val (k := k) r with ⟨a, b⟩ | ⟨x, y, a, b, c⟩
        · exact .inl ⟨a, b⟩
        · exact .inr ⟨x, y, b, a, c⟩
    · cases h
  · rename_i kws
    split at h
    · rename_i ks
      split at h
      · rename_i kk ek
        cases h
        cases rd with
        | @fdT a ob kvs _ h1 e r =>
          have r := RVs.rkv e r
          cases rv with
          | @tup b _ _ q rs =>
            have e1 := keys_of? ek
            subst e1
            have e2 := RVs.keys rs
            subst e2
            refine ⟨a, _, rfl, .inr ⟨kvs, kk, b, .inr ⟨ob, h1⟩, rfl, q, rfl⟩, ?_⟩
            rcases RKV.val (k := kk) r with ⟨a, b⟩ | ⟨x, y, a, b, c⟩
            · exact .inl ⟨a, b⟩
            · exact .inr ⟨x, y, b, a, c⟩
      · cases h
    · cases h
  · cases h
section
variable {X : Cx} {Z : GH × Hp} {a b e o : Expr} {Ta Tb : TW} {pos : Pos}
def rIxD : R2 := fun x y H Q => ∃ a v, x = .ref a ∧ DGet H a y (some v) ∧ Q v H
theorem ix_dict (hu : X.A.units + 1 < cLine) : IxR X rIxD := by
  intro value slice pins s σ H x y v u Q I rx ry h hs
  obtain ⟨p, z, rfl, g, q⟩ := h
  cases rx
  exact tail_any (dict_typeIs I g) PySem.F.slot_dict_getitem.lookup (d_getItem hu I g ry fun w' s' I' rw' => ⟨z, H, I', rw', q⟩) hs
def ixW : R2W := fun w1 w2 G R => match w1, w2 with
  | .tup xs, .int i => ∃ w, atI xs i = some w ∧ R w G
  | .kt xs, .int i => ∃ w, atI xs i = some w ∧ R w G
  | .fl xs, .int i => ∃ w, atI xs i = some w ∧ R w G
  | .str z, .int i => z.length ≤ sizeLine ∧ ∃ c, atI z.cps.toList i = some c ∧ R (.str ⟨#[c]⟩) G
  | .ref p, k => match G p with
    | some (.lst xs) => match k with
      | .int i => ∃ w, atI xs i = some w ∧ R w G
      | _ => False
    | _ => ∃ w, dgetW p k G = some (some w) ∧ R w G
  | .fdK kws, k => ∃ w, fgetW (.fdK kws) k = some (some w) ∧ R w G
  | .fdT kws, k => ∃ w, fgetW (.fdT kws) k = some (some w) ∧ R w G
  | _, _ => False
theorem RVs.atI {K : PySem.W.Frag} {H : Hp} {vs : List V} {ws : List W} {i : Int} {w : W} (r : RVs K H vs ws) (e : L2.atI ws i = some w) : ∃ v, L2.atI vs i = some v ∧ RV K H v w := by
  unfold L2.atI at e ⊢
  rw [r.length]
  cases h : ixN ws.length i with
  | none => rw [h] at e; cases e
  | some j =>
    rw [h] at e
    exact r.get e
theorem ix_W (hu : X.A.units + 1 < cLine) : IxR X (l2 X.K ixW) := by
  intro value slice pins s σ H x y v u Q I rx ry h' hs
  obtain ⟨w1, w2, G, R, r1, r2, rh, t, k⟩ := h'
  cases w1 with
  | tup xs =>
    cases w2 with
    | int i =>
      cases r2
      obtain ⟨w, e, t⟩ := (show ∃ w, atI xs i = some w ∧ R w G from t)
      cases r1 with
      | tup q rs =>
        obtain ⟨z, e2, rz⟩ := rs.atI e
        exact ix_tup value slice pins s σ H _ _ v u Q I rx ry ⟨_, _, i, z, rfl, rfl, SqT.of q, e2, k.here t rz rh⟩ hs
    | _ => exact (show False from t).elim
  | kt xs =>
    cases w2 with
    | int i =>
      cases r2
      obtain ⟨w, e, t⟩ := (show ∃ w, atI xs i = some w ∧ R w G from t)
      cases r1 with
      | kt q rs =>
        obtain ⟨z, e2, rz⟩ := rs.atI e
        exact ix_tup value slice pins s σ H _ _ v u Q I rx ry ⟨_, _, i, z, rfl, rfl, q.seq, e2, k.here t rz rh⟩ hs
    | _ => exact (show False from t).elim
  | fl xs =>
    cases w2 with
    | int i =>
      cases r2
      obtain ⟨w, e, t⟩ := (show ∃ w, atI xs i = some w ∧ R w G from t)
      cases r1 with
      | fl q rs =>
        obtain ⟨z, e2, rz⟩ := rs.atI e
        exact ix_list value slice pins s σ H _ _ v u Q I rx ry ⟨_, _, i, z, rfl, rfl, q.seq, e2, k.here t rz rh⟩ hs
    | _ => exact (show False from t).elim
  | str z =>
    cases w2 with
    | int i =>
      cases r1; cases r2
      obtain ⟨hz, c, e, t⟩ := (show z.length ≤ sizeLine ∧ ∃ c, atI z.cps.toList i = some c ∧ R (.str ⟨#[c]⟩) G from t)
      exact ix_str value slice pins s σ H _ _ v u Q I rx ry ⟨z, i, c, rfl, rfl, hz, e, k.here t (.str _) rh⟩ hs
    | _ => exact (show False from t).elim
  | ref p =>
    cases r1
    have dict : ∀ w, dgetW p w2 G = some (some w) → R w G → wpAny (model X.prog X.w) X.A (subscriptTail value slice v u) (EP X pins σ Q) X.xe s := fun w e t => by
      obtain ⟨ov, g, z⟩ := dget_of e r2 rh
      rcases z with ⟨z, _⟩ | ⟨x', y', z1, z2, rz⟩
      · cases z
      · cases z1
        subst z2
        exact ix_dict hu value slice pins s σ H _ _ v u Q I rx ry ⟨p, x', rfl, g, k.here t rz rh⟩ hs
    unfold ixW at t
    dsimp only at t
    split at t
    · rename_i xs e1
      cases w2 with
      | int i =>
        cases r2
        obtain ⟨w, e, t⟩ := (show ∃ w, atI xs i = some w ∧ R w G from t)
        obtain ⟨vs, h1, rs⟩ := rh _ _ e1
        obtain ⟨z, e2, rz⟩ := rs.atI e
        exact ix_list value slice pins s σ H _ _ v u Q I rx ry ⟨_, _, i, z, rfl, rfl, SqL.of h1, e2, k.here t rz rh⟩ hs
      | _ => exact (show False from t).elim
    · obtain ⟨w, e, t⟩ := t
      exact dict w e t
  | fdK kws =>
    obtain ⟨w, e, t⟩ := (show ∃ w, fgetW (.fdK kws) w2 = some (some w) ∧ R w G from by cases w2 <;> exact t)
    obtain ⟨p, ov, rfl, g, z⟩ := fget_of e r1 r2
    rcases z with ⟨z, _⟩ | ⟨x', y', z1, z2, rz⟩
    · cases z
    · cases z1
      subst z2
      exact ix_dict hu value slice pins s σ H _ _ v u Q I rx ry ⟨p, x', rfl, g, k.here t rz rh⟩ hs
  | fdT kws =>
    obtain ⟨w, e, t⟩ := (show ∃ w, fgetW (.fdT kws) w2 = some (some w) ∧ R w G from by cases w2 <;> exact t)
    obtain ⟨p, ov, rfl, g, z⟩ := fget_of e r1 r2
    rcases z with ⟨z, _⟩ | ⟨x', y', z1, z2, rz⟩
    · cases z
    · cases z1
      subst z2
      exact ix_dict hu value slice pins s σ H _ _ v u Q I rx ry ⟨p, x', rfl, g, k.here t rz rh⟩ hs
  | _ => exact (show False from t).elim
theorem we_ix (hu : X.A.units + 1 < cLine) (ha : WE X Z a Ta) (hb : WE X Z b Tb) (hs : PlainIx b := by intro _ _; rfl) : WE X Z (.Subscript a b pos) (tOpW ixW Ta Tb) := (pe_ix (ix_W hu) ha hb hs).weak lf2
def inW (n : Bool) : R2W := fun w1 w2 G R => match w2 with
  | .tup ws => ∃ d ds, PD G w1 d ∧ PDs G ws ds ∧ d.depth ≤ 60 ∧ R (.bl (n != ds.any fun y => PyData.eqv y d)) G
  | .kt ws => ∃ d ds, PD G w1 d ∧ PDs G ws ds ∧ d.depth ≤ 60 ∧ R (.bl (n != ds.any fun y => PyData.eqv y d)) G
  | .fl ws => ∃ d ds, PD G w1 d ∧ PDs G ws ds ∧ d.depth ≤ 60 ∧ R (.bl (n != ds.any fun y => PyData.eqv y d)) G
  | .str z => match w1 with
    | .str x => (∃ c, x = ⟨#[c]⟩ ∧ R (.bl (n != decide (c ∈ z.cps.toList))) G) ∨ R (.bl (n != !(Builtin.Str.occurrences z x 0 z.length 1).isEmpty)) G
    | _ => False
  | .ref p => match G p with
    | some (.lst ws) => ∃ d ds, PD G w1 d ∧ PDs G ws ds ∧ d.depth ≤ 60 ∧ R (.bl (n != ds.any fun y => PyData.eqv y d)) G
    | _ => ∃ o, dgetW p w1 G = some o ∧ R (.bl (n != o.isSome)) G
  | .fdK kws => ∃ o, fgetW (.fdK kws) w1 = some o ∧ R (.bl (n != o.isSome)) G
  | .fdT kws => ∃ o, fgetW (.fdT kws) w1 = some o ∧ R (.bl (n != o.isSome)) G
  | _ => False
theorem op_inW (hu : X.A.units + 65 < cLine) : OpW X (compareOp .In) (inW false) := by
  intro pins s σ H x y v u Q I rx ry h'
  obtain ⟨w1, w2, G, R, r1, r2, rh, t, k⟩ := h'
  have fin : ∀ {c : Bool}, R (.bl (false != c)) G → EP X pins σ Q (.bool c) s := fun {c} t => ⟨.bl c, H, I, rfl, k.here (w := .bl c) (by simpa using t) (.bl _) rh⟩
  have seqT : ∀ {ws : List W} {d : PyData} {ds : List PyData}, PD G w1 d → Dp X.K H y (.tuple ds) → PDs G ws ds → d.depth ≤ 60 → R (.bl (false != ds.any fun y => PyData.eqv y d)) G → wpAny (model X.prog X.w) X.A (compareOp .In v u) (EP X pins σ Q) X.xe s := by
    intro ws d ds p1 p2 p3 z t
    obtain ⟨as, q1⟩ := Dp.reads I d x v (p1.dp rh r1) rx
    obtain ⟨bs, q2⟩ := Dp.reads I _ y u p2 ry
    exact SeqAt.in_tuple_data q2 q1 p3.plain p1.plain (by omega) (fin t)
  have seqL : ∀ {ws : List W} {d : PyData} {ds : List PyData}, PD G w1 d → Dp X.K H y (.list ds) → PDs G ws ds → d.depth ≤ 60 → R (.bl (false != ds.any fun y => PyData.eqv y d)) G → wpAny (model X.prog X.w) X.A (compareOp .In v u) (EP X pins σ Q) X.xe s := by
    intro ws d ds p1 p2 p3 z t
    obtain ⟨as, q1⟩ := Dp.reads I d x v (p1.dp rh r1) rx
    obtain ⟨bs, q2⟩ := Dp.reads I _ y u p2 ry
    exact SeqAt.in_list_data q2 q1 p3.plain p1.plain (by omega) (fin t)
  cases w2 with
  | tup ws => obtain ⟨d, ds, p1, p2, z, t⟩ := t; exact seqT p1 (PD.dp rh r2 (.tup p2)) p2 z t
  | kt ws => obtain ⟨d, ds, p1, p2, z, t⟩ := t; exact seqT p1 (PD.dp rh r2 (.kt p2)) p2 z t
  | fl ws => obtain ⟨d, ds, p1, p2, z, t⟩ := t; exact seqL p1 (PD.dp rh r2 (.fl p2)) p2 z t
  | str z =>
    cases w1 with
    | str x =>
      cases r1; cases r2
      rcases t with ⟨c, rfl, t⟩ | t
      · exact op_in_sign pins s σ H _ _ v u Q I rx ry ⟨c, z, rfl, rfl, k.here (w := .bl _) (by simpa using t) (.bl _) rh⟩
      · exact op_in_str pins s σ H _ _ v u Q I rx ry ⟨x, z, rfl, rfl, k.here (w := .bl _) (by simpa using t) (.bl _) rh⟩
    | _ => exact (show False from t).elim
  | ref p =>
    unfold inW at t
    dsimp only at t
    split at t
    · rename_i ws e
      obtain ⟨d, ds, p1, p2, z, t⟩ := t
      exact seqL p1 (PD.dp rh r2 (.lst e p2)) p2 z t
    · obtain ⟨o, e, t⟩ := t
      cases r2
      cases (show u = Value.ref p from ry)
      obtain ⟨ov, g, z⟩ := dget_of e r1 rh
      have eo : o.isSome = ov.isSome := by
        rcases z with ⟨rfl, rfl⟩ | ⟨_, _, rfl, rfl, _⟩ <;> rfl
      exact d_in (by omega) I g rx fun s3 I3 => ⟨.bl ov.isSome, H, I3, rfl, k.here (w := .bl _) (by rw [← eo]; simpa using t) (.bl _) rh⟩
  | fdK kws =>
    obtain ⟨o, e, t⟩ := (show ∃ o, fgetW (.fdK kws) w1 = some o ∧ R (.bl (false != o.isSome)) G from t)
    obtain ⟨p, ov, rfl, g, z⟩ := fget_of e r2 r1
    cases (show u = Value.ref p from ry)
    have eo : o.isSome = ov.isSome := by
      rcases z with ⟨rfl, rfl⟩ | ⟨_, _, rfl, rfl, _⟩ <;> rfl
    exact d_in (by omega) I g rx fun s3 I3 => ⟨.bl ov.isSome, H, I3, rfl, k.here (w := .bl _) (by rw [← eo]; simpa using t) (.bl _) rh⟩
  | fdT kws =>
    obtain ⟨o, e, t⟩ := (show ∃ o, fgetW (.fdT kws) w1 = some o ∧ R (.bl (false != o.isSome)) G from t)
    obtain ⟨p, ov, rfl, g, z⟩ := fget_of e r2 r1
    cases (show u = Value.ref p from ry)
    have eo : o.isSome = ov.isSome := by
      rcases z with ⟨rfl, rfl⟩ | ⟨_, _, rfl, rfl, _⟩ <;> rfl
    exact d_in (by omega) I g rx fun s3 I3 => ⟨.bl ov.isSome, H, I3, rfl, k.here (w := .bl _) (by rw [← eo]; simpa using t) (.bl _) rh⟩
  | _ => exact (show False from t).elim
theorem op_notinW (hu : X.A.units + 65 < cLine) : OpW X (compareOp .NotIn) (inW true) := by
  intro pins s σ H x y v u Q I rx ry h'
  obtain ⟨w1, w2, G, R, r1, r2, rh, t, k⟩ := h'
  have fin : ∀ {c : Bool}, R (.bl (true != c)) G → EP X pins σ Q (.bool (!c)) s := fun {c} t => ⟨.bl (!c), H, I, rfl, k.here (w := .bl (!c)) (by simpa using t) (.bl _) rh⟩
  have seqT : ∀ {ws : List W} {d : PyData} {ds : List PyData}, PD G w1 d → Dp X.K H y (.tuple ds) → PDs G ws ds → d.depth ≤ 60 → R (.bl (true != ds.any fun y => PyData.eqv y d)) G → wpAny (model X.prog X.w) X.A (compareOp .NotIn v u) (EP X pins σ Q) X.xe s := by
    intro ws d ds p1 p2 p3 z t
    obtain ⟨as, q1⟩ := Dp.reads I d x v (p1.dp rh r1) rx
    obtain ⟨bs, q2⟩ := Dp.reads I _ y u p2 ry
    exact SeqAt.notIn_tuple_data q2 q1 p3.plain p1.plain (by omega) (fin t)
  have seqL : ∀ {ws : List W} {d : PyData} {ds : List PyData}, PD G w1 d → Dp X.K H y (.list ds) → PDs G ws ds → d.depth ≤ 60 → R (.bl (true != ds.any fun y => PyData.eqv y d)) G → wpAny (model X.prog X.w) X.A (compareOp .NotIn v u) (EP X pins σ Q) X.xe s := by
    intro ws d ds p1 p2 p3 z t
    obtain ⟨as, q1⟩ := Dp.reads I d x v (p1.dp rh r1) rx
    obtain ⟨bs, q2⟩ := Dp.reads I _ y u p2 ry
    exact SeqAt.notIn_list_data q2 q1 p3.plain p1.plain (by omega) (fin t)
  cases w2 with
  | tup ws => obtain ⟨d, ds, p1, p2, z, t⟩ := t; exact seqT p1 (PD.dp rh r2 (.tup p2)) p2 z t
  | kt ws => obtain ⟨d, ds, p1, p2, z, t⟩ := t; exact seqT p1 (PD.dp rh r2 (.kt p2)) p2 z t
  | fl ws => obtain ⟨d, ds, p1, p2, z, t⟩ := t; exact seqL p1 (PD.dp rh r2 (.fl p2)) p2 z t
  | str z =>
    cases w1 with
    | str x =>
      cases r1; cases r2
      rcases t with ⟨c, rfl, t⟩ | t
      · exact op_notIn_sign pins s σ H _ _ v u Q I rx ry ⟨c, z, rfl, rfl, k.here (w := .bl _) (by simpa using t) (.bl _) rh⟩
      · exact op_notin_str pins s σ H _ _ v u Q I rx ry ⟨x, z, rfl, rfl, k.here (w := .bl _) (by simpa using t) (.bl _) rh⟩
    | _ => exact (show False from t).elim
  | ref p =>
    unfold inW at t
    dsimp only at t
    split at t
    · rename_i ws e
      obtain ⟨d, ds, p1, p2, z, t⟩ := t
      exact seqL p1 (PD.dp rh r2 (.lst e p2)) p2 z t
    · obtain ⟨o, e, t⟩ := t
      cases r2
      cases (show u = Value.ref p from ry)
      obtain ⟨ov, g, z⟩ := dget_of e r1 rh
      have eo : o.isSome = ov.isSome := by
        rcases z with ⟨rfl, rfl⟩ | ⟨_, _, rfl, rfl, _⟩ <;> rfl
      exact d_notIn (by omega) I g rx fun s3 I3 => ⟨.bl (!ov.isSome), H, I3, rfl, k.here (w := .bl _) (by rw [← eo]; simpa using t) (.bl _) rh⟩
  | fdK kws =>
    obtain ⟨o, e, t⟩ := (show ∃ o, fgetW (.fdK kws) w1 = some o ∧ R (.bl (true != o.isSome)) G from t)
    obtain ⟨p, ov, rfl, g, z⟩ := fget_of e r2 r1
    cases (show u = Value.ref p from ry)
    have eo : o.isSome = ov.isSome := by
      rcases z with ⟨rfl, rfl⟩ | ⟨_, _, rfl, rfl, _⟩ <;> rfl
    exact d_notIn (by omega) I g rx fun s3 I3 => ⟨.bl (!ov.isSome), H, I3, rfl, k.here (w := .bl _) (by rw [← eo]; simpa using t) (.bl _) rh⟩
  | fdT kws =>
    obtain ⟨o, e, t⟩ := (show ∃ o, fgetW (.fdT kws) w1 = some o ∧ R (.bl (true != o.isSome)) G from t)
    obtain ⟨p, ov, rfl, g, z⟩ := fget_of e r2 r1
    cases (show u = Value.ref p from ry)
    have eo : o.isSome = ov.isSome := by
      rcases z with ⟨rfl, rfl⟩ | ⟨_, _, rfl, rfl, _⟩ <;> rfl
    exact d_notIn (by omega) I g rx fun s3 I3 => ⟨.bl (!ov.isSome), H, I3, rfl, k.here (w := .bl _) (by rw [← eo]; simpa using t) (.bl _) rh⟩
  | _ => exact (show False from t).elim
abbrev CW := List W → GH → KW → Prop
def l1 (K : PySem.W.Frag) (r : CW) : List V → Hp → VK → Prop := fun vs H Q => ∃ ws G R, RVs K H vs ws ∧ RH K H G ∧ r ws G R ∧ LK K G H R Q
def CallW (X : Cx) (f : Value) (r : CW) : Prop := CallR X f (l1 X.K r)
def tCW (r : CW) (T : TWA) : TW := fun S G R => T S G fun ws G1 => r ws G1 R
variable {x : Str} {p : Pos} {bid T : String} {r : CW} {es : List Expr} {Tr : TWA}
theorem lfC {K : PySem.W.Frag} (σ : L2.St) (H : Hp) (Q : VK) (h : Lf K Z (tCW r Tr) σ H Q) : tCB (l1 K r) (LfA K Z Tr) σ H Q := by
  obtain ⟨S, G, R, sr, t, k⟩ := h
  refine LfA.go sr t fun ws G1 vs H1 t1 tk rs rh => ?_
  exact ⟨ws, G1, R, rs, rh, t1, fun w G' v H' q tk2 rv rh2 => k w G' v H' q (tk.trans tk2) rv rh2⟩
theorem we_cb (hc : CallW X (.builtin bid) r) (hg : Gl X x) (hm : X.mg x = none) (hv : bootBuiltins x = some (.builtin bid)) (ha : WA X Z (e :: es) Tr) (hn : x ≠ "__name__" := by decide) (hdb : (x == ("__debug__" : Str)) = false := by decide)
    (he : starEach (e :: es) X.env = (false, eval e X.env) :: starEach es X.env := by rfl) (hpl : (backTo pos (starEach es X.env)).any (·.1) = false := by rfl) : WE X Z (.Call (.Name x p) (e :: es) [] pos) (tCW r Tr) :=
  (pe_callB hc hg hm hv ha hn hdb he hpl).weak lfC
theorem we_ct (hc : CallW X (.type T) r) (hg : Gl X x) (hm : X.mg x = none) (hv : bootBuiltins x = some (.type T)) (ha : WA X Z (e :: es) Tr) (hn : x ≠ "__name__" := by decide) (hdb : (x == ("__debug__" : Str)) = false := by decide)
    (he : starEach (e :: es) X.env = (false, eval e X.env) :: starEach es X.env := by rfl) (hpl : (backTo pos (starEach es X.env)).any (·.1) = false := by rfl) : WE X Z (.Call (.Name x p) (e :: es) [] pos) (tCW r Tr) :=
  (pe_callTy hc hg hm hv ha hn hdb he hpl).weak lfC
theorem RVs.one {K : PySem.W.Frag} {H : Hp} {vs : List V} {w : W} (r : RVs K H vs [w]) : ∃ v, vs = [v] ∧ RV K H v w := by
  cases r with
  | cons a b => cases b; exact ⟨_, rfl, a⟩
theorem RVs.two {K : PySem.W.Frag} {H : Hp} {vs : List V} {w y : W} (r : RVs K H vs [w, y]) : ∃ v u, vs = [v, u] ∧ RV K H v w ∧ RV K H u y := by
  cases r with
  | cons a b =>
    cases b with
    | cons c d => cases d; exact ⟨_, _, rfl, a, c⟩
def lenW : CW := fun ws G R => match ws with
  | [.tup xs] => R (.int xs.length) G
  | [.kt xs] => R (.int xs.length) G
  | [.fl xs] => R (.int xs.length) G
  | [.str x] => x.length ≤ sizeLine ∧ R (.int x.length) G
  | [.ref p] => match G p with
    | some (.lst xs) => R (.int xs.length) G
    | some (.dK kws) => R (.int kws.length) G
    | _ => False
  | _ => False
theorem call_lenW : CallW X (.builtin "len") lenW := by
  intro pins s σ H xs us Q I r h
  obtain ⟨ws, G, R, rs, rh, t, k⟩ := h
  match ws, t, rs with
  | [.tup ys], t, rs =>
    obtain ⟨v, rfl, rv⟩ := rs.one
    cases rv with
    | tup q rs => exact call_len pins s σ H _ us Q I r ⟨_, _, rfl, .inr ⟨_, SqT.of q, rfl⟩, by rw [rs.length]; exact k.here t (.int _) rh⟩
  | [.kt ys], t, rs =>
    obtain ⟨v, rfl, rv⟩ := rs.one
    cases rv with
    | kt q rs => exact call_len pins s σ H _ us Q I r ⟨_, _, rfl, .inr ⟨_, q.seq, rfl⟩, by rw [rs.length]; exact k.here t (.int _) rh⟩
  | [.fl ys], t, rs =>
    obtain ⟨v, rfl, rv⟩ := rs.one
    cases rv with
    | fl q rs => exact call_len pins s σ H _ us Q I r ⟨_, _, rfl, .inl ⟨_, q.seq, rfl⟩, by rw [rs.length]; exact k.here t (.int _) rh⟩
  | [.str x], t, rs =>
    obtain ⟨v, rfl, rv⟩ := rs.one
    cases rv
    exact call_len pins s σ H _ us Q I r ⟨_, _, rfl, ⟨t.1, rfl⟩, k.here t.2 (.int _) rh⟩
  | [.ref p], t, rs =>
    obtain ⟨v, rfl, rv⟩ := rs.one
    cases rv
    unfold lenW at t
    dsimp only at t
    split at t
    · rename_i ys e
      obtain ⟨vs, h1, rs⟩ := rh _ _ e
      exact call_len pins s σ H _ us Q I r ⟨_, _, rfl, .inl ⟨_, SqL.of h1, rfl⟩, by rw [rs.length]; exact k.here t (.int _) rh⟩
    · rename_i ys e
      obtain ⟨vs, h1, rs⟩ := rh _ _ e
      exact call_lenD pins s σ H _ us Q I r ⟨_, _, rfl, h1, by rw [RKV.length rs]; exact k.here t (.int _) rh⟩
    · exact t.elim
def absW : CW := fun ws G R => match ws with
  | [.int i] => R (.int (if i < 0 then -i else i)) G
  | _ => False
theorem call_absW : CallW X (.builtin "abs") absW := by
  intro pins s σ H xs us Q I r h
  obtain ⟨ws, G, R, rs, rh, t, k⟩ := h
  match ws, t, rs with
  | [.int i], t, rs =>
    obtain ⟨v, rfl, rv⟩ := rs.one
    cases rv
    exact call_abs pins s σ H _ us Q I r ⟨_, rfl, k.here t (.int _) rh⟩
def mm2W (f : Int → Int → Int) : CW := fun ws G R => match ws with
  | [.int i, .int j] => R (.int (f i j)) G
  | _ => False
theorem call_max2W (hc : X.calm = true) : CallW X (.builtin "max") (mm2W fun i j => if j > i then j else i) := by
  intro pins s σ H xs us Q I r h
  obtain ⟨ws, G, R, rs, rh, t, k⟩ := h
  match ws, t, rs with
  | [.int i, .int j], t, rs =>
    obtain ⟨v, u, rfl, rv, ru⟩ := rs.two
    cases rv; cases ru
    exact call_max2 hc pins s σ H _ us Q I r ⟨_, _, rfl, k.here t (.int _) rh⟩
def itemsW (w : W) (G : GH) : Option (List W) := match w with
  | .tup xs => some xs
  | .kt xs => some xs
  | .fl xs => some xs
  | .ref p => match G p with
    | some (.lst xs) => some xs
    | _ => none
  | _ => none
theorem items_of {K : PySem.W.Frag} {H : Hp} {G : GH} {w : W} {v : V} {xs : List W} (h : itemsW w G = some xs) (rv : RV K H v w) (rh : RH K H G) : ∃ a vs, v = .ref a ∧ (SqL K H a vs ∨ SqT K H a vs) ∧ RVs K H vs xs := by
  cases w with
  | tup ys => cases h; cases rv with | tup q rs => exact ⟨_, _, rfl, .inr (SqT.of q), rs⟩
  | kt ys => cases h; cases rv with | kt q rs => exact ⟨_, _, rfl, .inr q.seq, rs⟩
  | fl ys => cases h; cases rv with | fl q rs => exact ⟨_, _, rfl, .inl q.seq, rs⟩
  | ref p =>
    cases rv
    unfold itemsW at h
    dsimp only at h
    split at h
    · rename_i ys e
      cases h
      obtain ⟨vs, h1, rs⟩ := rh _ _ e
      exact ⟨_, _, rfl, .inl (SqL.of h1), rs⟩
    · cases h
  | _ => cases h
def toListW : CW := fun ws G R => match ws with
  | [w] => match itemsW w G with
    | some xs => ∀ p, G p = none → R (.ref p) (updG G p (.lst xs))
    | none => False
  | _ => False
theorem call_listW : CallW X (.type "list") toListW := by
  intro pins s σ H xs us Q I r h
  obtain ⟨ws, G, R, rs, rh, t, k⟩ := h
  match ws, t, rs with
  | [w], t, rs =>
    obtain ⟨v, rfl, rv⟩ := rs.one
    unfold toListW at t
    dsimp only at t
    split at t
    · rename_i ys e
      obtain ⟨a, vs, rfl, hq, rs⟩ := items_of e rv rh
      exact call_list_of pins s σ H _ us Q I r ⟨_, _, rfl, hq, fun l hl => k _ _ _ _ (t l (rh.free hl)) (.newG hl) (.ref l) (rh.newG hl ⟨_, upd_same, rs.mono (.new hl) rh⟩)⟩
    · exact t.elim
def toTupW : CW := fun ws G R => match ws with
  | [.tup xs] => R (.tup xs) G
  | [.kt xs] => R (.kt xs) G
  | [.fl xs] => R (.tup xs) G
  | [.ref p] => match G p with
    | some (.lst xs) => R (.tup xs) G
    | _ => False
  | _ => False
theorem call_tupW : CallW X (.type "tuple") toTupW := by
  intro pins s σ H xs us Q I r h
  obtain ⟨ws, G, R, rs, rh, t, k⟩ := h
  match ws, t, rs with
  | [.tup ys], t, rs =>
    obtain ⟨v, rfl, rv⟩ := rs.one
    cases rv with
    | tup q rs => exact call_tuple_of pins s σ H _ us Q I r ⟨_, _, rfl, .inr ⟨SqT.of q, k.here t (.tup q rs) rh⟩⟩
  | [.kt ys], t, rs =>
    obtain ⟨v, rfl, rv⟩ := rs.one
    cases rv with
    | kt q rs => exact call_tuple_of pins s σ H _ us Q I r ⟨_, _, rfl, .inr ⟨q.seq, k.here t (.kt q rs) rh⟩⟩
  | [.fl ys], t, rs =>
    obtain ⟨v, rfl, rv⟩ := rs.one
    cases rv with
    | fl q rs => exact call_tuple_of pins s σ H _ us Q I r ⟨_, _, rfl, .inl ⟨q.seq, fun l hl => k _ _ _ _ t (.new hl) (.tup upd_same (rs.mono (.new hl) rh)) (rh.new hl)⟩⟩
  | [.ref p], t, rs =>
    obtain ⟨v, rfl, rv⟩ := rs.one
    cases rv
    unfold toTupW at t
    dsimp only at t
    split at t
    · rename_i ys e
      obtain ⟨vs, h1, rs⟩ := rh _ _ e
      exact call_tuple_of pins s σ H _ us Q I r ⟨_, _, rfl, .inl ⟨SqL.of h1, fun l hl => k _ _ _ _ t (.new hl) (.tup upd_same (rs.mono (.new hl) rh)) (rh.new hl)⟩⟩
    · exact t.elim
def blsOf : List W → Option (List Bool)
  | [] => some []
  | .bl b :: r => (blsOf r).map (b :: ·)
  | _ :: _ => none
theorem bls_of : ∀ {ws : List W} {bs : List Bool}, blsOf ws = some bs → ws = bs.map .bl
  | [], bs, h => by cases h; rfl
  | w :: ws, bs, h => by
    cases w with
    | bl b =>
      unfold blsOf at h
      obtain ⟨r, h1, h2⟩ := Option.map_eq_some_iff.mp h
      subst h2
      rw [bls_of h1]; rfl
    | _ => cases h
theorem blsOf_map : ∀ bs : List Bool, blsOf (bs.map .bl) = some bs
  | [] => rfl
  | b :: bs => by
    show (blsOf (bs.map .bl)).map (b :: ·) = _
    rw [blsOf_map bs]; rfl
inductive Ty where
  | nn | bo | it | st | tu | li | di
  deriving DecidableEq
def Ty.nm : Ty → String
  | .nn => "NoneType" | .bo => "bool" | .it => "int" | .st => "str" | .tu => "tuple" | .li => "list" | .di => "dict"
def isaT : Ty → Ty → Bool
  | .nn, .nn => true | .bo, .bo => true | .bo, .it => true | .it, .it => true | .st, .st => true | .tu, .tu => true | .li, .li => true | .di, .di => true
  | _, _ => false
theorem kitB_T (a b : Ty) : kitB a.nm b.nm = some (isaT a b) := by cases a <;> cases b <;> decide +kernel
def tyW (w : W) (G : GH) : Option Ty := match w with
  | .non => some .nn
  | .bl _ => some .bo
  | .int _ => some .it
  | .str _ => some .st
  | .tup _ => some .tu
  | .kt _ => some .tu
  | .fl _ => some .li
  | .fdK _ => some .di
  | .ref p => match G p with
    | some (.lst _) => some .li
    | some (.dK _) => some .di
    | some (.dT _) => some .di
    | _ => none
  | _ => none
theorem ty_of {K : PySem.W.Frag} {H : Hp} {G : GH} {w : W} {v : V} {T : Ty} (h : tyW w G = some T) (rv : RV K H v w) (rh : RH K H G) : TyX K H v (.type T.nm) := by
  cases w with
  | non => cases h; cases rv; exact .base .non
  | bl b => cases h; cases rv; exact .base (.bl b)
  | int b => cases h; cases rv; exact .base (.int b)
  | str b => cases h; cases rv; exact .base (.str b)
  | tup ys => cases h; cases rv with | tup q rs => exact .base (.tup q)
  | kt ys => cases h; cases rv with | kt q rs => obtain ⟨o, its, n, h1, h2, _⟩ := q; exact .kTuple h1 h2
  | fl ys =>
    cases h
    cases rv with
    | fl q rs =>
      rcases q with ⟨o, q⟩ | ⟨o, its, n, h1, h2, _⟩
      · exact .base (.frz q)
      · exact .kList h1 h2
  | fdK kws =>
    cases h
    cases rv with
    | fdK q _ _ => exact .fDict q
  | ref p =>
    cases rv
    unfold tyW at h
    dsimp only at h
    split at h
    · rename_i ys e; cases h; obtain ⟨vs, h1, _⟩ := rh _ _ e; exact .base (.lst h1)
    · rename_i ys e; cases h; obtain ⟨vs, h1, _⟩ := rh _ _ e; exact .base (.dK h1)
    · rename_i ys e; cases h; obtain ⟨vs, h1, _⟩ := rh _ _ e; exact .base (.dT h1)
    · cases h
  | _ => cases h
def isiW (T : Ty) (w : W) (G : GH) (R : KW) : Prop := match tyW w G with
  | some t => R (.bl (isaT t T)) G
  | none => False
def isi2W (T U : Ty) (w : W) (G : GH) (R : KW) : Prop := match tyW w G with
  | some t => R (.bl (isaT t T || isaT t U)) G
  | none => False
def isiC (T : Ty) : CW := fun ws G R => match ws with
  | [w, .ty n] => n = T.nm ∧ isiW T w G R
  | _ => False
theorem call_isiW (T : Ty) : CallW X (.builtin "isinstance") (isiC T) := by
  intro pins s σ H xs us Q I r h
  obtain ⟨ws, G, R, rs, rh, t, k⟩ := h
  match ws, t, rs with
  | [w, .ty n], t, rs =>
    obtain ⟨v, u, rfl, rv, ru⟩ := rs.two
    obtain ⟨rfl, t⟩ := t
    cases ru
    unfold isiW at t
    split at t
    · rename_i ty e
      exact call_isi pins s σ H _ us Q I r ⟨v, _, _, _, _, rfl, .ty _, ty_of e rv rh, kit_ty (kitB_T ty T), k.here t (.bl _) rh⟩
    · exact t.elim
def isiC2 (T U : Ty) : CW := fun ws G R => match ws with
  | [w, .tup [.ty n, .ty m]] => n = T.nm ∧ m = U.nm ∧ isi2W T U w G R
  | _ => False
theorem call_isi2W (T U : Ty) : CallW X (.builtin "isinstance") (isiC2 T U) := by
  intro pins s σ H xs us Q I r h
  obtain ⟨ws, G, R, rs, rh, t, k⟩ := h
  match ws, t, rs with
  | [w, .tup [.ty n, .ty m]], t, rs =>
    obtain ⟨v, u, rfl, rv, ru⟩ := rs.two
    obtain ⟨rfl, rfl, t⟩ := t
    cases ru with
    | tup q rs2 =>
      obtain ⟨v1, v2, rfl, k1, k2⟩ := rs2.two
      cases k1; cases k2
      unfold isi2W at t
      split at t
      · rename_i ty e
        refine call_isiT pins s σ H _ us Q I r ⟨v, _, _, _, [.type T.nm, .type U.nm], _, rfl, q, .cons (.ty _) (.cons (.ty _) .nil), ty_of e rv rh, ?_, k.here t (.bl _) rh⟩
        refine kitAny_cons (kit_ty (kitB_T ty T)) (fun e1 => ?_) (fun e1 => by rw [e1, Bool.true_or])
        rw [e1, Bool.false_or]
        refine kitAny_cons (kit_ty (kitB_T ty U)) (fun e1 => ?_) (fun e1 => by rw [e1])
        rw [e1]; exact kitAny_nil
      · exact t.elim
end
end WL
set_option Elab.async false
set_option linter.all false
set_option maxRecDepth 100000
set_option maxHeartbeats 4000000
namespace WL
open PySem PySem.Spec PyProof.Rows L2
abbrev TGW := W → WSt → GH → (WSt → GH → Prop) → Prop
abbrev TGsW := List W → WSt → GH → (WSt → GH → Prop) → Prop
def LfG (K : PySem.W.Frag) (Z : GH × Hp) (g : TGW) : TG := fun v σ H Q => ∃ w S G R, RV K H v w ∧ SR K Z σ H S G ∧ g w S G R ∧ ∀ S' G' σ' H', R S' G' → SR K Z σ' H' S' G' → FR G H G' H' → Q σ' H'
def LfGs (K : PySem.W.Frag) (Z : GH × Hp) (g : TGsW) : TGs := fun vs σ H Q => ∃ ws S G R, RVs K H vs ws ∧ SR K Z σ H S G ∧ g ws S G R ∧ ∀ S' G' σ' H', R S' G' → SR K Z σ' H' S' G' → FR G H G' H' → Q σ' H'
section
variable (X : Cx) (Z : GH × Hp)
def WG (e : Expr) (g : TGW) : Prop := PG X e (LfG X.K Z g)
def WGs (es : List Expr) (g : TGsW) : Prop := PGs X es (LfGs X.K Z g)
end
theorem _root_.L2.PG.weak {X : Cx} {e : Expr} {t t' : TG} (h : PG X e t) (w : ∀ v σ H Q, t' v σ H Q → t v σ H Q) : PG X e t' := ⟨fun pins s σ H v u Q I r q => h.run pins s σ H v u Q I r (w v σ H Q q)⟩
theorem _root_.L2.PGs.weak {X : Cx} {e : List Expr} {t t' : TGs} (h : PGs X e t) (w : ∀ v σ H Q, t' v σ H Q → t v σ H Q) : PGs X e t' := ⟨fun pins s σ H v u Q I r q => h.run pins s σ H v u Q I r (w v σ H Q q)⟩
theorem _root_.L2.PI.weak {X : Cx} {tg e : Expr} {t t' : TI} (h : PI X tg e t) (w : ∀ σ H Q, t' σ H Q → t σ H Q) : PI X tg e t' := ⟨fun pins s σ H Q I q => h.run pins s σ H Q I (w σ H Q q)⟩
section
variable {X : Cx} {Z : GH × Hp} {a b c e o : Expr} {Ta Tb : TW} {pos : Pos} {K : PySem.W.Frag} {es : List Expr}
theorem LfG.go {g : TGW} {v : V} {w : W} {σ : L2.St} {H : Hp} {S : WSt} {G : GH} {R : WSt → GH → Prop} {Q : L2.St → Hp → Prop} (rv : RV K H v w) (sr : SR K Z σ H S G) (t : g w S G R) (k : ∀ S' G' σ' H', R S' G' → SR K Z σ' H' S' G' → FR G H G' H' → Q σ' H') : LfG K Z g v σ H Q := ⟨w, S, G, R, rv, sr, t, k⟩
def gN (i : Nat) : TGW := fun w S G R => R (S.set i (some w)) G
theorem wg_name {i : Nat} {x : Str} (hN : X.N.Nodup) (hi : X.N[i]? = some x) (hx : Loc X.env.scope x) (hf : X.fn x = true ∨ X.env.scope.names.lookup x = some .local := by first | exact .inl rfl | exact .inr rfl | assumption) : WG X Z (.Name x pos) (gN i) :=
  (pg_name hN hi hx hf).weak fun v σ H Q h => by
    obtain ⟨w, S, G, R, rv, sr, t, k⟩ := h
    exact k _ _ _ _ t (sr.set rv) .refl
def gsN : TGsW := fun ws S G R => ws = [] ∧ R S G
def gsC (t : TGW) (u : TGsW) : TGsW := fun ws S G R => match ws with
  | w :: r => t w S G fun S' G' => u r S' G' R
  | [] => False
theorem wgs_nil : WGs X Z [] gsN := pgs_nil.weak fun v σ H Q h => by
  obtain ⟨w, S, G, R, rv, sr, ⟨t1, t2⟩, k⟩ := h
  subst t1; cases rv
  exact ⟨rfl, k _ _ _ _ t2 sr .refl⟩
theorem wgs_cons {t : TGW} {u : TGsW} (h1 : WG X Z e t) (h2 : WGs X Z es u) (hs : (assignEach (e :: es) X.env).map (·.2) = assign e X.env :: (assignEach es X.env).map (·.2) := by rfl) : WGs X Z (e :: es) (gsC t u) :=
  (pgs_cons h1 h2 hs).weak fun v σ H Q h => by
    obtain ⟨w, S, G, R, rv, sr, t, k⟩ := h
    cases rv with
    | nil => exact (show False from t).elim
    | cons r rs =>
      refine ⟨_, _, rfl, LfG.go r sr t fun S' G' σ' H' t1 sr1 f1 => ?_⟩
      exact ⟨_, S', G', R, rs.mono f1 sr.rh, sr1, t1, fun S2 G2 σ2 H2 t2 sr2 f2 => k _ _ _ _ t2 sr2 (f1.trans f2)⟩
def gT (n : Nat) (u : TGsW) : TGW := fun w S G R => match w.tup? with
  | some xs => xs.length = n ∧ u xs S G R
  | none => False
abbrev TSetW := W → W → W → GH → (GH → Prop) → Prop
def l3 (K : PySem.W.Frag) (r : TSetW) : TSet := fun o i v H Q => ∃ wo wi wv G R, RV K H o wo ∧ RV K H i wi ∧ RV K H v wv ∧ RH K H G ∧ r wo wi wv G R ∧ ∀ G' H', R G' → FR G H G' H' → RH K H' G' → Q H'
def SetW (X : Cx) (r : TSetW) : Prop := PSet X (l3 X.K r)
def gSubW (To Ti : TW) (r : TSetW) : TGW := fun w S G R => To S G fun o G1 => Ti S G1 fun i G2 => r o i w G2 fun G3 => R S G3
theorem wg_sub {i : Expr} {Ti : TW} {r : TSetW} (ho : WE X Z o Ta) (hi : WE X Z i Ti) (hs : SetW X r)
    (ha : ∀ v, assign (.Subscript o i pos) X.env v = (do
      let ov ← holding [v] (eval o X.env)
      let iv ← holding [v, ov] (eval i X.env)
      standAt pos
      holding [v, ov, iv] (setItem ov iv v)
      release [v, ov, iv] []) := by intro _; rfl) : WG X Z (.Subscript o i pos) (gSubW Ta Ti r) := (pg_sub ho hi hs ha).weak fun v σ H Q h => by
  obtain ⟨w, S, G, R, rv, sr, t, k⟩ := h
  refine Lf.go sr t fun w1 G1 x H1 t1 f1 r1 h1 => ?_
  refine Lf.go (sr.next f1 h1) t1 fun w2 G2 y H2 t2 f2 r2 h2 => ?_
  have rv2 := (rv.mono f1 sr.rh).mono f2 h1
  exact ⟨w1, w2, w, G2, _, r1.mono f2 h1, r2, rv2, h2, t2, fun G' H' q f3 h3 => k _ _ _ _ q (((sr.next f1 h1).next f2 h2).next f3 h3) (f1.trans (f2.trans f3))⟩
variable {st : Stmt} {rest : List Stmt} {T U : TWS}
theorem LfS.go {T : TWS} {D : Ends} {DW : WEnds} {σ : L2.St} {H : Hp} {S : WSt} {G : GH} (sr : SR K Z σ H S G) (t : T DW S G) (l : LD K Z G H DW D) : LfS K Z T D σ H := ⟨S, G, DW, sr, t, l⟩
def sNext : TWS := fun D S G => D.nx S G
def sSeq (T U : TWS) : TWS := fun D S G => T { D with nx := U D } S G
theorem wss_nil : WSs X Z [] sNext := pss_nil.weak fun D σ H h => by
  obtain ⟨S, G, DW, sr, t, l⟩ := h
  exact l.nx _ _ _ _ t sr .refl
theorem wss_cons (h1 : WS X Z st T) (h2 : WSs X Z rest U) : WSs X Z (st :: rest) (sSeq T U) := (pss_cons h1 h2).weak fun D σ H h => by
  obtain ⟨S, G, DW, sr, t, l⟩ := h
  exact LfS.go sr t ⟨fun S' G' σ' H' d sr' f => LfS.go sr' d (l.from_ f), l.rt, l.bk, l.ct⟩
theorem wss_one (h1 : WS X Z st T) : WSs X Z [st] T := pss_one h1
def sDrop (Ta : TW) : TWS := fun D S G => Ta S G fun _ G1 => D.nx S G1
theorem ws_expr (he : WE X Z e Ta) (hs : swapsWith e none pos.line X.env = pure false := by rfl) : WS X Z (.Expr e pos) (sDrop Ta) := (ps_expr he hs).weak fun D σ H h => by
  obtain ⟨S, G, DW, sr, t, l⟩ := h
  exact Lf.go sr t fun w G1 v H1 t1 f1 r1 h1 => l.nx _ _ _ _ t1 (sr.next f1 h1) f1
def sRet (Ta : TW) : TWS := fun D S G => Ta S G D.rt
theorem ws_ret (he : WE X Z e Ta) : WS X Z (.Return (some e) pos) (sRet Ta) := (ps_ret he).weak fun D σ H h => by
  obtain ⟨S, G, DW, sr, t, l⟩ := h
  exact Lf.go sr t fun w G1 v H1 t1 f1 r1 h1 => l.rt _ _ _ _ t1 f1 r1 h1
def sRetN : TWS := fun D _ G => D.rt .non G
theorem ws_retN : WS X Z (.Return none pos) sRetN := ps_retN.weak fun D σ H h => by
  obtain ⟨S, G, DW, sr, t, l⟩ := h
  exact l.rt _ _ _ _ t .refl .non sr.rh
def sIf (c : TWT) (T U : TWS) : TWS := fun D S G => c S G fun b G1 => if b = true then T D S G1 else U D S G1
theorem ws_if {c : Expr} {p q : List Stmt} {tc : TWT} (hc : WT X Z c tc) (ha : WSs X Z p T) (hb : WSs X Z q U) : WS X Z (.If c p q pos) (sIf tc T U) := (ps_if hc ha hb).weak fun D σ H h => by
  obtain ⟨S, G, DW, sr, t, l⟩ := h
  refine LfT.go sr t fun b G1 H1 t1 f1 h1 => ?_
  cases b with
  | true => exact iteT (LfS.go (sr.next f1 h1) t1 (l.from_ f1))
  | false => exact iteF (LfS.go (sr.next f1 h1) t1 (l.from_ f1))
def sAsg (Ta : TW) (g : TGW) : TWS := fun D S G => Ta S G fun w G1 => g w S G1 D.nx
theorem lfAsg {g : TGW} (D : Ends) (σ : L2.St) (H : Hp) (h : LfS K Z (sAsg Ta g) D σ H) : tAsg (Lf K Z Ta) (LfG K Z g) D σ H := by
  obtain ⟨S, G, DW, sr, t, l⟩ := h
  refine Lf.go sr t fun w G1 v H1 t1 f1 r1 h1 => ?_
  exact LfG.go r1 (sr.next f1 h1) t1 fun S' G' σ' H' t2 sr2 f2 => l.nx _ _ _ _ t2 sr2 (f1.trans f2)
theorem ws_asg {tg : Expr} {g : TGW} (he : WE X Z e Ta) (hg : WG X Z tg g) (hs : swapsWithSole [tg] e pos.line X.env = pure false := by rfl) (hw : swappedStores [tg] e X.env = pure none := by rfl)
    (h1 : (assignEach [tg] X.env).map (·.2) = [assign tg X.env] := by rfl) : WS X Z (.Assign [tg] e pos) (sAsg Ta g) := (ps_asg he hg hs hw h1).weak lfAsg
def sSet (i : Nat) (Ta : TW) : TWS := fun D S G => Ta S G fun w G1 => D.nx (S.set i (some w)) G1
theorem ws_set {i : Nat} {x : Str} {pos' : Pos} (hN : X.N.Nodup) (hi : X.N[i]? = some x) (hx : Loc X.env.scope x) (he : WE X Z e Ta) (hs : swapsWith e (some (.Name x pos')) pos.line X.env = pure false := by rfl) (hf : X.fn x = true ∨ X.env.scope.names.lookup x = some .local := by first | exact .inl rfl | exact .inr rfl | assumption) :
    WS X Z (.Assign [.Name x pos'] e pos) (sSet i Ta) := (ps_set hN hi hx he hs hf).weak fun D σ H h => by
  obtain ⟨S, G, DW, sr, t, l⟩ := h
  exact Lf.go sr t fun w G1 v H1 t1 f1 r1 h1 => l.nx _ _ _ _ t1 ((sr.next f1 h1).set r1) f1
def sPar (i j : Nat) (Tr : TWA) : TWS := fun D S G => Tr S G fun ws G1 => match ws with
  | [v, w] => D.nx ((S.set i (some v)).set j (some w)) G1
  | _ => False
theorem ws_par {i j : Nat} {x y : Str} {a b : Expr} {Tr : TWA} {px py pt : Pos} {kt k2 pt2} (hc : X.calm = true) (hN : X.N.Nodup) (hi : X.N[i]? = some x) (hj : X.N[j]? = some y) (hij : i ≠ j)
    (hx : X.env.scope.names.lookup x = some .local) (hy : X.env.scope.names.lookup y = some .local) (ha : WA X Z [a, b] Tr)
    (hw : swappedStores [.Tuple [.Name x px, .Name y py] kt pt] (.Tuple [a, b] k2 pt2) X.env = pure (some [x, y]))
    (hs : swapsWithSole [.Tuple [.Name x px, .Name y py] kt pt] (.Tuple [a, b] k2 pt2) pos.line X.env = pure false := by rfl) :
    WS X Z (.Assign [.Tuple [.Name x px, .Name y py] kt pt] (.Tuple [a, b] k2 pt2) pos) (sPar i j Tr) := (ps_par hc hN hi hj hij hx hy ha hw hs).weak fun D σ H h => by
  obtain ⟨S, G, DW, sr, t, l⟩ := h
  refine LfA.go sr t fun ws G1 vs H1 t1 f1 rs h1 => ?_
  match ws, t1, rs with
  | [w1, w2], t1, rs =>
    obtain ⟨v1, v2, rfl, k1, k2⟩ := rs.two
    exact ⟨v1, v2, rfl, l.nx _ _ _ _ t1 (((sr.next f1 h1).set k1).set k2) f1⟩
structure WIt (K : PySem.W.Frag) (G1 : GH) (H1 : Hp) (J : It) (items : List W) (Gd : GH → Prop) : Prop where
  go : ∀ i G H, FR G1 H1 G H → RH K H G → Gd G → i < items.length → J.go i H
  yld : ∀ i G H x H' w, FR G1 H1 G H → RH K H G → Gd G → items[i]? = some w → J.yld i H x H' → FR G H G H' ∧ RV K H' x w ∧ RH K H' G
  stop : ∀ G H, FR G1 H1 G H → RH K H G → Gd G → J.stop items.length H
abbrev TIW := WSt → GH → (List W → (GH → Prop) → GH → Prop) → Prop
def LfI (K : PySem.W.Frag) (Z : GH × Hp) (T : TIW) : TI := fun σ H R => ∃ S G R', SR K Z σ H S G ∧ T S G R' ∧ ∀ items Gd G' J H', R' items Gd G' → FR G H G' H' → RH K H' G' → WIt K G' H' J items Gd → R J H'
def WI (X : Cx) (Z : GH × Hp) (tg iter : Expr) (T : TIW) : Prop := PI X tg iter (LfI X.K Z T)
def iSeq (K : PySem.W.Frag) (tl : TE) : TI := fun σ H R => tl σ H fun x H1 => ∃ a, x = .ref a ∧ (((∃ xs, SqL K H1 a xs) ∧ R (Itl K a) H1) ∨ ((∃ xs, SqT K H1 a xs) ∧ R (Itt K a) H1))
theorem pi_seq {tg l : Expr} {tl : TE} (hl : PE X l tl) : PI X tg l (iSeq X.K tl) := by
  refine ⟨fun pins s σ H R I h => ?_⟩
  refine thn (hl.run pins s σ H _ I h) fun v s1 ⟨x, H1, I1, r1, q1⟩ => ?_
  obtain ⟨a, e, q | q⟩ := q1
  · obtain ⟨⟨xs, hq⟩, q⟩ := q
    subst e
    cases r1
    obtain ⟨its, rv, p, hz⟩ := I1.list hq
    refine wpAny_pyIter_list p.isList ?_
    refine ⟨s1.heap.objs.size, [s1.heap.objs.size], _, _, H1, rfl, I1.kept (t' := s1.toks) fun b o e => Heap.get?_push_of_some _ e, turn_list a _, ⟨_, Heap.get?_push_size _ rfl, rfl, rfl⟩, fun b hb => ?_, q⟩
    have e : b = s1.heap.objs.size := by simpa using hb
    subst e
    exact I1.fpOk (Nat.le_refl _) (I1.hok.fresh (Nat.le_refl _))
  · obtain ⟨⟨xs, hq⟩, q⟩ := q
    subst e
    cases r1
    obtain ⟨its, rv, p, hz⟩ := I1.tuple hq
    refine wpAny_pyIter_tuple (show s1.heap.IsTuple a its.toArray from p) ?_
    refine ⟨s1.heap.objs.size, [s1.heap.objs.size], _, _, H1, rfl, I1.kept (t' := s1.toks) fun b o e => Heap.get?_push_of_some _ e, turn_tuple a _, ⟨_, Heap.get?_push_size _ rfl, rfl, rfl⟩, fun b hb => ?_, q⟩
    have e : b = s1.heap.objs.size := by simpa using hb
    subst e
    exact I1.fpOk (Nat.le_refl _) (I1.hok.fresh (Nat.le_refl _))
theorem wit_list {G1 : GH} {H1 : Hp} {a : Addr} {items : List W} {Gd : GH → Prop} (h : ∀ G H, FR G1 H1 G H → RH K H G → Gd G → ∃ vs, SqL K H a vs ∧ RVs K H vs items) (one : ∀ G H vs us, RH K H G → SqL K H a vs → SqL K H a us → vs = us ∨ True) : WIt K G1 H1 (Itl K a) items Gd where
  go := fun i G H f rh g hi => by
    obtain ⟨vs, hq, rs⟩ := h G H f rh g
    obtain ⟨v, hv, _⟩ := rs.get (i := i) (w := items[i]) (by simp [hi])
    exact ⟨vs, v, hq, hv⟩
  yld := fun i G H x H' w f rh g hw y => by
    obtain ⟨vs, hq, rs⟩ := h G H f rh g
    obtain ⟨e, y⟩ := y
    subst e
    obtain ⟨v, hv, rv⟩ := rs.get hw
    have e2 := y vs hq
    rw [hv] at e2; cases e2
    exact ⟨.refl, rv, rh⟩
  stop := fun G H f rh g => by
    obtain ⟨vs, hq, rs⟩ := h G H f rh g
    exact ⟨vs, hq, Nat.le_of_eq rs.length⟩
theorem wit_tup {G1 : GH} {H1 : Hp} {a : Addr} {items : List W} {Gd : GH → Prop} (h : ∀ G H, FR G1 H1 G H → RH K H G → Gd G → ∃ vs, SqT K H a vs ∧ RVs K H vs items) : WIt K G1 H1 (Itt K a) items Gd where
  go := fun i G H f rh g hi => by
    obtain ⟨vs, hq, rs⟩ := h G H f rh g
    obtain ⟨v, hv, _⟩ := rs.get (i := i) (w := items[i]) (by simp [hi])
    exact ⟨vs, v, hq, hv⟩
  yld := fun i G H x H' w f rh g hw y => by
    obtain ⟨vs, hq, rs⟩ := h G H f rh g
    obtain ⟨e, y⟩ := y
    subst e
    obtain ⟨v, hv, rv⟩ := rs.get hw
    have e2 := y vs hq
    rw [hv] at e2; cases e2
    exact ⟨.refl, rv, rh⟩
  stop := fun G H f rh g => by
    obtain ⟨vs, hq, rs⟩ := h G H f rh g
    exact ⟨vs, hq, Nat.le_of_eq rs.length⟩
def tru1 : GH → Prop := fun _ => True
def walkW (w : W) (G : GH) (R : List W → (GH → Prop) → GH → Prop) : Prop := match w with
  | .tup xs => R xs tru1 G
  | .kt xs => R xs tru1 G
  | .fl xs => R xs tru1 G
  | .ref p => match G p with
    | some (.lst xs) => R xs (fun G => G p = some (.lst xs)) G
    | _ => False
  | _ => False
def tISeq (Ta : TW) : TIW := fun S G R => Ta S G fun w G1 => walkW w G1 R
theorem wi_seq {tg : Expr} (ha : WE X Z a Ta) : WI X Z tg a (tISeq Ta) := (pi_seq ha).weak fun σ H R h => by
  obtain ⟨S, G, R', sr, t, k⟩ := h
  refine Lf.go sr t fun w G1 v H1 t1 f1 r1 h1 => ?_
  cases w with
  | tup xs =>
    cases r1 with
    | tup q rs =>
      refine ⟨_, rfl, .inr ⟨⟨_, SqT.of q⟩, k xs tru1 G1 _ H1 t1 f1 h1 (wit_tup fun G H f rh g => ⟨_, SqT.of (f.tup h1 q), rs.mono f h1⟩)⟩⟩
  | kt xs =>
    cases r1 with
    | kt q rs =>
      refine ⟨_, rfl, .inr ⟨⟨_, q.seq⟩, k xs tru1 G1 _ H1 t1 f1 h1 (wit_tup fun G H f rh g => ⟨_, q.seq, rs.mono f h1⟩)⟩⟩
  | fl xs =>
    cases r1 with
    | fl q rs =>
      refine ⟨_, rfl, .inl ⟨⟨_, q.seq⟩, k xs tru1 G1 _ H1 t1 f1 h1 (wit_list (fun G H f rh g => ⟨_, (f.frz h1 q).seq, rs.mono f h1⟩) fun _ _ _ _ _ _ _ => .inr trivial)⟩⟩
  | ref p =>
    cases r1
    unfold walkW at t1
    dsimp only at t1
    split at t1
    · rename_i xs e
      obtain ⟨vs, hv, rs⟩ := h1 _ _ e
      refine ⟨_, rfl, .inl ⟨⟨_, SqL.of hv⟩, k xs _ G1 _ H1 t1 f1 h1 (wit_list (fun G H f rh g => ?_) fun _ _ _ _ _ _ _ => .inr trivial)⟩⟩
      obtain ⟨us, hu, ru⟩ := rh _ _ g
      exact ⟨us, SqL.of hu, ru⟩
    · exact t1.elim
  | _ => exact (show False from t1).elim
theorem wit_range {G1 : GH} {H1 : Hp} (lo : Int) (n : Nat) : WIt K G1 H1 (Itr lo n) ((List.range n).map fun i => W.int (lo + (i : Nat))) tru1 where
  go := fun i G H f rh g hi => by
    show i < n
    simpa using hi
  yld := fun i G H x H' w f rh g hw y => by
    obtain ⟨e, y⟩ := y
    subst e
    have hi : i < n := by
      have := (List.getElem?_eq_some_iff.mp hw).1
      simpa using this
    simp [hi] at hw
    subst hw
    rw [y]
    exact ⟨.refl, .int _, rh⟩
  stop := fun G H f rh g => by
    show n ≤ _
    simp
def tIRng1 (Tr : TWA) : TIW := fun S G R => Tr S G fun ws G1 => match ws with
  | [.int j] => -(2 ^ 62) ≤ j ∧ j < 2 ^ 62 ∧ R ((List.range j.toNat).map fun i => W.int (0 + (i : Nat))) tru1 G1
  | _ => False
def tIRng2 (Tr : TWA) : TIW := fun S G R => Tr S G fun ws G1 => match ws with
  | [.int i, .int j] => (-(2 ^ 62) ≤ i ∧ i < 2 ^ 62 ∧ -(2 ^ 62) ≤ j ∧ j < 2 ^ 62) ∧ R ((List.range (j - i).toNat).map fun k => W.int (i + (k : Nat))) tru1 G1
  | _ => False
theorem wi_range1 {tg : Expr} {Tr : TWA} {p : Pos} (hg : Gl X "range") (hm : X.mg "range" = none) (ha : WA X Z [a] Tr) (hs : starEach [a] X.env = [(false, eval a X.env)] := by rfl) : WI X Z tg (.Call (.Name "range" p) [a] [] pos) (tIRng1 Tr) :=
  (pi_range1 hg hm ha hs).weak fun σ H R h => by
    obtain ⟨S, G, R', sr, t, k⟩ := h
    refine LfA.go sr t fun ws G1 vs H1 t1 f1 rs h1 => ?_
    match ws, t1, rs with
    | [.int j], t1, rs =>
      obtain ⟨v, rfl, rv⟩ := rs.one
      cases rv
      exact ⟨j, rfl, t1.1, t1.2.1, k _ _ G1 _ H1 t1.2.2 f1 h1 (wit_range 0 j.toNat)⟩
theorem wi_range2 {tg : Expr} {Tr : TWA} {p : Pos} (hg : Gl X "range") (hm : X.mg "range" = none) (ha : WA X Z [a, b] Tr) (hs : starEach [a, b] X.env = [(false, eval a X.env), (false, eval b X.env)] := by rfl) (hs2 : starEach [b] X.env = [(false, eval b X.env)] := by rfl) :
    WI X Z tg (.Call (.Name "range" p) [a, b] [] pos) (tIRng2 Tr) :=
  (pi_range2 hg hm ha hs hs2).weak fun σ H R h => by
    obtain ⟨S, G, R', sr, t, k⟩ := h
    refine LfA.go sr t fun ws G1 vs H1 t1 f1 rs h1 => ?_
    match ws, t1, rs with
    | [.int i, .int j], t1, rs =>
      obtain ⟨v, u, rfl, rv, ru⟩ := rs.two
      cases rv; cases ru
      exact ⟨i, j, rfl, t1.1, k _ _ G1 _ H1 t1.2 f1 h1 (wit_range i _)⟩
def forW (Gd : GH → Prop) (g : TGW) (tb : TWS) (D : WEnds) : List W → WSt → GH → Prop
  | [], S, G => Gd G ∧ D.nx S G
  | x :: xs, S, G => Gd G ∧ g x S G fun S1 G1 => tb { D with nx := forW Gd g tb D xs, ct := forW Gd g tb D xs, bk := D.nx } S1 G1
def sFor (ti : TIW) (g : TGW) (tb : TWS) : TWS := fun D S G => ti S G fun items Gd G1 => forW Gd g tb D items S G1
theorem ws_for {tg iter : Expr} {body : List Stmt} {ti : TIW} {g : TGW} {tb : TWS} (hp : PassesOwn (model X.prog X.w) X.A X.env X.xe) (hc : X.calm = true) (hi : WI X Z tg iter ti) (hg : WG X Z tg g) (hb : WSs X Z body tb)
    (hs : ∀ x, foldedSetIterable iter X.env x = pure x := by intro _; rfl) : WS X Z (.For tg iter body [] pos) (sFor ti g tb) := (ps_for hp hc hi hg hb hs).weak fun D σ H h => by
  obtain ⟨S, G, DW, sr, t, l⟩ := h
  refine ⟨S, G, _, sr, t, fun items Gd G1 J H1 t1 f1 h1 wi => ?_⟩
  refine ⟨fun i m σ' H' => m = items.length - i ∧ i ≤ items.length ∧ ∃ S' G', SR X.K Z σ' H' S' G' ∧ FR G1 H1 G' H' ∧ forW Gd g tb DW (items.drop i) S' G', ⟨items.length, by simp, Nat.zero_le _, S, G1, sr.next f1 h1, .refl, t1⟩, ?_⟩
  rintro i m σ2 H2 ⟨rfl, hi, S2, G2, sr2, f2, t2⟩
  have l2 : LD X.K Z G2 H2 DW D := l.from_ (f1.trans f2)
  by_cases hlt : i < items.length
  · rw [List.drop_eq_getElem_cons hlt] at t2
    obtain ⟨gd, t2⟩ := t2
    refine .inr ⟨wi.go i G2 H2 f2 sr2.rh gd hlt, fun σ' H' => ∃ S' G', SR X.K Z σ' H' S' G' ∧ FR G1 H1 G' H' ∧ forW Gd g tb DW (items.drop (i + 1)) S' G', ?_, fun x H3 y => ?_⟩
    · rintro σ' H' ⟨S', G', q1, q2, q3⟩
      exact ⟨items.length - (i + 1), by omega, rfl, hlt, S', G', q1, q2, q3⟩
    · obtain ⟨f3, r3, h3⟩ := wi.yld i G2 H2 x H3 items[i] f2 sr2.rh gd (by simp [hlt]) y
      refine LfG.go r3 (sr2.next f3 h3) t2 fun S4 G4 σ4 H4 t4 sr4 f4 => ?_
      refine LfS.go sr4 t4 ⟨fun S5 G5 σ5 H5 d sr5 f5 => ⟨S5, G5, sr5, f2.trans (f3.trans (f4.trans f5)), d⟩, fun w G5 v H5 d f5 => l2.rt _ _ _ _ d (f3.trans (f4.trans f5)), fun S5 G5 σ5 H5 d sr5 f5 => l2.nx _ _ _ _ d sr5 (f3.trans (f4.trans f5)), fun S5 G5 σ5 H5 d sr5 f5 => ⟨S5, G5, sr5, f2.trans (f3.trans (f4.trans f5)), d⟩⟩
  · have e : i = items.length := by omega
    subst e
    rw [List.drop_length] at t2
    exact .inl ⟨wi.stop G2 H2 f2 sr2.rh t2.1, l2.nx _ _ _ _ t2.2 sr2 .refl⟩
def sWhile (c : TWT) (tb : TWS) : TWS := fun D S G => ∃ V : Nat → WSt → GH → Prop, (∃ m, V m S G) ∧ ∀ m S G, V m S G → c S G fun b G1 =>
  if b = true then tb { D with nx := fun S' G' => ∃ m', m' < m ∧ V m' S' G', ct := fun S' G' => ∃ m', m' < m ∧ V m' S' G', bk := D.nx } S G1 else D.nx S G1
theorem ws_while {c : Expr} {body : List Stmt} {tc : TWT} {tb : TWS} (hp : PassesOwn (model X.prog X.w) X.A X.env X.xe) (hc : WT X Z c tc) (hb : WSs X Z body tb) : WS X Z (.While c body [] pos) (sWhile tc tb) := (ps_while hp hc hb).weak fun D σ H h => by
  obtain ⟨S, G, DW, sr, ⟨V, ⟨m0, v0⟩, turn⟩, l⟩ := h
  refine ⟨fun m σ' H' => ∃ S' G', SR X.K Z σ' H' S' G' ∧ FR G H G' H' ∧ V m S' G', ⟨m0, S, G, sr, .refl, v0⟩, ?_⟩
  rintro m σ2 H2 ⟨S2, G2, sr2, f2, v2⟩
  have l2 : LD X.K Z G2 H2 DW D := l.from_ f2
  refine LfT.go sr2 (turn m S2 G2 v2) fun b G3 H3 t3 f3 h3 => ?_
  cases b with
  | false => exact iteF (l2.nx _ _ _ _ t3 (sr2.next f3 h3) f3)
  | true =>
    refine iteT ⟨fun σ' H' => ∃ m', m' < m ∧ ∃ S' G', SR X.K Z σ' H' S' G' ∧ FR G H G' H' ∧ V m' S' G', fun σ' H' ⟨m', hm, q⟩ => ⟨m', hm, q⟩, ?_⟩
    have l3 := l2.from_ f3
    refine LfS.go (sr2.next f3 h3) t3 ⟨fun S5 G5 σ5 H5 d sr5 f5 => ?_, fun w G5 v H5 d f5 => l3.rt _ _ _ _ d f5, fun S5 G5 σ5 H5 d sr5 f5 => l3.nx _ _ _ _ d sr5 f5, fun S5 G5 σ5 H5 d sr5 f5 => ?_⟩
    · obtain ⟨m', hm, q⟩ := d
      exact ⟨m', hm, S5, G5, sr5, f2.trans (f3.trans f5), q⟩
    · obtain ⟨m', hm, q⟩ := d
      exact ⟨m', hm, S5, G5, sr5, f2.trans (f3.trans f5), q⟩
def wipeW (S : WSt) : List Nat → WSt
  | [] => S
  | v :: vs => (wipeW S vs).set v none
theorem SR.wipe {σ : L2.St} {H : Hp} {S : WSt} {G : GH} (sr : SR K Z σ H S G) : ∀ vs : List Nat, SR K Z (L2.wipe σ vs) H (wipeW S vs) G
  | [] => sr
  | v :: vs => (SR.wipe sr vs).unset
def PTsW (X : Cx) (Z : GH × Hp) (ifs : List Expr) (t : TWT) : Prop := PTs X ifs (LfT X.K Z t)
def tYesW : TWT := fun _ G R => R true G
theorem wts_nil : PTsW X Z [] tYesW := ⟨fun pins s σ H Q I h => by
  obtain ⟨S, G, R, sr, t, k⟩ := h
  exact pts_nil.run pins s σ H Q I (k _ _ _ t .refl sr.rh)⟩
theorem wts_one {c : Expr} {t : TWT} (h : WT X Z c t) : PTsW X Z [c] t := pts_one h
structure GOk (K : PySem.W.Frag) (Z : GH × Hp) (gh : TG) (g : TGW) (vs : List Nat) : Prop where
  lift : ∀ v σ H Q, LfG K Z g v σ H Q → gh v σ H Q
  keeps : ∀ v σ H Q, gh v σ H Q → gh v σ H fun σ' H' => L2.wipe σ' vs = L2.wipe σ vs ∧ Q σ' H'
theorem wipe_set {i : Nat} {x : Option V} {σ : L2.St} : ∀ {vs : List Nat}, i ∈ vs → L2.wipe (σ.set i x) vs = L2.wipe σ vs
  | [], h => by cases h
  | v :: vs, h => by
    show (L2.wipe (σ.set i x) vs).set v none = (L2.wipe σ vs).set v none
    by_cases e : i ∈ vs
    · rw [wipe_set e]
    · have ei : i = v := by
        rcases List.mem_cons.mp h with h | h
        · exact h
        · exact absurd h e
      subst ei
      have c : ∀ ws : List Nat, i ∉ ws → L2.wipe (σ.set i x) ws = (L2.wipe σ ws).set i x := by
        intro ws
        induction ws with
        | nil => intro _; rfl
        | cons u us ih =>
          intro hu
          have h1 : i ≠ u := fun q => hu (by rw [q]; exact List.mem_cons_self)
          have h2 : i ∉ us := fun q => hu (List.mem_cons_of_mem _ q)
          show (L2.wipe (σ.set i x) us).set u none = ((L2.wipe σ us).set u none).set i x
          rw [ih h2, List.set_comm _ _ h1]
      rw [c vs e, List.set_set]
theorem wipe_none {i : Nat} {σ : L2.St} : ∀ {vs : List Nat}, i ∈ vs → (L2.wipe σ vs).set i none = L2.wipe σ vs
  | [], h => by cases h
  | v :: vs, h => by
    show ((L2.wipe σ vs).set v none).set i none = (L2.wipe σ vs).set v none
    by_cases e : i = v
    · subst e; rw [List.set_set]
    · have h2 : i ∈ vs := by
        rcases List.mem_cons.mp h with h | h
        · exact absurd h e
        · exact h
      rw [List.set_comm _ _ (Ne.symm e), wipe_none h2]
theorem wipe_wipe {σ : L2.St} {us : List Nat} : ∀ vs : List Nat, (∀ v ∈ vs, v ∈ us) → L2.wipe (L2.wipe σ us) vs = L2.wipe σ us
  | [], _ => rfl
  | v :: vs, h => by
    show (L2.wipe (L2.wipe σ us) vs).set v none = _
    rw [wipe_wipe vs fun u hu => h u (List.mem_cons_of_mem _ hu), wipe_none (h v List.mem_cons_self)]
theorem gok_name {i : Nat} {vs : List Nat} (h : i ∈ vs) : GOk K Z (gName i) (gN i) vs := by
  refine ⟨fun v σ H Q h => ?_, fun v σ H Q q => ⟨wipe_set h, q⟩⟩
  obtain ⟨w, S, G, R, rv, sr, t, k⟩ := h
  exact k _ _ _ _ t (sr.set rv) .refl
structure GsOk (K : PySem.W.Frag) (Z : GH × Hp) (gh : TGs) (g : TGsW) (vs : List Nat) : Prop where
  lift : ∀ v σ H Q, LfGs K Z g v σ H Q → gh v σ H Q
  keeps : ∀ v σ H Q, gh v σ H Q → gh v σ H fun σ' H' => L2.wipe σ' vs = L2.wipe σ vs ∧ Q σ' H'
  mono : ∀ v σ H Q Q', gh v σ H Q → (∀ σ H, Q σ H → Q' σ H) → gh v σ H Q'
theorem gsok_nil {vs : List Nat} : GsOk K Z gNil gsN vs := by
  refine ⟨fun v σ H Q h => ?_, fun v σ H Q q => ⟨q.1, rfl, q.2⟩, fun v σ H Q Q' q h => ⟨q.1, h _ _ q.2⟩⟩
  obtain ⟨w, S, G, R, rv, sr, ⟨t1, t2⟩, k⟩ := h
  subst t1; cases rv
  exact ⟨rfl, k _ _ _ _ t2 sr .refl⟩
theorem gsok_cons {i : Nat} {vs : List Nat} {gh : TGs} {g : TGsW} (h : i ∈ vs) (r : GsOk K Z gh g vs) : GsOk K Z (gCons (gName i) gh) (gsC (gN i) g) vs := by
  refine ⟨fun v σ H Q h' => ?_, fun v σ H Q q => ?_, fun v σ H Q Q' q h => ?_⟩
  · obtain ⟨w, S, G, R, rv, sr, t, k⟩ := h'
    cases rv with
    | nil => exact (show False from t).elim
    | @cons v1 vs1 w1 ws1 a as =>
      refine ⟨_, _, rfl, (gok_name (K := K) (Z := Z) h).lift _ _ _ _ (LfG.go (R := fun S' G' => g ws1 S' G' R) a sr t fun S' G' σ' H' t1 sr1 f1 => r.lift _ _ _ _ ⟨_, S', G', R, as.mono f1 sr.rh, sr1, t1, fun S2 G2 σ2 H2 t2 sr2 f2 => k _ _ _ _ t2 sr2 (f1.trans f2)⟩)⟩
  · obtain ⟨x, y, e, q⟩ := q
    have q' := r.keeps _ _ _ _ q
    exact ⟨x, y, e, r.mono _ _ _ _ _ q' fun σ' H' z => ⟨z.1.trans (wipe_set h), z.2⟩⟩
  · obtain ⟨x, y, e, q⟩ := q
    exact ⟨x, y, e, r.mono _ _ _ _ _ q h⟩
theorem gok_tup {n : Nat} {vs : List Nat} {gh : TGs} {g : TGsW} (r : GsOk K Z gh g vs) : GOk K Z (gTup K n gh) (gT n g) vs := by
  refine ⟨fun v σ H Q h => ?_, fun v σ H Q q => ?_⟩
  · obtain ⟨w, S, G, R, rv, sr, t, k⟩ := h
    unfold gT at t
    split at t
    · rename_i xs e
      obtain ⟨a, vs, rfl, hq, rs⟩ := rv.tupT e
      exact ⟨a, vs, rfl, hq, by rw [rs.length]; exact t.1, r.lift _ _ _ _ ⟨xs, S, G, R, rs, sr, t.2, k⟩⟩
    · exact t.elim
  · obtain ⟨a, xs, e, h1, h2, q⟩ := q
    exact ⟨a, xs, e, h1, h2, r.keeps _ _ _ _ q⟩
theorem ExA.poke {H : Hp} {p : Addr} {u x : HO} (h : H p = some u) (n : NoTup u) {od : Option Addr} {fvs : List (Str × V)} (z : ExA H od fvs) : ExA (upd H p x) od fvs := by
  rcases z with z | ⟨d, e, z⟩
  · exact .inl z
  · exact .inr ⟨d, e, by rw [upd_ne (fun e => by subst e; rw [h] at z; cases z; exact n)]; exact z⟩
mutual
theorem RV.poke {H : Hp} {p : Addr} {u x : HO} (h : H p = some u) (n : NoTup u) : ∀ {v : V} {w : W}, RV K H v w → RV K (upd H p x) v w
  | _, _, .non => .non
  | _, _, .bl b => .bl b
  | _, _, .int i => .int i
  | _, _, .str x => .str x
  | _, _, .ty n => .ty n
  | _, _, .ref a => .ref a
  | _, _, .tup q rs => .tup (by rw [upd_ne (fun e => by subst e; rw [h] at q; cases q; exact n)]; exact q) (RVs.poke h n rs)
  | _, _, .kt q rs => .kt q (RVs.poke h n rs)
  | _, _, .fl q rs => .fl (by
      rcases q with ⟨o, q⟩ | q
      · exact .inl ⟨o, by rw [upd_ne (fun e => by subst e; rw [h] at q; cases q; exact n)]; exact q⟩
      · exact .inr q) (RVs.poke h n rs)
  | _, _, .fdK q e rs => .fdK (by rw [upd_ne (fun e => by subst e; rw [h] at q; cases q; exact n)]; exact q) e (RVs.poke h n rs)
  | _, _, .fdT q e rs => .fdT (by rw [upd_ne (fun e => by subst e; rw [h] at q; cases q; exact n)]; exact q) e (RVs.poke h n rs)
  | _, _, .fo c q e rs => .fo c (by rw [upd_ne (fun e => by subst e; rw [h] at q; cases q; exact n)]; exact q) e (RVs.poke h n rs)
  | _, _, .ex c q z e rs => .ex c (by rw [upd_ne (fun e => by subst e; rw [h] at q; cases q; exact exH_no n)]; exact q) (z.poke h n) e (RVs.poke h n rs)
  | _, _, .lam q => .lam (by rw [upd_ne (fun e => by subst e; rw [h] at q; cases q; exact codeO_no n)]; exact q)
theorem RVs.poke {H : Hp} {p : Addr} {u x : HO} (h : H p = some u) (n : NoTup u) : ∀ {vs : List V} {ws : List W}, RVs K H vs ws → RVs K (upd H p x) vs ws
  | _, _, .nil => .nil
  | _, _, .cons q rs => .cons (RV.poke h n q) (RVs.poke h n rs)
end
theorem RKV.poke {κ : Type} {H : Hp} {p : Addr} {u x : HO} (h : H p = some u) (n : NoTup u) {kvs : List (κ × V)} {kws : List (κ × W)} (q : RKV K H kvs kws) : RKV K (upd H p x) kvs kws := Paired.mapP q fun _ _ z => ⟨z.1, RV.poke h n z.2⟩
theorem RH.poke {H : Hp} {G : GH} {p : Addr} {u x : HO} (r : RH K H G) (h : H p = some u) (n : NoTup u) (g : G p = none) : RH K (upd H p x) G := fun a o e => by
  have ne : a ≠ p := fun z => by subst z; rw [g] at e; cases e
  have q := r a o e
  cases o with
  | lst ws => obtain ⟨vs, h1, rr⟩ := q; exact ⟨vs, by rw [upd_ne ne]; exact h1, RVs.poke h n rr⟩
  | dK ws => obtain ⟨vs, h1, rr⟩ := q; exact ⟨vs, by rw [upd_ne ne]; exact h1, RKV.poke h n rr⟩
  | dT ws => obtain ⟨vs, h1, rr⟩ := q; exact ⟨vs, by rw [upd_ne ne]; exact h1, RKV.poke h n rr⟩
  | ins C fs => obtain ⟨D, dx, vs, c, h1, rr⟩ := q; exact ⟨D, dx, vs, c, by rw [upd_ne ne]; exact h1, RKV.poke h n rr⟩
  | ho z => exact ⟨by rw [upd_ne ne]; exact q.1, q.2⟩
  | tab y z =>
    obtain ⟨⟨ps, h1, h2, h3⟩, hy⟩ := q
    exact ⟨⟨ps, by rw [upd_ne ne]; exact h1, h2, fun pos cv hc => let ⟨c, e1, e2⟩ := h3 pos cv hc; ⟨c, e1, by rw [upd_ne (fun e => by subst e; rw [h] at e2; cases e2; exact codeO_no n)]; exact e2⟩⟩, hy⟩
theorem FR.poke {A G : GH} {B H : Hp} {p : Addr} {x : HO} (f : FR A B G H) (h : ∀ o, B p = some o → A p ≠ none) : FR A B G (upd H p x) := fun a o e g => by
  have ne : a ≠ p := fun z => by subst z; exact h o e g
  obtain ⟨h1, g1⟩ := f a o e g
  exact ⟨by rw [upd_ne ne]; exact h1, g1⟩
theorem SR.poke {σ : L2.St} {H : Hp} {S : WSt} {G : GH} {p : Addr} {u x : HO} (sr : SR K Z σ H S G) (h : H p = some u) (n : NoTup u) (g : G p = none) (hz : ∀ o, Z.2 p = some o → Z.1 p ≠ none) : SR K Z σ (upd H p x) S G :=
  ⟨sr.tk.poke hz, Paired.mapP sr.rs fun ov ow f w e => let ⟨v, h1, h2⟩ := f w e; ⟨v, h1, RV.poke h n h2⟩, sr.rh.poke h n g⟩
def compW (Gd : GH → Prop) (g : TGW) (tt : TWT) (te : TW) (S0 : WSt) (R : List W → GH → Prop) : List W → GH → List W → Prop
  | [], G, acc => Gd G ∧ R acc G
  | x :: xs, G, acc => Gd G ∧ g x S0 G fun S2 G2 => tt S2 G2 fun b G3 => if b = true then te S2 G3 fun w G4 => acc.length < sizeLine ∧ compW Gd g tt te S0 R xs G4 (acc ++ [w]) else compW Gd g tt te S0 R xs G3 acc
def tCompI (ti : TIW) (g : TGW) (tt : TWT) (te : TW) (vs : List Nat) : TWA := fun S G R => ti S G fun items Gd G1 => compW Gd g tt te (wipeW S vs) R items G1 []
theorem comp_core {ti : TIW} {gh : TG} {g : TGW} {tt : TWT} {te : TW} {vs : List Nat} (gok : GOk K Z gh g vs) {σ : L2.St} {H : Hp} {Q : VK} {S : WSt} {G : GH} {R : List W → GH → Prop} (sr : SR K Z σ H S G) (t : tCompI ti g tt te vs S G R)
    (k : ∀ ws G' D H' us, R ws G' → FR G H G' H' → H' D = some (.lst us) → RVs K H' us ws → RH K H' G' → G' D = none → (∀ o, H D = some o → G D ≠ none) → Q (.ref D) H') :
    tLc (LfI K Z ti) gh (LfT K Z tt) (Lf K Z te) vs σ H Q := by
  refine ⟨S, G, _, sr, t, fun items Gd G1 J H1 t1 f1 h1 wi D hD => ?_⟩
  have hz : ∀ o, Z.2 D = some o → Z.1 D ≠ none := fun o e g => by
    have := ((sr.next f1 h1).tk D o e g).1
    rw [hD] at this; cases this
  have hz2 : ∀ o, H D = some o → G D ≠ none := fun o e g => by
    have := (f1 D o e g).1
    rw [hD] at this; cases this
  have gD : G1 D = none := h1.free hD
  refine ⟨fun i m H' => m = items.length - i ∧ i ≤ items.length ∧ ∃ G' acc us, H' D = some (.lst us) ∧ RVs K H' us acc ∧ G' D = none ∧ SR K Z (L2.wipe σ vs) H' (wipeW S vs) G' ∧ FR G1 H1 G' H' ∧ compW Gd g tt te (wipeW S vs) R (items.drop i) G' acc,
    ⟨items.length, by simp, Nat.zero_le _, G1, [], [], upd_same, .nil, gD, ((sr.next f1 h1).next (.new hD) (h1.new hD)).wipe vs, .new hD, t1⟩, ?_⟩
  rintro i m H2 ⟨rfl, hi, G2, acc, us, hd, rs, g2, sr2, f2, t2⟩
  by_cases hlt : i < items.length
  · rw [List.drop_eq_getElem_cons hlt] at t2
    obtain ⟨gd, t2⟩ := t2
    refine .inr ⟨wi.go i G2 H2 f2 sr2.rh gd hlt, fun H' => ∃ G' acc us, H' D = some (.lst us) ∧ RVs K H' us acc ∧ G' D = none ∧ SR K Z (L2.wipe σ vs) H' (wipeW S vs) G' ∧ FR G1 H1 G' H' ∧ compW Gd g tt te (wipeW S vs) R (items.drop (i + 1)) G' acc, ?_, fun x H3 y => ?_⟩
    · rintro H' ⟨G', acc', us', q⟩
      exact ⟨items.length - (i + 1), by omega, rfl, hlt, G', acc', us', q⟩
    · obtain ⟨f3, r3, h3⟩ := wi.yld i G2 H2 x H3 items[i] f2 sr2.rh gd (by simp [hlt]) y
      have sr3 := sr2.next f3 h3
      have kp := fun Q' => gok.keeps x (L2.wipe σ vs) H3 Q'
      simp only [wipe_wipe vs fun _ h => h] at kp
      refine kp _ (gok.lift _ _ _ _ (LfG.go r3 sr3 t2 fun S4 G4 σ4 H4 t4 sr4 f4 => ?_))
      refine LfT.go sr4 t4 fun b G5 H5 t5 f5 h5 => ?_
      have f25 : FR G2 H2 G5 H5 := f3.trans (f4.trans f5)
      have d5 := f25 D _ hd g2
      cases b with
      | false =>
        refine iteF ⟨G5, acc, us, d5.1, rs.mono f25 sr2.rh, d5.2, sr2.next f25 h5, f2.trans f25, t5⟩
      | true =>
        refine iteT (Lf.go (sr4.next f5 h5) t5 fun w G6 v H6 t6 f6 r6 h6 => ?_)
        have f26 := f25.trans f6
        have d6 := f26 D _ hd g2
        refine ⟨us, d6.1, by rw [rs.length]; exact t6.1, G6, acc ++ [w], us ++ [v], upd_same, ?_, d6.2, (sr2.next f26 h6).poke d6.1 trivial d6.2 hz, (f2.trans f26).poke (fun o e => by rw [hD] at e; cases e), t6.2⟩
        exact RVs.append (RVs.poke d6.1 trivial (rs.mono f26 sr2.rh)) (.cons (RV.poke d6.1 trivial r6) .nil)
  · have e : i = items.length := by omega
    subst e
    rw [List.drop_length] at t2
    exact .inl ⟨wi.stop G2 H2 f2 sr2.rh t2.1, k _ _ D H2 us t2.2 (f1.trans f2) hd rs sr2.rh g2 hz2⟩
def tComp (ti : TIW) (g : TGW) (tt : TWT) (te : TW) (vs : List Nat) : TW := fun S G R => tCompI ti g tt te vs S G fun ws G1 => ∀ D, G1 D = none → R (.ref D) (updG G1 D (.lst ws))
theorem lfComp {ti : TIW} {gh : TG} {g : TGW} {tt : TWT} {te : TW} {vs : List Nat} (gok : GOk K Z gh g vs) (σ : L2.St) (H : Hp) (Q : VK) (h : Lf K Z (tComp ti g tt te vs) σ H Q) : tLc (LfI K Z ti) gh (LfT K Z tt) (Lf K Z te) vs σ H Q := by
  obtain ⟨S, G, R, sr, t, k⟩ := h
  refine comp_core gok sr t fun ws G' D H' us r f hd rs rh gd hz => k _ _ _ _ (r D gd) (fun a o e g => ?_) (.ref D) (fun a o e => ?_)
  · have ne : a ≠ D := fun z => by subst z; exact hz o e g
    obtain ⟨h1, g1⟩ := f a o e g
    exact ⟨h1, by rw [updG_ne ne]; exact g1⟩
  · by_cases z : a = D
    · subst z; rw [updG_same] at e; cases e; exact ⟨us, hd, rs⟩
    · rw [updG_ne z] at e; exact rh a o e
theorem we_comp {elt tg iter : Expr} {ifs : List Expr} {scope : Scope} {own : List (Str × Nat)} {ti : TIW} {gh : TG} {g : TGW} {tt : TWT} {te : TW} (hc : X.calm = true) (hN : X.N.Nodup) (hi : WI X Z tg iter ti) (ok : BlkOk X.N X.env.scope scope own)
    (gok : GOk X.K Z gh g (own.map (·.2)))
    (hg : ∀ (s : Shared) (H : Hp) (C : Addr) (cl : List (Str × Addr)) (fp : List Addr), PG (X.blk s H scope (compEnvC scope cl C X.env) fp) tg gh) (ht : ∀ (s : Shared) (H : Hp) (C : Addr) (cl : List (Str × Addr)) (fp : List Addr), PTsW (X.blk s H scope (compEnvC scope cl C X.env) fp) Z ifs tt)
    (he : ∀ (s : Shared) (H : Hp) (C : Addr) (cl : List (Str × Addr)) (fp : List Addr), WE (X.blk s H scope (compEnvC scope cl C X.env) fp) Z elt te) (hs : ∀ x, foldedSetIterable iter X.env x = pure x := by intro _; rfl) :
    WE X Z (.ListComp elt [⟨tg, iter, ifs, 0⟩] scope pos) (tComp ti g tt te (own.map (·.2))) := (pe_lc (tt := LfT X.K Z tt) (te := Lf X.K Z te) hc hN hi ok hg ht he hs).weak (lfComp gok)
theorem ws_setC {i : Nat} {y : Str} {py : Pos} {elt tg iter : Expr} {ifs : List Expr} {scope : Scope} {own : List (Str × Nat)} {spos : Pos} {ti : TIW} {gh : TG} {g : TGW} {tt : TWT} {te : TW} (hc : X.calm = true) (hN : X.N.Nodup) (hy : X.N[i]? = some y) (hyl : X.env.scope.names.lookup y = some .local)
    (hsw : swapsWith (.ListComp elt [⟨tg, iter, ifs, 0⟩] scope pos) (some (.Name y py)) spos.line X.env = pure true) (hi : WI X Z tg iter ti) (ok : BlkOk X.N X.env.scope scope own)
    (gok : GOk X.K Z gh g (own.map (·.2)))
    (hg : ∀ (s : Shared) (H : Hp) (C : Addr) (cl : List (Str × Addr)) (fp : List Addr), PG (X.blk s H scope (compEnvC scope cl C X.env) fp) tg gh) (ht : ∀ (s : Shared) (H : Hp) (C : Addr) (cl : List (Str × Addr)) (fp : List Addr), PTsW (X.blk s H scope (compEnvC scope cl C X.env) fp) Z ifs tt)
    (he : ∀ (s : Shared) (H : Hp) (C : Addr) (cl : List (Str × Addr)) (fp : List Addr), WE (X.blk s H scope (compEnvC scope cl C X.env) fp) Z elt te) (hs : ∀ x, foldedSetIterable iter X.env x = pure x := by intro _; rfl) :
    WS X Z (.Assign [.Name y py] (.ListComp elt [⟨tg, iter, ifs, 0⟩] scope pos) spos) (sSet i (tComp ti g tt te (own.map (·.2)))) := (ps_setLc (tt := LfT X.K Z tt) (te := Lf X.K Z te) hc hN hy hyl hsw hi ok hg ht he hs).weak fun D σ H h => by
  obtain ⟨S, G, DW, sr, t, l⟩ := h
  refine lfComp gok σ H _ (Lf.go sr t fun w G1 v H1 t1 f1 r1 h1 => ?_)
  exact l.nx _ _ _ _ t1 ((sr.next f1 h1).set r1) f1
abbrev CF := List W → GH → KW → Prop
def tmpR (K : PySem.W.Frag) (f : CF) : List V → Hp → VK → Prop := fun vs H Q => ∃ D us ws G R, vs = [.ref D] ∧ H D = some (.lst us) ∧ RVs K H us ws ∧ RH K H G ∧ G D = none ∧ f ws G R ∧ LK K G H R Q
def tCF (f : CF) (T : TWA) : TW := fun S G R => T S G fun ws G1 => f ws G1 R
theorem lfTmp {ti : TIW} {gh : TG} {g : TGW} {tt : TWT} {te : TW} {vs : List Nat} {f : CF} (gok : GOk K Z gh g vs) (σ : L2.St) (H : Hp) (Q : VK) (h : Lf K Z (tCF f (tCompI ti g tt te vs)) σ H Q) : tCB (tmpR K f) (tCons (tLc (LfI K Z ti) gh (LfT K Z tt) (Lf K Z te) vs) tNil) σ H Q := by
  obtain ⟨S, G, R, sr, t, k⟩ := h
  show tLc (LfI K Z ti) gh (LfT K Z tt) (Lf K Z te) vs σ H fun x H1 => tmpR K f [x] H1 Q
  exact comp_core gok sr t fun ws G' D H' us r f hd rs rh gd hz => ⟨D, us, ws, G', R, rfl, hd, rs, rh, gd, r, fun w G2 v H2 q f2 rv rh2 => k w G2 v H2 q (f.trans f2) rv rh2⟩
theorem we_cbC {x : Str} {p : Pos} {bid : String} {f : CF} {elt tg iter : Expr} {ifs : List Expr} {scope : Scope} {own : List (Str × Nat)} {cpos : Pos} {ti : TIW} {gh : TG} {g : TGW} {tt : TWT} {te : TW}
    (hcall : CallR X (.builtin bid) (tmpR X.K f)) (hgl : Gl X x) (hm : X.mg x = none) (hv : bootBuiltins x = some (.builtin bid))
    (hc : X.calm = true) (hN : X.N.Nodup) (hi : WI X Z tg iter ti) (ok : BlkOk X.N X.env.scope scope own) (gok : GOk X.K Z gh g (own.map (·.2)))
    (hg : ∀ (s : Shared) (H : Hp) (C : Addr) (cl : List (Str × Addr)) (fp : List Addr), PG (X.blk s H scope (compEnvC scope cl C X.env) fp) tg gh) (ht : ∀ (s : Shared) (H : Hp) (C : Addr) (cl : List (Str × Addr)) (fp : List Addr), PTsW (X.blk s H scope (compEnvC scope cl C X.env) fp) Z ifs tt)
    (he : ∀ (s : Shared) (H : Hp) (C : Addr) (cl : List (Str × Addr)) (fp : List Addr), WE (X.blk s H scope (compEnvC scope cl C X.env) fp) Z elt te) (hs : ∀ x, foldedSetIterable iter X.env x = pure x := by intro _; rfl)
    (hn : x ≠ "__name__" := by decide) (hdb : (x == ("__debug__" : Str)) = false := by decide)
    (he2 : starEach [.ListComp elt [⟨tg, iter, ifs, 0⟩] scope cpos] X.env = (false, eval (.ListComp elt [⟨tg, iter, ifs, 0⟩] scope cpos) X.env) :: starEach [] X.env := by rfl) (hpl : (backTo pos (starEach [] X.env)).any (·.1) = false := by rfl) :
    WE X Z (.Call (.Name x p) [.ListComp elt [⟨tg, iter, ifs, 0⟩] scope cpos] [] pos) (tCF f (tCompI ti g tt te (own.map (·.2)))) :=
  (pe_callB hcall hgl hm hv (pa_cons (pe_lc (tt := LfT X.K Z tt) (te := Lf X.K Z te) hc hN hi ok hg ht he hs) pa_nil he2) hn hdb he2 hpl).weak (lfTmp gok)
theorem we_ctC {x : Str} {p : Pos} {T : String} {f : CF} {elt tg iter : Expr} {ifs : List Expr} {scope : Scope} {own : List (Str × Nat)} {cpos : Pos} {ti : TIW} {gh : TG} {g : TGW} {tt : TWT} {te : TW}
    (hcall : CallR X (.type T) (tmpR X.K f)) (hgl : Gl X x) (hm : X.mg x = none) (hv : bootBuiltins x = some (.type T))
    (hc : X.calm = true) (hN : X.N.Nodup) (hi : WI X Z tg iter ti) (ok : BlkOk X.N X.env.scope scope own) (gok : GOk X.K Z gh g (own.map (·.2)))
    (hg : ∀ (s : Shared) (H : Hp) (C : Addr) (cl : List (Str × Addr)) (fp : List Addr), PG (X.blk s H scope (compEnvC scope cl C X.env) fp) tg gh) (ht : ∀ (s : Shared) (H : Hp) (C : Addr) (cl : List (Str × Addr)) (fp : List Addr), PTsW (X.blk s H scope (compEnvC scope cl C X.env) fp) Z ifs tt)
    (he : ∀ (s : Shared) (H : Hp) (C : Addr) (cl : List (Str × Addr)) (fp : List Addr), WE (X.blk s H scope (compEnvC scope cl C X.env) fp) Z elt te) (hs : ∀ x, foldedSetIterable iter X.env x = pure x := by intro _; rfl)
    (hn : x ≠ "__name__" := by decide) (hdb : (x == ("__debug__" : Str)) = false := by decide)
    (he2 : starEach [.ListComp elt [⟨tg, iter, ifs, 0⟩] scope cpos] X.env = (false, eval (.ListComp elt [⟨tg, iter, ifs, 0⟩] scope cpos) X.env) :: starEach [] X.env := by rfl) (hpl : (backTo pos (starEach [] X.env)).any (·.1) = false := by rfl) :
    WE X Z (.Call (.Name x p) [.ListComp elt [⟨tg, iter, ifs, 0⟩] scope cpos] [] pos) (tCF f (tCompI ti g tt te (own.map (·.2)))) :=
  (pe_callTy hcall hgl hm hv (pa_cons (pe_lc (tt := LfT X.K Z tt) (te := Lf X.K Z te) hc hN hi ok hg ht he hs) pa_nil he2) hn hdb he2 hpl).weak (lfTmp gok)
def fBols (f : List Bool → Bool) : CF := fun ws G R => match blsOf ws with
  | some bs => R (.bl (f bs)) G
  | none => False
theorem tmp_all (hc : X.calm = true) : CallR X (.builtin "all") (tmpR X.K (fBols fun bs => bs.all fun b => b)) := by
  intro pins s σ H xs us Q I r h
  obtain ⟨D, vs, ws, G, R, rfl, hd, rs, rh, gd, t, k⟩ := h
  unfold fBols at t
  split at t
  · rename_i bs eb
    have e2 := bls_of eb
    subst e2
    have e3 := rs.bls
    subst e3
    exact cr_all hc pins s σ H _ us Q I r ⟨_, bs, rfl, SqL.of hd, k.here t (.bl _) rh⟩
  · exact t.elim
def fTup : CF := fun ws G R => R (.tup ws) G
theorem tmp_tuple : CallR X (.type "tuple") (tmpR X.K fTup) := by
  intro pins s σ H xs us Q I r h
  obtain ⟨D, vs, ws, G, R, rfl, hd, rs, rh, gd, t, k⟩ := h
  exact call_tuple_of pins s σ H _ us Q I r ⟨_, _, rfl, .inl ⟨SqL.of hd, fun l hl => k _ _ _ _ t (.new hl) (.tup upd_same (rs.mono (.new hl) rh)) (rh.new hl)⟩⟩
end
end WL
set_option Elab.async false
set_option linter.all false
set_option maxRecDepth 100000
set_option maxHeartbeats 4000000
namespace WL
open PySem PySem.Spec PyProof.Rows L2
abbrev XW := Str → List (Str × W) → GH → Prop
abbrev SpW := List W → GH → KW → XW → Prop
def XDs (K : PySem.W.Frag) (H : Hp) (c : Str) (fs : List (Str × W)) (cls : Value) (od : Option Addr) : Prop :=
  ∃ (C : Addr) (fvs : List (Str × V)), cls = .ref C ∧ ClsAt K c C ∧ ExA H od fvs ∧ fvs.map (·.1) = fs.map (·.1) ∧ RVs K H (fvs.map (·.2)) (fs.map (·.2))
def XL (K : PySem.W.Frag) (G : GH) (H : Hp) (RX : XW) (E : XK) : Prop := ∀ c fs G' cls od H', RX c fs G' → FR G H G' H' → RH K H' G' → XDs K H' c fs cls od → E cls od H'
def spL (K : PySem.W.Frag) (P : SpW) : Sp := fun vs H Q E => ∃ ws G R RX, RVs K H vs ws ∧ RH K H G ∧ P ws G R RX ∧ LK K G H R Q ∧ XL K G H RX E
def XF : XW := fun _ _ _ => False
theorem XL.no {K : PySem.W.Frag} {G : GH} {H : Hp} {E : XK} : XL K G H XF E := fun _ _ _ _ _ _ h => h.elim
theorem XL.from_ {K : PySem.W.Frag} {G G1 : GH} {H H1 : Hp} {RX : XW} {E : XK} (x : XL K G H RX E) (f : FR G H G1 H1) : XL K G1 H1 RX E := fun c fs G' cls od H' h f1 => x c fs G' cls od H' h (f.trans f1)
section
variable {X : Cx} {Z : GH × Hp} {a b c e o : Expr} {Ta Tb : TW} {pos p apos : Pos} {K : PySem.W.Frag} {es : List Expr} {Tr : TWA} {CX : CXT} {k : Nat} {f C : Addr} {fd : FuncData} {ps : List Str} {P : SpW} {x m : Str} {dvs : List V} {ds : List Value} {dws : List W}
def tCall0 (P : SpW) (dws : List W) (Tr : TWA) : TW := fun S G R => Tr S G fun ws G1 => P (ws ++ dws) G1 R XF
theorem lfCall {E : XK} (hdw : ∀ H, RVs K H dvs dws) (σ : L2.St) (H : Hp) (Q : VK) (h : Lf K Z (tCall0 P dws Tr) σ H Q) : tCall (spL K P) dvs E (LfA K Z Tr) σ H Q := by
  obtain ⟨S, G, R, sr, t, k⟩ := h
  refine LfA.go sr t fun ws G1 vs H1 t1 f1 rs h1 => ?_
  exact ⟨ws ++ dws, G1, R, XF, rs.append (hdw H1), h1, t1, fun w G' v H' q f2 rv rh => k w G' v H' q (f1.trans f2) rv rh, .no⟩
theorem RKV.lookup {K : PySem.W.Frag} {H : Hp} (f : Str) : ∀ {kvs : List (Str × V)} {kws : List (Str × W)}, RKV K H kvs kws → (kws.lookup f = none ∧ kvs.lookup f = none) ∨ ∃ v w, kvs.lookup f = some v ∧ kws.lookup f = some w ∧ RV K H v w
  | _, _, .nil => .inl ⟨rfl, rfl⟩
  | (a, v) :: kvs, (b, w) :: kws, .cons ⟨e, r⟩ t => by
    have e' : a = b := e
    subst e'
    by_cases h : f = a
    · have hb : (f == a) = true := beq_iff_eq.mpr h
      exact .inr ⟨v, w, by simp [List.lookup, hb], by simp [List.lookup, hb], r⟩
    · have hb : (f == a) = false := beq_eq_false_iff_ne.mpr h
      rcases RKV.lookup f t with ⟨h1, h2⟩ | ⟨v', w', h1, h2, h3⟩
      · exact .inl ⟨by simpa [List.lookup, hb] using h1, by simpa [List.lookup, hb] using h2⟩
      · exact .inr ⟨v', w', by simpa [List.lookup, hb] using h1, by simpa [List.lookup, hb] using h2, h3⟩
def putFW (f : Str) (v : W) : List (Str × W) → List (Str × W)
  | [] => [(f, v)]
  | (g, x) :: r => if g = f then (g, v) :: r else (g, x) :: putFW f v r
theorem RKV.putF {K : PySem.W.Frag} {H : Hp} {f : Str} {v : V} {w : W} (r : RV K H v w) : ∀ {kvs : List (Str × V)} {kws : List (Str × W)}, RKV K H kvs kws → RKV K H (L2.putF f v kvs) (putFW f w kws)
  | _, _, .nil => .cons ⟨rfl, r⟩ .nil
  | (a, x) :: kvs, (b, y) :: kws, .cons ⟨e, q⟩ t => by
    have e' : a = b := e
    subst e'
    show RKV K H (if a = f then (a, v) :: kvs else (a, x) :: L2.putF f v kvs) (if a = f then (a, w) :: kws else (a, y) :: putFW f w kws)
    by_cases h : a = f
    · rw [if_pos h, if_pos h]; exact .cons ⟨rfl, r⟩ t
    · rw [if_neg h, if_neg h]; exact .cons ⟨rfl, q⟩ (RKV.putF r t)
abbrev TOW := WSt → GH → (Option Int → GH → Prop) → Prop
def LfO (K : PySem.W.Frag) (Z : GH × Hp) (T : TOW) : TO := fun σ H Q => ∃ S G R, SR K Z σ H S G ∧ T S G R ∧ ∀ i G' H', R i G' → FR G H G' H' → RH K H' G' → Q i H'
def WO (X : Cx) (Z : GH × Hp) (e : Option Expr) (T : TOW) : Prop := PO X e (LfO X.K Z T)
def tNoP : TOW := fun _ G R => R none G
def tP (Ta : TW) : TOW := fun S G R => Ta S G fun w G1 => match w with
  | .int i => R (some i) G1
  | _ => False
theorem wo_none : WO X Z none tNoP := ⟨fun pins s σ H Q I h => by
  obtain ⟨S, G, R, sr, t, k⟩ := h
  exact po_none.run pins s σ H Q I (k _ _ _ t .refl sr.rh)⟩
theorem wo_some (h : WE X Z e Ta) : WO X Z (some e) (tP Ta) := ⟨fun pins s σ H Q I h' => by
  obtain ⟨S, G, R, sr, t, k⟩ := h'
  refine (po_some h).run pins s σ H Q I (Lf.go sr t fun w G1 v H1 t1 f1 r1 h1 => ?_)
  split at t1
  · rename_i i
    cases r1
    exact ⟨i, rfl, k _ _ _ t1 f1 h1⟩
  · exact t1.elim⟩
def cutG (xs : List W) (lo hi : Option Int) : List W := (xs.drop (HT.sIx xs.length 0 lo)).take (HT.sIx xs.length xs.length hi - HT.sIx xs.length 0 lo)
theorem RVs.cut {K : PySem.W.Frag} {H : Hp} {vs : List V} {ws : List W} (r : RVs K H vs ws) (lo hi : Option Int) : RVs K H (cutV vs lo hi) (cutG ws lo hi) := by
  unfold cutV cutG
  rw [r.length]
  exact (r.drop _).take _
def slW (lo hi : Option Int) (w : W) (G : GH) (R : KW) : Prop := match w with
  | .tup xs => R (.tup (cutG xs lo hi)) G
  | .fl xs => ∀ p, G p = none → R (.ref p) (updG G p (.lst (cutG xs lo hi)))
  | .str z => z.length ≤ sizeLine ∧ R (.str (cutS z lo hi)) G
  | .ref q => match G q with
    | some (.lst xs) => ∀ p, G p = none → R (.ref p) (updG G p (.lst (cutG xs lo hi)))
    | _ => False
  | _ => False
def tSliceW (Ta : TW) (Tl Th : TOW) : TW := fun S G R => Ta S G fun w G1 => Tl S G1 fun lo G2 => Th S G2 fun hi G3 => slW lo hi w G3 R
def l4 (K : PySem.W.Frag) : V → Option Int → Option Int → Hp → VK → Prop := fun x lo hi H Q => ∃ w G R, RV K H x w ∧ RH K H G ∧ slW lo hi w G R ∧ LK K G H R Q
theorem cut_whole {xs : List W} {lo hi : Option Int} (h : HT.sIx xs.length 0 lo = 0 ∧ HT.sIx xs.length xs.length hi = xs.length) : cutG xs lo hi = xs := by
  unfold cutG
  rw [h.1, h.2]; simp
theorem sl_W : SlR X (l4 X.K) := by
  intro pins s σ H x v vl vu lo hi sl Q I rx hs pl pu h
  obtain ⟨w, G, R, rv, rh, t, k⟩ := h
  cases w with
  | tup xs =>
    cases rv with
    | @tup a vs _ q rs =>
      refine sl_tupA pins s σ H _ v vl vu lo hi sl Q I rx hs pl pu ⟨_, _, rfl, SqT.of q, fun hw => ?_, fun hw p hp => ?_⟩
      · rw [rs.length] at hw
        exact k.here (w := .tup (cutG xs lo hi)) t (by rw [cut_whole hw]; exact .tup q rs) rh
      · exact k _ _ _ _ t (.new hp) (.tup upd_same ((rs.cut lo hi).mono (.new hp) rh)) (rh.new hp)
  | fl xs =>
    cases rv with
    | fl q rs => exact sl_list pins s σ H _ v vl vu lo hi sl Q I rx hs pl pu ⟨_, _, rfl, q.seq, fun p hp => k _ _ _ _ (t p (rh.free hp)) (.newG hp) (.ref p) (rh.newG hp ⟨_, upd_same, (rs.cut lo hi).mono (.new hp) rh⟩)⟩
  | str z =>
    cases rv
    exact sl_str pins s σ H _ v vl vu lo hi sl Q I rx hs pl pu ⟨z, rfl, t.1, k.here t.2 (.str _) rh⟩
  | ref q =>
    cases rv
    unfold slW at t
    dsimp only at t
    split at t
    · rename_i xs e
      obtain ⟨vs, h1, rs⟩ := rh _ _ e
      exact sl_list pins s σ H _ v vl vu lo hi sl Q I rx hs pl pu ⟨_, _, rfl, SqL.of h1, fun p hp => k _ _ _ _ (t p (rh.free hp)) (.newG hp) (.ref p) (rh.newG hp ⟨_, upd_same, (rs.cut lo hi).mono (.new hp) rh⟩)⟩
    · exact t.elim
  | _ => exact (show False from t).elim
theorem we_slice {lo hi : Option Expr} {Tl Th : TOW} {p2 : Pos} (he : WE X Z e Ta) (hl : WO X Z lo Tl) (hu : WO X Z hi Th) : WE X Z (.Subscript e (.Slice lo hi none p2) pos) (tSliceW Ta Tl Th) := (pe_slice sl_W he hl hu).weak fun σ H Q h => by
  obtain ⟨S, G, R, sr, t, k⟩ := h
  refine Lf.go sr t fun w G1 v H1 t1 f1 r1 h1 => ?_
  refine ⟨S, G1, _, sr.next f1 h1, t1, fun i G2 H2 t2 f2 h2 => ?_⟩
  refine ⟨S, G2, _, (sr.next f1 h1).next f2 h2, t2, fun j G3 H3 t3 f3 h3 => ?_⟩
  exact ⟨w, G3, R, (r1.mono f2 h1).mono f3 h2, h3, t3, fun w G' v H' q f rv rh => k w G' v H' q (f1.trans (f2.trans (f3.trans f))) rv rh⟩
abbrev MW := W → List W → GH → KW → Prop
def lM (K : PySem.W.Frag) (r : MW) : V → List V → Hp → VK → Prop := fun x xs H Q => ∃ w ws G R, RV K H x w ∧ RVs K H xs ws ∧ RH K H G ∧ r w ws G R ∧ LK K G H R Q
def MetW (X : Cx) (bid : String) (r : MW) : Prop := MtR X bid (lM X.K r)
def recL (w : W) (G : GH) : Prop := match w with
  | .ref p => match G p with
    | some (.lst _) => True
    | _ => False
  | .fl _ => True
  | _ => False
def tMetL (r : MW) (Ta : TW) (Tr : TWA) : TW := fun S G R => Ta S G fun w G1 => recL w G1 ∧ Tr S G1 fun ws G2 => r w ws G2 R
theorem recL_ty {K : PySem.W.Frag} {H : Hp} {G : GH} {w : W} {v : V} (t : recL w G) (rv : RV K H v w) (rh : RH K H G) : tyV K "list" v H := by
  cases w with
  | ref p =>
    cases rv
    unfold recL at t
    dsimp only at t
    split at t
    · rename_i xs e
      obtain ⟨vs, h1, _⟩ := rh _ _ e
      exact .inl ⟨rfl, _, SqL.of h1⟩
    · exact t.elim
  | fl xs =>
    cases rv with
    | fl q rs => exact .inl ⟨rfl, _, q.seq⟩
  | _ => exact t.elim
theorem we_mL {name : Str} {r : MW} {cpos : Pos} {args : List Expr} (h : PE X (.Call (.Attribute o name apos) args [] cpos) (tBM X.K "list" (lM X.K r) (Lf X.K Z Ta) (LfA X.K Z Tr))) : WE X Z (.Call (.Attribute o name apos) args [] cpos) (tMetL r Ta Tr) := h.weak fun σ H Q h => by
  obtain ⟨S, G, R, sr, t, k⟩ := h
  refine Lf.go sr t fun w G1 v H1 t1 f1 r1 h1 => ⟨recL_ty t1.1 r1 h1, ?_⟩
  refine LfA.go (sr.next f1 h1) t1.2 fun ws G2 vs H2 t2 f2 rs h2 => ?_
  exact ⟨w, ws, G2, R, r1.mono f2 h1, rs, h2, t2, fun w G' v H' q f rv rh => k w G' v H' q (f1.trans (f2.trans f)) rv rh⟩
theorem we_mL0 {name : Str} {r : MW} {cpos : Pos} (h : PE X (.Call (.Attribute o name apos) [] [] cpos) (tBM0 X.K "list" (lM X.K r) (Lf X.K Z Ta))) : WE X Z (.Call (.Attribute o name apos) [] [] cpos) (tMetL r Ta tN) := h.weak fun σ H Q h => by
  obtain ⟨S, G, R, sr, t, k⟩ := h
  refine Lf.go sr t fun w G1 v H1 t1 f1 r1 h1 => ⟨recL_ty t1.1 r1 h1, ?_⟩
  exact ⟨w, [], G1, R, r1, .nil, h1, t1.2, fun w G' v H' q f rv rh => k w G' v H' q (f1.trans f) rv rh⟩
def appendW : MW := fun w ws G R => match w, ws with
  | .ref p, [y] => match G p with
    | some (.lst xs) => xs.length < sizeLine ∧ R .non (updG G p (.lst (xs ++ [y])))
    | _ => False
  | _, _ => False
theorem mt_appendW : MetW X "list.append" appendW := by
  intro pins s σ H x xs v us Q I rx rs h
  obtain ⟨w, ws, G, R, r1, r2, rh, t, k⟩ := h
  unfold appendW at t
  split at t
  · rename_i p y
    cases r1
    obtain ⟨z, rfl, rz⟩ := r2.one
    split at t
    · rename_i ys e
      obtain ⟨vs, h1, rv⟩ := rh _ _ e
      exact mt_append pins s σ H _ _ v us Q I rx rs ⟨p, vs, z, rfl, rfl, h1, by rw [rv.length]; exact t.1, k _ _ _ _ t.2 (.put e) .non (rh.put e ⟨_, upd_same, (rv.append (.cons rz .nil)).mono (FR.put (o := .lst []) e) rh⟩)⟩
    · exact t.elim
  · exact t.elim
def extendW : MW := fun w ws G R => match w, ws with
  | .ref p, [.ref q] => match G p, G q with
    | some (.lst xs), some (.lst ys) => xs.length + ys.length ≤ sizeLine ∧ R .non (updG G p (.lst (xs ++ ys)))
    | _, _ => False
  | _, _ => False
theorem mt_extendW : MetW X "list.extend" extendW := by
  intro pins s σ H x xs v us Q I rx rs h
  obtain ⟨w, ws, G, R, r1, r2, rh, t, k⟩ := h
  unfold extendW at t
  split at t
  · rename_i p q
    cases r1
    obtain ⟨z, rfl, rz⟩ := r2.one
    cases rz
    split at t
    · rename_i ys zs e e2
      obtain ⟨vs, h1, rv⟩ := rh _ _ e
      obtain ⟨vs2, h2, rv2⟩ := rh _ _ e2
      exact mt_extend pins s σ H _ _ v us Q I rx rs ⟨p, q, vs, vs2, rfl, rfl, h1, h2, by rw [rv.length, rv2.length]; exact t.1, k _ _ _ _ t.2 (.put e) .non (rh.put e ⟨_, upd_same, (rv.append rv2).mono (FR.put (o := .lst []) e) rh⟩)⟩
    · exact t.elim
  · exact t.elim
def popW : MW := fun w ws G R => match w, ws with
  | .ref p, [] => match G p with
    | some (.lst xs) => ∃ y, xs[xs.length - 1]? = some y ∧ R y (updG G p (.lst xs.dropLast))
    | _ => False
  | .ref p, [.int i] => match G p with
    | some (.lst xs) => -(2 ^ 63) ≤ i ∧ i < 2 ^ 63 ∧ ∃ k y, seqIndex? i xs.length = some k ∧ xs[k]? = some y ∧ R y (updG G p (.lst (xs.eraseIdx k)))
    | _ => False
  | _, _ => False
theorem mt_popW : MetW X "list.pop" popW := by
  intro pins s σ H x xs v us Q I rx rs h
  obtain ⟨w, ws, G, R, r1, r2, rh, t, k⟩ := h
  unfold popW at t
  split at t
  · rename_i p
    cases r1; cases r2
    split at t
    · rename_i ys e
      obtain ⟨y, ey, t⟩ := t
      obtain ⟨vs, h1, rv⟩ := rh _ _ e
      obtain ⟨z, ez, rz⟩ := rv.get ey
      exact mt_pop pins s σ H _ _ v us Q I rx rs ⟨p, vs, z, rfl, rfl, h1, by rw [rv.length]; exact ez, k _ _ _ _ t (.put e) (rz.mono (FR.put (o := .lst []) e) rh) (rh.put e ⟨_, upd_same, rv.dropLast.mono (FR.put (o := .lst []) e) rh⟩)⟩
    · exact t.elim
  · rename_i p i
    cases r1
    obtain ⟨z, rfl, rz⟩ := r2.one
    cases rz
    split at t
    · rename_i ys e
      obtain ⟨b1, b2, j, y, ej, ey, t⟩ := t
      obtain ⟨vs, h1, rv⟩ := rh _ _ e
      obtain ⟨z, ez, rz⟩ := rv.get ey
      exact mt_popAt pins s σ H _ _ v us Q I rx rs ⟨p, vs, i, j, z, rfl, rfl, h1, b1, b2, by rw [rv.length]; exact ej, ez, k _ _ _ _ t (.put e) (rz.mono (FR.put (o := .lst []) e) rh) (rh.put e ⟨_, upd_same, (rv.erase j).mono (FR.put (o := .lst []) e) rh⟩)⟩
    · exact t.elim
  · exact t.elim
end
def startW (N : List Str) (ws : List W) : WSt := ws.map some ++ List.replicate (N.length - ws.length) none
theorem startW_ok {K : PySem.W.Frag} {H : Hp} : ∀ {vs : List V} {ws : List W}, RVs K H vs ws → Paired (OV K H) (vs.map some) (ws.map some)
  | _, _, .nil => .nil
  | _, _, .cons r t => .cons (fun w e => by cases e; exact ⟨_, rfl, r⟩) (startW_ok t)
theorem Paired.app {α β : Type} {F : α → β → Prop} : ∀ {a : List α} {b : List β} {c : List α} {d : List β}, Paired F a b → Paired F c d → Paired F (a ++ c) (b ++ d)
  | _, _, _, _, .nil, r => r
  | _, _, _, _, .cons q t, r => .cons q (Paired.app t r)
theorem Paired.reps {α β : Type} {F : α → β → Prop} {x : α} {y : β} (h : F x y) : ∀ n, Paired F (List.replicate n x) (List.replicate n y)
  | 0 => .nil
  | n + 1 => .cons h (Paired.reps h n)
section
variable {P : Program} {w : World} {K : PySem.W.Frag} {mg : Str → Option Value} {base : Heap} {x qual : Str} {st : Stmt} {f : Addr} {fd : FuncData} {N ps : List Str} {k : Nat} {Q : SpW}
end
end WL
set_option Elab.async false
set_option linter.all false
set_option maxRecDepth 100000
set_option maxHeartbeats 4000000
namespace WL
open PySem PySem.Spec PyProof.Rows L2
def Gv (K : PySem.W.Frag) (mg : Str → Option Value) (x : Str) (w : W) : Prop := ∃ v u, mg x = some u ∧ RelV v u ∧ ∀ H, RV K H v w
section
variable {X : Cx} {Z : GH × Hp} {e : Expr} {pos p : Pos} {es : List Expr} {Tr : TWA} {k j : Nat} {ps : List Str} {P : SpW} {x : Str}
theorem we_g {w : W} (h : Gv X.K X.mg x w) (hg : Gl X x := by rfl) (hd : (x == ("__debug__" : Str)) = false := by decide) : WE X Z (.Name x pos) (tK w) := by
  obtain ⟨v, u, hm, r, rv⟩ := h
  exact we_glob hg hm r rv hd
theorem hu1 {A : Around} (hr : Room k A) : A.units + 1 < cLine := hu_of hr
theorem hu64 {A : Around} (hr : Room k A) : A.units + 64 < cLine := hr.units
theorem hu65 {A : Around} (hr : Room k A) : A.units + 65 < cLine := by have := hr.un; omega
theorem hu0 {A : Around} (hr : Room k A) : A.units < cLine := hr.units0
theorem ws_s (i : Nat) {y : Str} {Ta : TW} {pos' : Pos} (hN : X.N.Nodup) (he : WE X Z e Ta) (hi : X.N[i]? = some y := by rfl) (hx : Loc X.env.scope y := by first | exact .inl rfl | exact .inr rfl) (hs : swapsWith e (some (.Name y pos')) pos.line X.env = pure false := by rfl)
    (hf : X.fn y = true ∨ X.env.scope.names.lookup y = some .local := by first | exact .inl rfl | exact .inr rfl) : WS X Z (.Assign [.Name y pos'] e pos) (sSet i Ta) := ws_set hN hi hx he hs hf
theorem wg_n (i : Nat) {y : Str} (hN : X.N.Nodup) (hi : X.N[i]? = some y := by rfl) (hx : Loc X.env.scope y := by first | exact .inl rfl | exact .inr rfl) (hf : X.fn y = true ∨ X.env.scope.names.lookup y = some .local := by first | exact .inl rfl | exact .inr rfl) : WG X Z (.Name y pos) (gN i) := wg_name hN hi hx hf
theorem pg_n (i : Nat) {y : Str} (hN : X.N.Nodup) (hi : X.N[i]? = some y := by rfl) (hx : Loc X.env.scope y := by first | exact .inl rfl | exact .inr rfl) (hf : X.fn y = true ∨ X.env.scope.names.lookup y = some .local := by first | exact .inl rfl | exact .inr rfl) : PG X (.Name y pos) (gName i) := pg_name hN hi hx hf
end
end WL
set_option Elab.async false
set_option linter.all false
set_option maxRecDepth 100000
set_option maxHeartbeats 4000000
namespace WL
open PySem PySem.Spec PyProof.Rows L2
section
variable {X : Cx} {Z : GH × Hp} {K : PySem.W.Frag} {es : List Expr} {e e' : Expr} {pos : Pos}
theorem Vals.map_take : ∀ {xs : List V} {us : List Value} (n : Nat), Vals xs us → Vals (xs.take n) (us.take n) := fun n r => L2.Vals.take n r
inductive WJ (X : Cx) (Z : GH × Hp) : List Expr → List TW → Prop where
  | nil : WJ X Z [] []
  | cons {e : Expr} {t : TW} {es : List Expr} {ts : List TW} (h : WE X Z e t) (r : WJ X Z es ts) : WJ X Z (e :: es) (t :: ts)
theorem WJ.pj {es : List Expr} {ts : List TW} (h : WJ X Z es ts) : PJ X es (ts.map (Lf X.K Z)) := by
  induction h with
  | nil => exact .nil
  | cons h _ ih => exact .cons h ih
end
end WL
set_option Elab.async false
set_option linter.all false
set_option maxRecDepth 100000
set_option maxHeartbeats 4000000
namespace WL
open PySem PySem.Spec PyProof.Rows L2
section
variable {X : Cx} {Z : GH × Hp} {K : PySem.W.Frag} {es : List Expr} {e a b o : Expr} {pos p apos : Pos} {Ta Tb : TW} {Tr : TWA}
theorem _root_.L2.PG.or {t t' : TG} (h : PG X e t) (h' : PG X e t') : PG X e (fun v σ H Q => t v σ H Q ∨ t' v σ H Q) := ⟨fun pins s σ H v u Q I r q => by
  rcases q with q | q
  · exact h.run pins s σ H v u Q I r q
  · exact h'.run pins s σ H v u Q I r q⟩
def gU (n : Nat) (u : TGsW) : TGW := fun w S G R => match itemsW w G with
  | some xs => xs.length = n ∧ u xs S G R
  | none => False
theorem wg_unp {k : Nat} {u : TGsW} {n : Nat} (hc : X.calm = true) (h : WGs X Z es u) (hn : (assignEach es X.env).length = n := by rfl) (hst : (assignEach es X.env).findIdx? (·.1) = none := by rfl) : WG X Z (.Tuple es k pos) (gU n u) :=
  (PG.or (pg_tup hc h hn hst) (pg_unl hc h hn hst)).weak fun v σ H Q h => by
    obtain ⟨w, S, G, R, rv, sr, t, k⟩ := h
    unfold gU at t
    split at t
    · rename_i xs e
      obtain ⟨a, vs, rfl, hq, rs⟩ := items_of e rv sr.rh
      rcases hq with hq | hq
      · exact .inr ⟨a, vs, rfl, hq, by rw [rs.length]; exact t.1, ⟨xs, S, G, R, rs, sr, t.2, k⟩⟩
      · exact .inl ⟨a, vs, rfl, hq, by rw [rs.length]; exact t.1, ⟨xs, S, G, R, rs, sr, t.2, k⟩⟩
    · exact t.elim
def sPar3 (i j l : Nat) (Tr : TWA) : TWS := fun D S G => Tr S G fun ws G1 => match ws with
  | [u, v, w] => D.nx (((S.set i (some u)).set j (some v)).set l (some w)) G1
  | _ => False
end
theorem bt_len : bootBuiltins "len" = some (.builtin "len") := by decide +kernel
theorem bt_abs : bootBuiltins "abs" = some (.builtin "abs") := by decide +kernel
theorem bt_max : bootBuiltins "max" = some (.builtin "max") := by decide +kernel
theorem bt_all : bootBuiltins "all" = some (.builtin "all") := by decide +kernel
theorem bt_isinstance : bootBuiltins "isinstance" = some (.builtin "isinstance") := by decide +kernel
theorem bt_sorted : bootBuiltins "sorted" = some (.builtin "sorted") := by decide +kernel
theorem bt_int : bootBuiltins "int" = some (.type "int") := by decide +kernel
theorem bt_bool : bootBuiltins "bool" = some (.type "bool") := by decide +kernel
theorem bt_list : bootBuiltins "list" = some (.type "list") := by decide +kernel
theorem bt_tuple : bootBuiltins "tuple" = some (.type "tuple") := by decide +kernel
end WL
set_option Elab.async false
set_option linter.all false
set_option maxRecDepth 100000
set_option maxHeartbeats 4000000
namespace WL
open PySem PySem.Spec PyProof.Rows L2 PySem.W
class DW (α : Type) [DecidableEq α] extends Datum α where
  w : α → W
  pd : ∀ G a, PD G (w a) (toD a)
instance : DW Int where
  w := .int
  pd _ a := .int a
instance : DW Bool where
  w := .bl
  pd _ a := .bl a
instance : DW Str where
  w := .str
  pd _ a := .str a
instance : DW Unit where
  w _ := .non
  pd _ _ := .non
section
variable {α β : Type} [DecidableEq α] [DW α] [DecidableEq β] [DW β]
theorem pds_dw {G : GH} (xs : List α) : PDs G (xs.map DW.w) (xs.map Datum.toD) := PDs.map xs fun a _ => DW.pd G a
instance : DW (Tup α) where
  w t := .tup (t.items.map DW.w)
  pd G t := .tup (pds_dw t.items)
instance : DW (α × β) where
  w p := .tup [DW.w p.1, DW.w p.2]
  pd G p := .tup (.cons (DW.pd G p.1) (.cons (DW.pd G p.2) .nil))
end
def HD {α : Type} [DecidableEq α] [Datum α] (G : GH) (w : W) (a : α) : Prop := PD G w (Datum.toD a)
section
variable {α β : Type} [DecidableEq α] [DW α] [DecidableEq β] [DW β] {G : GH} {R : KW} {n : Bool} {w w1 w2 : W} {p : Addr} {xs ys : List α}
theorem hd_w (a : α) : HD G (DW.w a) a := DW.pd G a
theorem hd_fl : HD G (.fl (xs.map DW.w)) xs := .fl (pds_dw xs)
theorem eq_hd {γ : Type} [DecidableEq γ] [Datum γ] {a b : γ} (h1 : HD G w1 a) (h2 : HD G w2 b) (hd : Datum.depth γ ≤ 60) (k : R (.bl (n != decide (a = b))) G) : eqW n w1 w2 G R := by
  have c : ∃ d1 d2, PD G w1 d1 ∧ PD G w2 d2 ∧ d1.depth ≤ 60 ∧ R (.bl (n != d1.eqv d2)) G := ⟨_, _, h1, h2, Nat.le_trans (Datum.depth_le a) hd, by rw [Datum.eqv]; exact k⟩
  have ei : ∀ a b : Int, PyData.eqv (.int a) (.int b) = decide (a = b) := fun a b => by simp [PyData.eqv]; rfl
  have es : ∀ a b : Str, PyData.eqv (.str a) (.str b) = decide (a = b) := fun a b => by simp [PyData.eqv]; rfl
  unfold eqW
  split
  · obtain ⟨d1, d2, q1, q2, _, q⟩ := c
    cases q1; cases q2
    rw [ei] at q; exact q
  · obtain ⟨d1, d2, q1, q2, _, q⟩ := c
    cases q1; cases q2
    rw [es] at q; exact q
  · exact c
theorem any_mem (a : α) : ∀ xs : List α, ((xs.map Datum.toD).any fun y => PyData.eqv y (Datum.toD a)) = decide (a ∈ xs)
  | [] => by simp
  | x :: xs => by
    rw [List.map_cons, List.any_cons, any_mem a xs, Datum.eqv]
    by_cases h : x = a
    · subst h; simp
    · have h' : ¬ a = x := fun e => h e.symm
      simp [h, h']
theorem in_fl {a : α} (hd : Datum.depth α ≤ 60) (k : R (.bl (n != decide (a ∈ xs))) G) : inW n (DW.w a) (.fl (xs.map DW.w)) G R :=
  ⟨_, _, DW.pd G a, pds_dw xs, Nat.le_trans (Datum.depth_le a) hd, by rw [any_mem]; exact k⟩
end
theorem forW_map {α : Type} {f : α → W} {Gd : GH → Prop} {g : TGW} {tb : TWS} {D : WEnds} (I : List α → WSt → GH → Prop)
    (step : ∀ x xs S G, I (x :: xs) S G → ∀ N : WSt → GH → Prop, (∀ S' G', I xs S' G' → N S' G') → Gd G ∧ g (f x) S G fun S1 G1 => tb { D with nx := N, ct := N, bk := D.nx } S1 G1)
    (fin : ∀ S G, I [] S G → Gd G ∧ D.nx S G) : ∀ xs S G, I xs S G → forW Gd g tb D (xs.map f) S G
  | [], S, G, h => fin S G h
  | x :: xs, S, G, h => step x xs S G h _ fun S' G' h' => forW_map I step fin xs S' G' h'
theorem compW_map {α : Type} {f : α → W} {Gd : GH → Prop} {g : TGW} {tt : TWT} {te : TW} {S0 : WSt} {R : List W → GH → Prop} (I : List α → GH → List W → Prop)
    (step : ∀ x xs G acc, I (x :: xs) G acc → ∀ N : GH → List W → Prop, (∀ G' acc', I xs G' acc' → N G' acc') → Gd G ∧ g (f x) S0 G fun S2 G2 => tt S2 G2 fun b G3 => if b = true then te S2 G3 fun w G4 => acc.length < sizeLine ∧ N G4 (acc ++ [w]) else N G3 acc)
    (fin : ∀ G acc, I [] G acc → Gd G ∧ R acc G) : ∀ xs G acc, I xs G acc → compW Gd g tt te S0 R (xs.map f) G acc
  | [], G, acc, h => fin G acc h
  | x :: xs, G, acc, h => step x xs G acc h _ fun G' acc' h' => compW_map I step fin xs G' acc' h'
theorem compW_pureF {α : Type} {f v : α → W} {keep : α → Bool} {Gd : GH → Prop} {g : TGW} {tt : TWT} {te : TW} {S0 : WSt} {R : List W → GH → Prop} {G : GH} (hg : Gd G) :
    ∀ (xs : List α) (acc : List W), acc.length + xs.length ≤ sizeLine →
    (∀ x ∈ xs, ∀ (R' : KW) (N' : GH → Prop), (keep x = true → R' (v x) G) → (keep x = false → N' G) → g (f x) S0 G fun S2 G2 => tt S2 G2 fun b G3 => if b = true then te S2 G3 R' else N' G3) →
    R (acc ++ (xs.filter keep).map v) G → compW Gd g tt te S0 R (xs.map f) G acc
  | [], acc, _, _, r => ⟨hg, by simpa using r⟩
  | x :: xs, acc, hl, st, r => by
    rw [List.length_cons] at hl
    refine ⟨hg, st x List.mem_cons_self _ _ (fun k => ⟨by omega, ?_⟩) fun k => ?_⟩
    · refine compW_pureF hg xs (acc ++ [v x]) (by rw [List.length_append, List.length_singleton]; omega) (fun y hy => st y (List.mem_cons_of_mem _ hy)) ?_
      rw [List.filter_cons_of_pos k, List.map_cons] at r
      simpa using r
    · refine compW_pureF hg xs acc (by omega) (fun y hy => st y (List.mem_cons_of_mem _ hy)) ?_
      rw [List.filter_cons_of_neg (by simp [k])] at r
      exact r
theorem compW_pure {α : Type} {f v : α → W} {Gd : GH → Prop} {g : TGW} {te : TW} {S0 : WSt} {R : List W → GH → Prop} {G : GH} (hg : Gd G) :
    ∀ (xs : List α) (acc : List W), acc.length + xs.length ≤ sizeLine →
    (∀ x ∈ xs, ∀ (R' : KW), R' (v x) G → g (f x) S0 G fun S2 G2 => te S2 G2 R') →
    R (acc ++ xs.map v) G → compW Gd g tYesW te S0 R (xs.map f) G acc
  | [], acc, _, _, r => ⟨hg, by simpa using r⟩
  | x :: xs, acc, hl, st, r => by
    rw [List.length_cons] at hl
    refine ⟨hg, st x List.mem_cons_self _ ⟨by omega, ?_⟩⟩
    refine compW_pure hg xs (acc ++ [v x]) (by rw [List.length_append, List.length_singleton]; omega) (fun y hy => st y (List.mem_cons_of_mem _ hy)) ?_
    rw [List.map_cons] at r
    simpa using r
theorem atI_map {α : Type} {f : α → W} {xs : List α} {i : Int} (h0 : 0 ≤ i) (h1 : i < xs.length) : ∃ z, xs[i.toNat]? = some z ∧ z ∈ xs ∧ atI (xs.map f) i = some (f z) := by
  have h2 : i.toNat < xs.length := by omega
  refine ⟨xs[i.toNat], by simp [h2], List.getElem_mem _, ?_⟩
  unfold atI ixN
  rw [if_pos h0, List.length_map, if_pos h1]
  simp [h2]
def KeepG (d : Addr) (G G' : GH) : Prop := ∀ a o, a ≠ d → G a = some o → G' a = some o
theorem KeepG.refl {d : Addr} {G : GH} : KeepG d G G := fun _ _ _ h => h
theorem KeepG.trans {d : Addr} {G G' G2 : GH} (a : KeepG d G G') (b : KeepG d G' G2) : KeepG d G G2 := fun c o n h => b c o n (a c o n h)
theorem KeepG.new {d p : Addr} {G : GH} {o : GO} (h : G p = none) : KeepG d G (updG G p o) := fun a x _ e => by rw [updG_ne (neG e h)]; exact e
theorem KeepG.put {d : Addr} {G : GH} {o : GO} : KeepG d G (updG G d o) := fun a x n e => by rw [updG_ne n]; exact e
def ExtG (G G' : GH) : Prop := ∀ a o, G a = some o → G' a = some o
theorem ExtG.refl {G : GH} : ExtG G G := fun _ _ h => h
theorem ExtG.trans {G G' G2 : GH} (a : ExtG G G') (b : ExtG G' G2) : ExtG G G2 := fun c o h => b c o (a c o h)
theorem ExtG.new {p : Addr} {G : GH} {o : GO} (h : G p = none) : ExtG G (updG G p o) := fun a x e => by rw [updG_ne (neG e h)]; exact e
theorem ExtG.keep {d : Addr} {G G' : GH} (a : ExtG G G') : KeepG d G G' := fun b o _ h => a b o h
theorem KeepG.ext {d : Addr} {G G' G2 : GH} (a : KeepG d G G') (b : ExtG G' G2) : KeepG d G G2 := a.trans b.keep
theorem itemsW_lst {G : GH} {p : Addr} {xs : List W} (h : G p = some (.lst xs)) : itemsW (.ref p) G = some xs := by
  unfold itemsW
  dsimp only
  rw [h]
theorem recL_lst {p : Addr} {G : GH} {xs : List W} (h : G p = some (.lst xs)) : recL (.ref p) G := by
  unfold recL
  dsimp only
  rw [h]
  trivial
theorem KeepG.putNew {d f : Addr} {G G' : GH} {o : GO} (k : KeepG d G G') (h : G f = none) : KeepG d G (updG G' f o) := fun a x n e => by rw [updG_ne (neG e h)]; exact k a x n e
theorem ExtG.putNew {f : Addr} {G G' : GH} {o : GO} (k : ExtG G G') (h : G f = none) : ExtG G (updG G' f o) := fun a x e => by rw [updG_ne (neG e h)]; exact k a x e
theorem ExtG.items {w : W} {G G' : GH} {xs : List W} (x : ExtG G G') (h : itemsW w G = some xs) : itemsW w G' = some xs := by
  unfold itemsW at h ⊢
  cases w with
  | ref p =>
    dsimp only at h ⊢
    split at h
    · rename_i ys e
      cases h
      rw [x _ _ e]
    · cases h
  | _ => exact h
theorem txt_int_len {i : Int} {k : Nat} (hk : 0 < k) (h : i.natAbs < 10 ^ k) : (Str.ofString (toString i)).length ≤ k + 1 := by
  rw [PySem.ofString_length]; exact int_text_length_le10 hk h
theorem log2_lt {n k : Nat} (h : n < 2 ^ k) (hk : 0 < k) : n.log2 < k := by
  by_cases h0 : n = 0
  · subst h0; simpa using hk
  · exact (Nat.log2_lt h0).mpr h
theorem depthAll_le {B : Nat} : ∀ {xs : List PyData}, (∀ x ∈ xs, x.depth ≤ B) → PyData.depthAll xs ≤ B
  | [], _ => Nat.zero_le _
  | x :: xs, h => by
    rw [PyData.depthAll]
    exact Nat.max_le.mpr ⟨h x List.mem_cons_self, depthAll_le fun y hy => h y (List.mem_cons_of_mem _ hy)⟩
theorem depthAll_ints (ns : List Int) : PyData.depthAll (ns.map .int) = 0 := Nat.le_zero.mp (depthAll_le fun x hx => by
  obtain ⟨n, _, rfl⟩ := List.mem_map.mp hx
  exact Nat.le_refl _)
theorem law_sp {K : PySem.W.Frag} {H : Hp} {a : Addr} {ns : List Int} {P : SpW} (hP : P [.fl (ns.map W.int)] (fun _ => none) (fun w _ => w = .bl true) XF) (o : Only H) (h : SqL K H a (ns.map V.int)) :
    spL K P [.ref a] H (fun v _ => v = .bl true) fun _ _ _ => False := by
  refine ⟨[.fl (ns.map W.int)], fun _ => none, fun w _ => w = .bl true, XF, .cons (.fl ?_ (RVs.of_ints ns)) .nil, ?_, hP, ?_, .no⟩
  · rcases h with h | h
    · rcases o a with z | ⟨ob, xs, z⟩
      · rcases h with h | ⟨ob, h⟩ <;> (rw [z] at h; cases h)
      · rcases h with h | ⟨ob', h⟩
        · rw [z] at h; cases h
        · exact .inl ⟨ob', h⟩
    · exact .inr h
  · intro b x e; cases e
  · intro w G' v H' e f rv rh
    subst e
    cases rv
    rfl
theorem gv_int {K : PySem.W.Frag} {mg : Str → Option Value} {x : Str} {n : Int} {t : Tok} (h : mg x = some (.int n t)) : Gv K mg x (.int n) := ⟨.int n, _, h, ⟨t, rfl⟩, fun _ => .int n⟩
end WL
set_option Elab.async false
set_option linter.all false
set_option maxRecDepth 100000
set_option maxHeartbeats 4000000
namespace WL
open PySem PySem.Spec PyProof.Rows L2
structure FnG (P : Program) (w : World) (K : PySem.W.Frag) (mg : Str → Option Value) (base : Heap) (CX : CXT) (k : Nat) (f : Addr) (fd : FuncData) (ps : List Str) (sp : Sp) : Prop where
  size : ∀ {vs : List V} {H : Hp} {Q : VK} {E : XK}, sp vs H Q E → vs.length = ps.length
  goes : ∀ {A : Around} {out : List Env} {s : Shared} {H : Hp} {as : Args} {us : List Value} {vs : List V} {Q : VK} {E : XK}, A.guards = some [] → Room k A → Env0 P w K mg base A out s H →
    BindsTo s fd as (ps.zip us) → Vals vs us → sp vs H Q E → codeAny (model P w) A (.call (.ref f) as) (CR CX out P w H s Q E) s
section
variable {P : Program} {w : World} {K : PySem.W.Frag} {mg : Str → Option Value} {base : Heap} {CX : CXT} {x qual : Str} {st : Stmt} {f : Addr} {fd : FuncData} {N ps : List Str} {k j : Nat} {sp : Sp}
theorem _root_.L2.FnOk.g (F : FnOk P w K mg base CX k f fd ps sp) : FnG P w K mg base CX k f fd ps sp := ⟨fun h => F.len _ _ _ _ h, fun _ hr e b r h => F.run _ _ _ _ _ _ _ _ _ hr e b r h⟩
theorem FnG.up (F : FnG P w K mg base CX j f fd ps sp) (h : j ≤ k) : FnG P w K mg base CX k f fd ps sp := ⟨F.size, fun g hr => F.goes g (hr.mono h)⟩
theorem fn_g (F : Fun K x qual st f fd) (S : FnScope N ps (defScope st)) (len : ∀ vs H Q E, sp vs H Q E → vs.length = ps.length)
    (body : ∀ (cdv : Value) (A : Around) (out : List Env) (s : Shared) (H : Hp) (vs : List V) (Q : VK) (E : XK), A.guards = some [] → Room k (A.deeper (envOfC qual (defScope st) s.heap.objs.size f cdv)) → sp vs H Q E →
      ∃ t, PSs (cxOf CX P w K mg base N qual (defScope st) f cdv A out s H E) (defBody st) t ∧ t { nx := fun _ H' => Q .non H', rt := Q } (start N vs) H) : FnG P w K mg base CX (k + 1) f fd ps sp := by
  obtain ⟨oc, od, kV, doc, pm, an, cdv, ct, osl, rfl, lk, hcd⟩ := F.ex
  refine ⟨fun h => len _ _ _ _ h, fun {A out s H as us vs Q E} hgd hr e0 hb r hsp => ?_⟩
  have kin : K.In s.heap := e0.mod.kin.keeps fun b o e => (e0.bs b o e).1
  have places : ∀ y ∈ ps.zip us, (defScope st).names.lookup y.1 = some .local ∨ ((defScope st).names.lookup y.1 = some .cell ∧ ((cellsFrom (s.heap.objs.size + 1) (defScope st).names []).lookup y.1).isSome = true) := by
    rintro ⟨n, v⟩ hy
    have z := S.par n (List.of_mem_zip hy).1
    exact z.imp id fun q => ⟨q, PySem.W.cellsFrom_some _ _ _ (.inl q)⟩
  refine codeAny_call_function hr.depth (kin _ _ lk) rfl S.co S.gen rfl (PySem.W.codeRec_of kin hcd) (hb _ _ _ _ (wpAny_newFunctionEnv_cells S.kind places fun env he s1 xx => ?_))
  subst he
  refine ⟨(e0.mod.nolimit.keeps fun b o e => (e0.bs b o e).1).keeps xx.toInCall.keep, codeAny_func ?_⟩
  obtain ⟨t, ht, hq⟩ := body cdv A out s H vs Q E hgd (hr.deeper _) hsp
  have J0 : Inv (cxOf CX P w K mg base N qual (defScope st) f cdv A out s H E) [] (start N vs) H s1 := inv_start S hr.hd e0 (len _ _ _ _ hsp) r xx
  refine wpAny_mono (ht.run [] s1 (start N vs) H _ J0 hq) (fun fl s' hs => ?_) fun _ _ z => z
  cases fl with
  | ret u =>
    obtain ⟨v, σ', H', J, rv, q⟩ := hs
    exact ⟨v, H', J.os, J.bare, J.base, J.hok, rv, q⟩
  | next =>
    obtain ⟨σ', H', J, q⟩ := hs
    exact ⟨V.non, H', J.os, J.bare, J.base, J.hok, rfl, q⟩
  | brk => exact (show False from hs.choose_spec.choose_spec.2).elim
  | cont => exact (show False from hs.choose_spec.choose_spec.2).elim
end
section
variable {X : Cx} {Z : GH × Hp} {CX : CXT} {k j : Nat} {f C : Addr} {fd : FuncData} {ps : List Str} {sp : Sp} {dvs : List V} {ds : List Value} {E0 : XK} {x m : Str} {p pos apos : Pos} {e o : Expr} {es : List Expr} {t : TA} {P : SpW} {Ta : TW} {Tr : TWA} {dws : List W}
theorem run_g {pins : List (Addr × Obj)} {σ : L2.St} {H : Hp} {s : Shared} {Q : VK} {us : List Value} {vs : List V} (F : FnG X.prog X.w X.K X.mg X.base CX k f fd ps sp) (hgd : X.A.guards = some []) (hr : Room k X.A) (hb : Binds X.K fd ps ds) (hd : Vals dvs ds) (hx : Passes CX X E0)
    (I : Inv X pins σ H s) (r : Vals vs us) (h : sp (vs ++ dvs) H Q E0) : wpAny (model X.prog X.w) X.A (call (.ref f) us) (EP X pins σ Q) X.xe s := by
  have both : Vals (vs ++ dvs) (us ++ ds) := r.append hd
  refine wpAny_call (codeAny_mono (F.goes hgd hr I.env0 (hb s us I.kIn (by rw [← both.length]; exact F.size h)) both h) ?_)
  intro res s' hq
  match res, hq with
  | .error e, hq => exact hx pins σ H s e s' I hq
  | .ok (.ret u), hq => exact I.after hq
theorem pe_callG (F : FnG X.prog X.w X.K X.mg X.base CX k f fd ps sp) (hgd : X.A.guards = some []) (hr : Room k X.A) (hg : Gl X x) (hm : X.mg x = some (.ref f)) (hk : PySem.W.keepIn X.K (.ref f) = true) (hb : Binds X.K fd ps ds) (hd : Vals dvs ds) (hx : Passes CX X E0) (ha : PA X (e :: es) t)
    (hdb : (x == ("__debug__" : Str)) = false := by decide) (he : starEach (e :: es) X.env = (false, eval e X.env) :: starEach es X.env := by rfl) (hpl : (backTo pos (starEach es X.env)).any (·.1) = false := by rfl) : PE X (.Call (.Name x p) (e :: es) [] pos) (tCall sp dvs E0 t) :=
  ⟨fun pins s σ H Q I h => wpAny_Call_Name_kw (ld_glob I hg hm (PySem.W.callWith_K (h₀ := X.base) I.ok.mod.kin hk (thn (ha.run pos pins s σ H _ I h) fun us s1 ⟨vs, H1, I1, r, q⟩ => ⟨I1.kIn, run_g F hgd hr hb hd hx I1 r q⟩) he hpl) hdb)⟩
theorem we_callGD (F : FnG X.prog X.w X.K X.mg X.base CX k f fd ps (spL X.K P)) (hgd : X.A.guards = some []) (hr : Room k X.A) (hg : Gl X x) (hm : X.mg x = some (.ref f)) (hk : PySem.W.keepIn X.K (.ref f) = true) (hb : Binds X.K fd ps ds) (hd : Vals dvs ds) (hdw : ∀ H, RVs X.K H dvs dws) (hx : Passes CX X E0)
    (ha : WA X Z (e :: es) Tr) (hdb : (x == ("__debug__" : Str)) = false := by decide) (he : starEach (e :: es) X.env = (false, eval e X.env) :: starEach es X.env := by rfl) (hpl : (backTo pos (starEach es X.env)).any (·.1) = false := by rfl) :
    WE X Z (.Call (.Name x p) (e :: es) [] pos) (tCall0 P dws Tr) := (pe_callG F hgd hr hg hm hk hb hd hx ha hdb he hpl).weak (lfCall hdw)
end
structure DfG (P : Program) (w : World) (K : PySem.W.Frag) (mg : Str → Option Value) (base : Heap) (CX : CXT) (k : Nat) (x : Str) (ps : List Str) (dws : List W) (sp : SpW) : Prop where
  ex : ∃ f fd dvs ds, FnG P w K mg base CX k f fd ps (spL K sp) ∧ mg x = some (.ref f) ∧ PySem.W.keepIn K (.ref f) = true ∧ Binds K fd ps ds ∧ Vals dvs ds ∧ ∀ H, RVs K H dvs dws
section
variable {X : Cx} {Z : GH × Hp} {e : Expr} {pos p : Pos} {es : List Expr} {Tr : TWA} {k j : Nat} {ps : List Str} {P : SpW} {x : Str} {dws : List W}
theorem we_h (D : DfG X.prog X.w X.K X.mg X.base CX0 k x ps dws P) (hgd : X.A.guards = some []) (hr : Room j X.A) (ha : WA X Z (e :: es) Tr) (hk : k ≤ j := by decide) (hg : Gl X x := by rfl) (hdb : (x == ("__debug__" : Str)) = false := by decide)
    (he : starEach (e :: es) X.env = (false, eval e X.env) :: starEach es X.env := by rfl) (hpl : (backTo pos (starEach es X.env)).any (·.1) = false := by rfl) : WE X Z (.Call (.Name x p) (e :: es) [] pos) (tCall0 P dws Tr) := by
  obtain ⟨f, fd, dvs, ds, F, hm, hk', hb, hd, hdw⟩ := D.ex
  exact we_callGD F hgd (hr.mono hk) hg hm hk' hb hd hdw pass0 ha hdb he hpl
end
section
variable {P : Program} {w : World} {K : PySem.W.Frag} {mg : Str → Option Value} {base : Heap} {x qual : Str} {st : Stmt} {f : Addr} {fd : FuncData} {N ps : List Str} {k : Nat} {Q : SpW}
end
mutual
theorem PD.noDict {G : GH} : ∀ {w : W} {d : PyData}, PD G w d → d.hasDict = false
  | _, _, .non => rfl
  | _, _, .bl _ => rfl
  | _, _, .int _ => rfl
  | _, _, .str _ => rfl
  | _, _, .tup q => by simpa only [PyData.hasDict] using PDs.noDict q
  | _, _, .kt q => by simpa only [PyData.hasDict] using PDs.noDict q
  | _, _, .fl q => by simpa only [PyData.hasDict] using PDs.noDict q
  | _, _, .lst _ q => by simpa only [PyData.hasDict] using PDs.noDict q
theorem PDs.noDict {G : GH} : ∀ {w : List W} {d : List PyData}, PDs G w d → PyData.hasDictAll d = false
  | _, _, .nil => rfl
  | _, _, .cons q r => by simp only [PyData.hasDictAll, PD.noDict q, PDs.noDict r, Bool.or_self]
end
section
variable {X : Cx}
end
theorem head_g {P : Program} {w : World} {K : PySem.W.Frag} {mg mb : Str → Option Value} {CX : CXT} {k : Nat} {fa a : Addr} {fd : FuncData} {x : Str} {sp : Sp} {s : Shared} {vs : List Value} {ns : List Int}
    (KX : K.In s.heap) (hns : s.heap.Ns mainGlobals mg) (hb : s.heap.Ns builtinsNs mb) (hbb : ∀ x : Str, x ≠ "__name__" → mb x = bootBuiltins x) (hlim : s.heap.NoLimit) (hg : s.gens = #[]) (ha : s.heap.get? a = some { cls := .type "list", data := .seq vs.toArray }) (hi : IntsAre vs ns)
    (hl : ns.length ≤ sizeLine) (hr : Room k callerA) (F : ∀ base : Heap, K.In base → base.Ns mainGlobals mg → FnG P w K mg base CX k fa fd [x] sp) (hbind : ∀ (s : Shared) (u : Value), BindsTo s fd ⟨[u], []⟩ [(x, u)])
    (hsp : ∀ H : Hp, Only H → SqL K H a (ns.map V.int) → sp [.ref a] H (fun v _ => v = .bl true) fun _ _ _ => False) (hCX : ∀ H e s', CX [] H s (fun _ _ _ => False) e s' → False) :
    codeAny (model P w) callerA (.call (.ref fa) ⟨[.ref a], []⟩) (fun r s' => r = .ok (.ret (.bool true)) ∧ OldK s.heap s'.heap ∧ s'.os = s.os ∧ AllBare s'.gens) s := by
  have rv := vals_ints hi
  have core : ∀ H : Hp, Only H → SqL K H a (ns.map V.int) → HOk P w H s.heap → (∀ b, H b ≠ none → b = a) → (H a ≠ none → K.lookup a = none) →
      codeAny (model P w) callerA (.call (.ref fa) ⟨[.ref a], []⟩) (fun r s' => r = .ok (.ret (.bool true)) ∧ OldK s.heap s'.heap ∧ s'.os = s.os ∧ AllBare s'.gens) s := by
    intro H hO hS hok hA hK
    have free : ∀ {b : Addr}, b ≠ a → H b = none := fun {b} n => by
      cases q : H b with
      | none => rfl
      | some u => exact absurd (hA b (by rw [q]; simp)) n
    have noA : ∀ {b : Addr} {o : Obj} {es : Array DictEntry} {ep : Nat}, s.heap.get? b = some o → o.data = .dict es ep → H b = none := fun {b o es ep} e d => free fun z => by
      subst z
      rw [ha] at e; cases e; cases d
    have nsK : ∀ {b : Addr} {m : Str → Option Value}, s.heap.Ns b m → (hidT s.heap H).Ns b m := fun {b m} ⟨o, es, ep, e, d, r⟩ => ⟨o, es, ep, hidT_get e (noA e d), d, r⟩
    have hKb : K.In (hidT s.heap H) := fun b o e => hidT_get (KX b o e) (by
      by_cases z : b = a
      · subst z
        cases q : H b with
        | none => rfl
        | some u => rw [hK (by rw [q]; simp)] at e; cases e
      · exact free z)
    have e0 : Env0 P w K mg (hidT s.heap H) callerA [] s H :=
      { frames := rfl, mod := ⟨hKb, nsK hns, ⟨mb, nsK hb, hbb⟩, let ⟨mc, h1, h2⟩ := hlim; ⟨mc, nsK h1, h2⟩⟩, bs := fun b o e => of_hidT e, bsz := Nat.le_of_eq (hidT_size _ _), funs := trivial, frf := fun b hb => by simp [frs] at hb, hok := hok, bare := .of_eq hg }
    refine codeAny_mono ((F _ hKb (nsK hns)).goes rfl hr e0 (hbind s (.ref a)) (us := [.ref a]) (vs := [.ref a]) (.cons rfl .nil) (hsp H hO hS)) fun r s' h => ?_
    match r, h with
    | .error e, h => exact (hCX H e s' h).elim
    | .ok (.ret u), h =>
      obtain ⟨v, H', os, bare, un, hok', r', q⟩ := h
      cases (show v = .bl true from q)
      obtain rfl : u = Value.bool true := r'
      refine ⟨rfl, OldK.of_keep fun b o e => ?_, os, bare⟩
      cases q : H b with
      | none => exact un.keep b o e q (by simp [frs]) (by simp)
      | some u =>
        rcases hO b with z | ⟨ob, xs, z⟩
        · rw [q] at z; cases z
        · obtain ⟨e1, _⟩ := hok b _ z
          rw [e] at e1; cases e1
          exact (hok' b _ (un.frzs b _ _ z)).1
  cases hk : K.lookup a with
  | some o =>
    have e := KX a o hk
    rw [ha] at e; cases e
    refine core (fun _ => none) (fun _ => .inl rfl) (.inr ⟨_, vs.toArray, _, hk, rfl, rfl, rfl, ?_, ?_⟩) ?_ (fun b z => absurd rfl z) fun z => absurd rfl z
    · rw [List.size_toArray, hi.length]; exact hl
    · simpa using rv
    · intro b u z; cases z
  | none =>
    have at_ : ∀ {b : Addr} {u : HO}, (if b = a then some (HO.frz { cls := .type "list", data := .seq vs.toArray } (.lst (ns.map V.int))) else none) = some u → b = a ∧ u = .frz { cls := .type "list", data := .seq vs.toArray } (.lst (ns.map V.int)) := fun {b u} z => by
      by_cases h : b = a
      · rw [if_pos h] at z; cases z; exact ⟨h, rfl⟩
      · rw [if_neg h] at z; cases z
    refine core (fun b => if b = a then some (.frz { cls := .type "list", data := .seq vs.toArray } (.lst (ns.map V.int))) else none) (fun b => ?_) (.inl (.inr ⟨{ cls := .type "list", data := .seq vs.toArray }, if_pos rfl⟩)) (fun b u z => ?_) (fun b z => ?_) fun _ => hk
    · by_cases h : b = a
      · exact .inr ⟨_, _, if_pos h⟩
      · exact .inl (if_neg h)
    · obtain ⟨rfl, rfl⟩ := at_ z
      exact ⟨ha, by rw [List.length_map]; exact hl, vs, _, rv, ha⟩
    · by_cases h : b = a
      · exact h
      · exact absurd (if_neg h) z
theorem walk_g {l : PySem.W.OpenLaw} {n k : Nat} {q : Program} {loose : List Str} {XP : (Str → Option Value) → Heap → Prop} {YP : World → Heap → Prop} {d : DefRec} {K : Params → PySem.W.Frag} {CX : World → CXT} {sp : World → Sp} {x : Str}
    (hn : l.most = some n) (hn2 : n ≤ sizeLine) (hdf : d.params.defaults = []) (hr : Room k callerA) (hY : ∀ (w : World) (h : Heap), YP w h → (K w.params).In h)
    (F : ∀ (w : World) (mg : Str → Option Value) (fa : Addr) (h : Heap), (K w.params).In h → h.Ns mainGlobals mg → mg d.name = some (.ref fa) → ∃ fd : FuncData, (∀ (s : Shared) (u : Value), BindsTo s fd ⟨[u], []⟩ [(x, u)]) ∧
        ∀ base : Heap, (K w.params).In base → base.Ns mainGlobals mg → FnG l.prog w (K w.params) mg base (CX w) k fa fd [x] (sp w))
    (hsp : ∀ (w : World) (H : Hp) (a : Addr) (ns : List Int), ns.length ≤ n → (∀ z ∈ ns, Builtin.Int.intBits z ≤ 1048576) → Only H → SqL (K w.params) H a (ns.map V.int) → sp w [.ref a] H (fun v _ => v = .bl true) fun _ _ _ => False)
    (hCX : ∀ (w : World) (H : Hp) (s : Shared) (e : Value) (s' : Shared), CX w [] H s (fun _ _ _ => False) e s' → False) : PySem.W.WalkO q loose XP YP l.row.toRowW d [] (fun f vs => PySem.call f vs) := by
  refine Att.attach_callB hn hdf fun w s₀ s₁ mg mb fa o pm cd doc a vs ns G Y ho hd hcd hmg hobj hints hlen hbits hg => ?_
  obtain ⟨fd, hb, hF⟩ := F w mg fa _ (hY w _ Y) G.T.g hmg
  exact head_g (hY w _ Y) G.T.g G.T.b G.T.builtins G.T.nolimit hg hobj hints (Nat.le_trans hlen hn2) hr hF hb (fun H hO hS => hsp w H a ns hlen hbits hO hS) fun H e s' => hCX w H s₁ e s'
end WL
set_option Elab.async false
set_option linter.all false
set_option maxRecDepth 100000
set_option maxHeartbeats 4000000
namespace WL
open PySem PySem.Spec PyProof.Rows L2
theorem setK_nt {P : Program} {w : World} {a : Addr} {S : Key → Bool} {n : Nat} : NoTup (SetK P w a S n) := fun h R => by
  obtain ⟨o, es, ep, t, ho, r⟩ := R
  refine ⟨a, o, ho, fun vs e => ?_⟩
  obtain ⟨_, r2, _⟩ := r
  rw [r2] at e; cases e
def tSk (P : Program) (w : World) (wi : TI) (g : TG) (tt : TT) (te : TE) (vs : List Nat) : TE := fun σ H Q => wi σ H fun J H1 => ∀ D, H1 D = none → ∃ I : Nat → Nat → Hp → Prop, (∃ m, I 0 m (upd H1 D (SetK P w D (fun _ => false) 0))) ∧ ∀ i m H, I i m H →
  (J.stop i H ∧ Q (.ref D) H) ∨ (J.go i H ∧ ∃ Nx : Hp → Prop, (∀ H', Nx H' → ∃ m', m' < m ∧ I (i + 1) m' H') ∧ ∀ x H', J.yld i H x H' → g x (L2.wipe σ vs) H' fun σ2 H2 => L2.wipe σ2 vs = L2.wipe σ vs ∧ tt σ2 H2 fun b H3 =>
    if b = true then te σ2 H3 fun y H4 => ∃ (c : Key) (S : Key → Bool) (n : Nat), y = kV c ∧ H4 D = some (SetK P w D S n) ∧ n + 1 < scanBound ∧ Nx (upd H4 D (SetK P w D (fun j => S j || decide (j = c)) (if S c = true then n else n + 1))) else Nx H3)
theorem setK_empty {P : Program} {w : World} (h : Heap) (b : Bool) : (h.push { cls := .type "set", dict := none, data := .set #[] 0 (.fresh 0 0 b) }).SetOf (mixKind P w) h.objs.size (fun _ => false) 0 :=
  ⟨_, #[], 0, _, Heap.get?_push_size _ rfl, ⟨rfl, rfl, rfl⟩, rfl, (fun e he => by simp at he), (fun k => by simp), (by decide), (by rfl), rfl⟩
section
variable {X : Cx}
theorem sk_core {s : Shared} {pins : List (Addr × Obj)} {σ : L2.St} {H : Hp} {Q : VK} {elt tg iter : Expr} {ifs : List Expr} {scope : Scope} {own : List (Str × Nat)} {pos pos' : Pos} {wi : TI} {g : TG} {tt : TT} {te : TE} {Qf : Value → Shared → Prop} {use : Option (Value → Sem Unit)}
    (hc : X.calm = true) (hN : X.N.Nodup) (J0 : Inv X pins σ H s) (hi : PI X tg iter wi) (ok : BlkOk X.N X.env.scope scope own) (hg : ∀ (s : Shared) (H : Hp) (C : Addr) (cl : List (Str × Addr)) (fp : List Addr), PG (X.blk s H scope (compEnvC scope cl C X.env) fp) tg g)
    (ht : ∀ (s : Shared) (H : Hp) (C : Addr) (cl : List (Str × Addr)) (fp : List Addr), PTs (X.blk s H scope (compEnvC scope cl C X.env) fp) ifs tt) (he : ∀ (s : Shared) (H : Hp) (C : Addr) (cl : List (Str × Addr)) (fp : List Addr), PE (X.blk s H scope (compEnvC scope cl C X.env) fp) elt te)
    (hs : ∀ x, foldedSetIterable iter X.env x = pure x) (h : tSk X.prog X.w wi g tt te (own.map (·.2)) σ H Q)
    (fin : ∀ D C s' m H', Inv X pins σ H' s' → Q (.ref D) H' → s'.heap.Ns C m → FpOk X pins H' C → compPost (model X.prog X.w) X.A X.xe use Qf (.ref D) C (.ok .next) s') :
    wpAny (model X.prog X.w) X.A (comprehension (.SetComp elt [⟨tg, iter, ifs, 0⟩] scope pos) scope X.env pos' (newSet (.type "set")) false (eval iter X.env) use) Qf X.xe s := by
  have cells : ∀ y ∈ scope.names, y.2 = .free → ∃ c, X.env.cells.lookup y.1 = some c := fun y hy e => (ok.free y hy e).elim (fun k => J0.ok.has _ (.inl k)) fun k => J0.ok.has _ (.inr k)
  refine wpAny_comprehension_free (use := use) rfl hs (closure_ok cells) ok.kind (fun y hy e => (ok.uniq y hy).trans (congrArg some e)) (thn (hi.run pins s σ H _ J0 h) fun xv s1 hx => thn hx fun itv s2 h2 => ?_)
  obtain ⟨it, fp, tn, J, H2, rfl, J2, T, st2, f2, q⟩ := h2
  refine PpSet.newSet_ok (newEnv_comp ?_)
  obtain ⟨D, hD⟩ : ∃ D, s2.heap.objs.size = D := ⟨_, rfl⟩
  have free : H2 D = none := J2.hok.fresh (Nat.le_of_eq hD)
  obtain ⟨I, ⟨m0, i0⟩, turn⟩ := q D free
  obtain ⟨s3, hs3⟩ : ∃ s3 : Shared, ({ s2 with heap := s2.heap.push { cls := .type "set", dict := none, data := .set #[] 0 (.fresh 0 0 (!X.w.params.followText "set-order")) } } : Shared) = s3 := ⟨_, rfl⟩
  obtain ⟨H3, hH3⟩ : ∃ H3, upd H2 D (SetK X.prog X.w D (fun _ => false) 0) = H3 := ⟨_, rfl⟩
  have J3 : Inv X pins σ H3 s3 := by
    subst hs3 hH3
    refine J2.laid (t' := s2.toks) (fun b o e => Heap.get?_push_of_some _ e) (Nat.le_of_eq hD) ?_
    rw [← hD]
    exact setK_new (setK_empty _ _)
  have hp3 : s3.heap = s2.heap.push { cls := .type "set", dict := none, data := .set #[] 0 (.fresh 0 0 (!X.w.params.followText "set-order")) } := by rw [← hs3]
  have f3 : ∀ b ∈ fp, FpOk X pins H3 b ∧ b < s3.heap.objs.size := fun b hb => by
    obtain ⟨o, e, _⟩ := T.obj _ _ st2 b hb
    have lt : b < s2.heap.objs.size := Heap.lt_size e
    refine ⟨⟨?_, (f2 b hb).2⟩, by rw [hp3, Heap.size_push]; exact Nat.lt_succ_of_lt lt⟩
    rw [← hH3, upd_ne (by rw [← hD]; exact Nat.ne_of_lt lt)]
    exact (f2 b hb).1
  have st3 : tn 0 s3.heap := T.keep _ _ _ st2 fun b _ o e => by rw [hp3]; exact Heap.get?_push_of_some _ e
  have J4 := block_start J3 ok hN f3
  have G1 := hg s3 H3 s3.heap.objs.size (cellsFrom (s3.heap.objs.size + 1) scope.names (cloFrom X.env.cells scope.names [])) fp
  have G2 := ht s3 H3 s3.heap.objs.size (cellsFrom (s3.heap.objs.size + 1) scope.names (cloFrom X.env.cells scope.names [])) fp
  have G3 := he s3 H3 s3.heap.objs.size (cellsFrom (s3.heap.objs.size + 1) scope.names (cloFrom X.env.cells scope.names [])) fp
  rw [hH3] at i0
  have nfp : ∀ b ∈ fp, H3 b = none := fun b hb => (f3 b hb).1.1
  rw [hs3, hD]
  show codeAny _ _ (.compStart (.SetComp elt [⟨tg, iter, ifs, 0⟩] scope pos) 0 (.ref it) (.ref D) (compEnvC scope (cellsFrom (s3.heap.objs.size + 1) scope.names (cloFrom X.env.cells scope.names [])) s3.heap.objs.size X.env)) (compPost (model X.prog X.w) X.A X.xe use Qf (.ref D) s3.heap.objs.size) { s3 with heap := pushCells (s3.heap.push { cls := .type "dict", data := .dict #[] }) scope.names }
  obtain ⟨ce, hce⟩ : ∃ ce, compEnvC scope (cellsFrom (s3.heap.objs.size + 1) scope.names (cloFrom X.env.cells scope.names [])) s3.heap.objs.size X.env = ce := ⟨_, rfl⟩
  obtain ⟨s4, hs4⟩ : ∃ s4 : Shared, ({ s3 with heap := pushCells (s3.heap.push { cls := .type "dict", data := .dict #[] }) scope.names } : Shared) = s4 := ⟨_, rfl⟩
  have cL : ce.locals = s3.heap.objs.size := by rw [← hce]; rfl
  rw [hce] at J4 G1 G2 G3 ⊢
  rw [hs4] at J4 ⊢
  have st4 : tn 0 s4.heap := T.keep _ _ _ st3 fun b _ o e => by rw [← hs4]; exact pushCells_keeps _ _ _ _ (Heap.get?_push_of_some _ e)
  have stat : ∀ {σ' : L2.St} {H' : Hp} {s' : Shared}, Inv (X.blk s3 H3 scope ce fp) [] σ' H' s' → (∀ b ∈ fp, H' b = none) → ∀ b ∈ fp, FpOk (X.blk s3 H3 scope ce fp) [] H' b := fun {σ' H' s'} I' hn b hb =>
    ⟨hn b hb, (I'.ok.exf b hb).1, I'.ok.exfs b hb, .inl hb, fun x c e => (I'.ok.exf b hb).2 x c e, fun p hp => absurd (show p ∈ ([] : List (Addr × Obj)) ++ [] from hp) (by simp)⟩
  have loop : codeAny (model X.prog X.w) X.A (.compLoop (.SetComp elt [⟨tg, iter, ifs, 0⟩] scope pos) 0 (.ref it) (.ref D) ce) (compPost (model X.prog X.w) X.A X.xe use Qf (.ref D) s3.heap.objs.size) s4 := by
    refine PpSet.compLoopS_any (fun n s' => ∃ i H', Inv (X.blk s3 H3 scope ce fp) [] (L2.wipe σ (own.map (·.2))) H' s' ∧ tn i s'.heap ∧ (∀ b ∈ fp, H' b = none) ∧ I i n H') (fun n s5 ⟨i, H5, J5, st5, n5, i5⟩ => ?_) m0 ⟨0, H3, J4, st4, nfp, i0⟩
    rcases turn i n H5 i5 with ⟨stop, qq⟩ | ⟨go, Nx, hNx, step⟩
    · refine thnF (T.done (X.blk s3 H3 scope ce fp) rfl rfl rfl hc i [] s5 _ H5 (fun _ _ => False) J5 (stat J5 n5) st5 stop) fun r s6 ⟨hr, J6⟩ => ?_
      subst hr
      have J7 : Inv X pins σ H5 s6 := J3.call' (ch := fp) J6.os J6.base J6.hok J6.bare fun b hb => ⟨(f3 b hb).1.2.2.2.1, (f3 b hb).1.2.1, (f3 b hb).1.2.2.2.2.1, (f3 b hb).1.2.2.2.2.2⟩
      have nC : H5 s3.heap.objs.size = none := by rw [← cL]; exact J6.free
      obtain ⟨m, hn, _⟩ := J6.loc
      exact fin D s3.heap.objs.size s6 m H5 J7 qq (by rw [← cL]; exact hn) (J3.fpOk (Nat.le_refl _) nC)
    · refine thnF (T.item (X.blk s3 H3 scope ce fp) rfl rfl rfl hc i [] s5 _ H5 (fun _ _ => False) J5 (stat J5 n5) st5 go) fun r s6 ⟨u, hr, h6⟩ => ?_
      subst hr
      refine thnF h6 fun _ s7 ⟨x, H7, J7, r7, y7, st7, n7⟩ => ?_
      refine thnF (G1.run _ s7 _ H7 x u _ (J7.pinned (stat J7 n7) (T.obj _ _ st7)) r7 (step x H7 y7)) fun _ s8 ⟨σ8, H8, J8, hw8, q8⟩ => ?_
      refine thnF (G2.run _ s8 σ8 H8 _ J8 q8) fun b s9 ⟨H9, J9, q9⟩ => ?_
      have back : ∀ {s' : Shared} {H' : Hp}, Inv (X.blk s3 H3 scope ce fp) ([] ++ pinsAt fp s7.heap) σ8 H' s' → Nx H' → ∃ m, m < n ∧ ∃ i H', Inv (X.blk s3 H3 scope ce fp) [] (L2.wipe σ (own.map (·.2))) H' s' ∧ tn i s'.heap ∧ (∀ b ∈ fp, H' b = none) ∧ I i m H' := fun {s' H'} I' nx => by
        obtain ⟨m', hm, i'⟩ := hNx H' nx
        have pin : ∀ b ∈ fp, ∀ o, s7.heap.get? b = some o → s'.heap.get? b = some o ∧ H' b = none := fun b hb o e =>
          have z := I'.pin (b, o) (List.mem_append_right _ (List.mem_append_right _ (mem_pinsAt hb e)))
          ⟨z.1, z.2.1⟩
        have hl : (L2.wipe σ (own.map (·.2))).length = σ8.length := by rw [← hw8, wipe_length]
        refine ⟨m', hm, i + 1, H', (I'.unpinned (pins := [])).weak hl (fun j v e => (wipe_some (by rw [← hw8] at e; exact e)).1), T.keep _ _ _ st7 fun b hb o e => (pin b hb o e).1, fun b hb => ?_, i'⟩
        obtain ⟨o, e, _⟩ := T.obj _ _ st7 b hb
        exact (pin b hb o e).2
      cases b with
      | false =>
        simp only [Bool.false_eq_true, if_false] at q9 ⊢
        exact back J9 q9
      | true =>
        simp only [if_true] at q9 ⊢
        refine thnF (G3.run _ s9 σ8 H9 _ J9 q9) fun z s10 ⟨yv, H10, J10, r10, c, S0, n0, ey, hD10, hz10, nx⟩ => ?_
        subst ey
        exact thnF (mt_saddK (X := X.blk s3 H3 scope ce fp) _ s10 σ8 H10 (.ref D) [kV c] (.ref D) [z] (fun v H => v = .non ∧ Nx H) J10 rfl (.cons r10 .nil) ⟨D, c, S0, n0, rfl, rfl, hD10, hz10, rfl, nx⟩) fun _ s11 ⟨v, H11, J11, _, _, nx'⟩ => back J11 nx'
  exact PpSet.codeAny_compStart_set loop (T.self X.A 0 _ _ _ st4 loop)
theorem pe_sk {elt tg iter : Expr} {ifs : List Expr} {scope : Scope} {own : List (Str × Nat)} {pos : Pos} {wi : TI} {g : TG} {tt : TT} {te : TE} (hc : X.calm = true) (hN : X.N.Nodup) (hi : PI X tg iter wi) (ok : BlkOk X.N X.env.scope scope own) (hg : ∀ (s : Shared) (H : Hp) (C : Addr) (cl : List (Str × Addr)) (fp : List Addr), PG (X.blk s H scope (compEnvC scope cl C X.env) fp) tg g)
    (ht : ∀ (s : Shared) (H : Hp) (C : Addr) (cl : List (Str × Addr)) (fp : List Addr), PTs (X.blk s H scope (compEnvC scope cl C X.env) fp) ifs tt) (he : ∀ (s : Shared) (H : Hp) (C : Addr) (cl : List (Str × Addr)) (fp : List Addr), PE (X.blk s H scope (compEnvC scope cl C X.env) fp) elt te)
    (hs : ∀ x, foldedSetIterable iter X.env x = pure x := by intro _; rfl) : PE X (.SetComp elt [⟨tg, iter, ifs, 0⟩] scope pos) (tSk X.prog X.w wi g tt te (own.map (·.2))) := by
  refine ⟨fun pins s σ H Q I h => ?_⟩
  rw [PpSet.eval_SetComp]
  refine sk_core hc hN I hi ok hg ht he hs h fun D C s' m H' I' q hn f => ⟨m, hn, fun h'' sb => ?_⟩
  obtain ⟨f0, f1, f2, f3, f4, f5⟩ := f
  exact ⟨.ref D, H', I'.turned (t' := s'.toks) (fun b o hb e => (sb.2 b hb).trans e) f0 f1 f3 f4 f5, rfl, q⟩
def rLenK (P : Program) (w : World) : List V → Hp → VK → Prop := fun xs H Q => ∃ D S n, xs = [.ref D] ∧ H D = some (SetK P w D S n) ∧ Q (.int n) H
theorem call_lenK : CallR X (.builtin "len") (rLenK X.prog X.w) := by
  intro pins s σ H xs us Q I r h
  obtain ⟨D, S, n, rfl, hD, q⟩ := h
  cases r with
  | cons a b =>
    cases b
    cases a
    obtain ⟨o, es, ep, t, ho, hex, hd, _, _, hb, hf, hn⟩ := setK_get I hD
    subst hn
    exact call_len_set ho hex hd hf (by unfold scanBound at hb; omega) ⟨.int es.size, H, I.tok _, ⟨_, rfl⟩, q⟩
end
instance memKey (k : Key) (acc : List Key) : Decidable (k ∈ acc) := decidable_of_iff (acc.any (fun j => decide (j = k)) = true) (by
  rw [List.any_eq_true]
  exact ⟨fun ⟨j, h, e⟩ => by rw [← of_decide_eq_true e]; exact h, fun h => ⟨k, h, decide_eq_true rfl⟩⟩)
def compK (Gd : GH → Prop) (g : TGW) (tt : TWT) (te : TW) (S0 : WSt) (R : List Key → GH → Prop) : List W → GH → List Key → Prop
  | [], G, acc => Gd G ∧ R acc G
  | x :: xs, G, acc => Gd G ∧ g x S0 G fun S2 G2 => tt S2 G2 fun b G3 => if b = true then te S2 G3 fun w G4 => ∃ k, w.key? = some k ∧ acc.length + 1 < scanBound ∧ compK Gd g tt te S0 R xs G4 (if k ∈ acc then acc else acc ++ [k]) else compK Gd g tt te S0 R xs G3 acc
def tLenSC (ti : TIW) (g : TGW) (tt : TWT) (te : TW) (vs : List Nat) : TW := fun S G R => ti S G fun items Gd G1 => compK Gd g tt te (wipeW S vs) (fun acc G2 => R (.int acc.length) G2) items G1 []
theorem setK_step {P : Program} {w : World} {D : Addr} {acc : List Key} {k : Key} : SetK P w D (fun j => decide (j ∈ acc) || decide (j = k)) (if decide (k ∈ acc) = true then acc.length else acc.length + 1) = SetK P w D (fun j => decide (j ∈ (if k ∈ acc then acc else acc ++ [k]))) (if k ∈ acc then acc else acc ++ [k]).length := by
  by_cases h : k ∈ acc
  · rw [if_pos h, if_pos (decide_eq_true h)]
    congr 1
    funext j
    by_cases e : j = k
    · subst e; simp [h]
    · simp [e]
  · rw [if_neg h, if_neg (by simpa using h), List.length_append, List.length_singleton]
    congr 1
    funext j
    simp
section
variable {X : Cx} {Z : GH × Hp} {x : Str} {p pos : Pos}
theorem lfLenSC {P : Program} {w : World} {K : PySem.W.Frag} {ti : TIW} {gh : TG} {g : TGW} {tt : TWT} {te : TW} {vs : List Nat} (gok : GOk K Z gh g vs) (σ : L2.St) (H : Hp) (Q : VK) (h : Lf K Z (tLenSC ti g tt te vs) σ H Q) : tCB (rLenK P w) (tCons (tSk P w (LfI K Z ti) gh (LfT K Z tt) (Lf K Z te) vs) tNil) σ H Q := by
  obtain ⟨S, G, R, sr, t, k⟩ := h
  refine ⟨S, G, _, sr, t, fun items Gd G1 J H1 t1 f1 h1 wi D hD => ?_⟩
  have hz : ∀ o, Z.2 D = some o → Z.1 D ≠ none := fun o e g => by
    have := ((sr.next f1 h1).tk D o e g).1
    rw [hD] at this; cases this
  have gD : G1 D = none := h1.free hD
  have e0 : (fun j : Key => decide (j ∈ ([] : List Key))) = fun _ => false := by funext j; simp
  refine ⟨fun i m H' => m = items.length - i ∧ i ≤ items.length ∧ ∃ G' acc, H' D = some (SetK P w D (fun j => decide (j ∈ acc)) acc.length) ∧ G' D = none ∧ SR K Z (L2.wipe σ vs) H' (wipeW S vs) G' ∧ FR G1 H1 G' H' ∧ compK Gd g tt te (wipeW S vs) (fun acc G2 => R (.int acc.length) G2) (items.drop i) G' acc,
    ⟨items.length, by simp, Nat.zero_le _, G1, [], by rw [e0]; exact upd_same, gD, ((sr.next f1 h1).next (.new hD) (h1.new hD)).wipe vs, .new hD, t1⟩, ?_⟩
  rintro i m H2 ⟨rfl, hi, G2, acc, hd, g2, sr2, f2, t2⟩
  by_cases hlt : i < items.length
  · rw [List.drop_eq_getElem_cons hlt] at t2
    obtain ⟨gd, t2⟩ := t2
    refine .inr ⟨wi.go i G2 H2 f2 sr2.rh gd hlt, fun H' => ∃ G' acc, H' D = some (SetK P w D (fun j => decide (j ∈ acc)) acc.length) ∧ G' D = none ∧ SR K Z (L2.wipe σ vs) H' (wipeW S vs) G' ∧ FR G1 H1 G' H' ∧ compK Gd g tt te (wipeW S vs) (fun acc G2 => R (.int acc.length) G2) (items.drop (i + 1)) G' acc, ?_, fun y H3 hy => ?_⟩
    · rintro H' ⟨G', acc', q⟩
      exact ⟨items.length - (i + 1), by omega, rfl, hlt, G', acc', q⟩
    · obtain ⟨f3, r3, h3⟩ := wi.yld i G2 H2 y H3 items[i] f2 sr2.rh gd (by simp [hlt]) hy
      have sr3 := sr2.next f3 h3
      have kp := fun Q' => gok.keeps y (L2.wipe σ vs) H3 Q'
      simp only [wipe_wipe vs fun _ h => h] at kp
      refine kp _ (gok.lift _ _ _ _ (LfG.go r3 sr3 t2 fun S4 G4 σ4 H4 t4 sr4 f4 => ?_))
      refine LfT.go sr4 t4 fun b G5 H5 t5 f5 h5 => ?_
      have f25 : FR G2 H2 G5 H5 := f3.trans (f4.trans f5)
      have d5 := f25 D _ hd g2
      cases b with
      | false => exact iteF ⟨G5, acc, d5.1, d5.2, sr2.next f25 h5, f2.trans f25, t5⟩
      | true =>
        refine iteT (Lf.go (sr4.next f5 h5) t5 fun w6 G6 v H6 t6 f6 r6 h6 => ?_)
        have f26 := f25.trans f6
        have d6 := f26 D _ hd g2
        obtain ⟨c, hk, room, t6⟩ := t6
        have ev : v = kV c := by
          have ew := key_of? hk
          subst ew
          cases c <;> (cases r6; rfl)
        refine ⟨c, _, _, ev, d6.1, room, G6, if c ∈ acc then acc else acc ++ [c], ?_, d6.2, (sr2.next f26 h6).poke d6.1 setK_nt d6.2 hz, (f2.trans f26).poke (fun o e => by rw [hD] at e; cases e), t6⟩
        rw [← setK_step]
        exact upd_same
  · have e : i = items.length := by omega
    subst e
    rw [List.drop_length] at t2
    exact .inl ⟨wi.stop G2 H2 f2 sr2.rh t2.1, D, _, _, rfl, hd, k _ _ _ _ t2.2 (f1.trans f2) (.int _) sr2.rh⟩
theorem we_lenSC {elt tg iter : Expr} {ifs : List Expr} {scope : Scope} {own : List (Str × Nat)} {cpos : Pos} {ti : TIW} {gh : TG} {g : TGW} {tt : TWT} {te : TW} (hgl : Gl X "len") (hm : X.mg "len" = none) (hv : bootBuiltins "len" = some (.builtin "len"))
    (hc : X.calm = true) (hN : X.N.Nodup) (hi : WI X Z tg iter ti) (ok : BlkOk X.N X.env.scope scope own) (gok : GOk X.K Z gh g (own.map (·.2)))
    (hg : ∀ (s : Shared) (H : Hp) (C : Addr) (cl : List (Str × Addr)) (fp : List Addr), PG (X.blk s H scope (compEnvC scope cl C X.env) fp) tg gh) (ht : ∀ (s : Shared) (H : Hp) (C : Addr) (cl : List (Str × Addr)) (fp : List Addr), PTsW (X.blk s H scope (compEnvC scope cl C X.env) fp) Z ifs tt)
    (he : ∀ (s : Shared) (H : Hp) (C : Addr) (cl : List (Str × Addr)) (fp : List Addr), WE (X.blk s H scope (compEnvC scope cl C X.env) fp) Z elt te) (hs : ∀ x, foldedSetIterable iter X.env x = pure x := by intro _; rfl) :
    WE X Z (.Call (.Name "len" p) [.SetComp elt [⟨tg, iter, ifs, 0⟩] scope pos] [] cpos) (tLenSC ti g tt te (own.map (·.2))) :=
  (pe_callB call_lenK hgl hm hv (pa_cons (pe_sk (tt := LfT X.K Z tt) (te := Lf X.K Z te) hc hN hi ok hg ht he hs) pa_nil)).weak (lfLenSC gok)
end
end WL
set_option Elab.async false
set_option linter.all false
set_option maxRecDepth 100000
set_option maxHeartbeats 4000000
namespace WL
open PySem PySem.Spec PyProof.Rows L2
section
variable {X : Cx} {Z : GH × Hp} {a b c e o : Expr} {Ta Tb : TW} {pos p : Pos} {K : PySem.W.Frag} {Tr : TWA}
theorem RVs.three {H : Hp} {vs : List V} {x y z : W} (r : RVs K H vs [x, y, z]) : ∃ u v w, vs = [u, v, w] ∧ RV K H u x ∧ RV K H v y ∧ RV K H w z := by
  cases r with
  | cons a r => cases r with
    | cons b r => cases r with
      | cons c r => cases r; exact ⟨_, _, _, rfl, a, b, c⟩
theorem ws_par3 {i j l : Nat} {x y z : Str} {px py pz pt : Pos} {kt k2 pt2} (hc : X.calm = true) (hN : X.N.Nodup) (hi : X.N[i]? = some x) (hj : X.N[j]? = some y) (hl : X.N[l]? = some z) (hij : i ≠ j) (hil : i ≠ l) (hjl : j ≠ l)
    (hx : X.env.scope.names.lookup x = some .local) (hy : X.env.scope.names.lookup y = some .local) (hz : X.env.scope.names.lookup z = some .local) (ha : WA X Z [a, b, c] Tr) (hw : swappedStores [.Tuple [.Name x px, .Name y py, .Name z pz] kt pt] (.Tuple [a, b, c] k2 pt2) X.env = pure (some [x, y, z]))
    (hs : swapsWithSole [.Tuple [.Name x px, .Name y py, .Name z pz] kt pt] (.Tuple [a, b, c] k2 pt2) pos.line X.env = pure false := by rfl) : WS X Z (.Assign [.Tuple [.Name x px, .Name y py, .Name z pz] kt pt] (.Tuple [a, b, c] k2 pt2) pos) (sPar3 i j l Tr) :=
  (ps_par3 hc hN hi hj hl hij hil hjl hx hy hz ha hw hs).weak fun D σ H h => by
    obtain ⟨S, G, DW, sr, t, ld⟩ := h
    refine LfA.go sr t fun ws G1 vs H1 t1 f1 rs h1 => ?_
    match ws, t1, rs with
    | [w1, w2, w3], t1, rs =>
      obtain ⟨v1, v2, v3, rfl, k1, k2, k3⟩ := rs.three
      exact ⟨v1, v2, v3, rfl, ld.nx _ _ _ _ t1 ((((sr.next f1 h1).set k1).set k2).set k3) f1⟩
abbrev TRW := WSt → GH → (Int → Int → GH → Prop) → Prop
def LfR (K : PySem.W.Frag) (Z : GH × Hp) (T : TRW) : L2.St → Hp → (Int → Int → Hp → Prop) → Prop := fun σ H Q => ∃ S G R, SR K Z σ H S G ∧ T S G R ∧ ∀ i j G' H', R i j G' → FR G H G' H' → RH K H' G' → Q i j H'
def WR (X : Cx) (Z : GH × Hp) (e : Expr) (T : TRW) : Prop := PRg X e (LfR X.K Z T)
def tRg2W (Ta Tb : TW) : TRW := fun S G R => Ta S G fun w G1 => Tb S G1 fun u G2 => match w, u with
  | .int i, .int j => R i j G2
  | _, _ => False
theorem prgW_2 {p : Pos} (hg : Gl X "range") (hm : X.mg "range" = none) (ha : WE X Z a Ta) (hb : WE X Z b Tb) (na : starEach [a, b] X.env = (false, eval a X.env) :: starEach [b] X.env := by rfl) (nb : starEach [b] X.env = (false, eval b X.env) :: starEach [] X.env := by rfl)
    (hp : (backTo pos (starEach [b] X.env)).any (·.1) = false := by rfl) : WR X Z (.Call (.Name "range" p) [a, b] [] pos) (tRg2W Ta Tb) :=
  fun pins s σ H Q I ⟨S, G, R, sr, t, k⟩ => prg_2 hg hm ha hb na nb hp pins s σ H Q I (Lf.go sr t fun w G1 v H1 t1 f1 r1 h1 => Lf.go (sr.next f1 h1) t1 fun u G2 v2 H2 t2 f2 r2 h2 => by
    cases w with
    | int i =>
      cases u with
      | int j => cases r1; cases r2; exact ⟨i, j, rfl, rfl, k _ _ _ _ t2 (f1.trans f2) h2⟩
      | _ => exact (show False from t2).elim
    | _ => exact (show False from t2).elim)
def rgI (a b : Int) : List Int := (List.range (b - a).toNat).map fun i => a + (i : Nat)
theorem rgV_ints (a b : Int) : rgV a b = (rgI a b).map V.int := by unfold rgV rgI; rw [List.map_map]; rfl
def tListRg (T : TRW) : TW := fun S G R => T S G fun i j G1 => RgOk i j ∧ ∀ p, G1 p = none → R (.ref p) (updG G1 p (.lst ((rgI i j).map W.int)))
def tTupleRg (T : TRW) : TW := fun S G R => T S G fun i j G1 => RgOk i j ∧ R (.tup ((rgI i j).map W.int)) G1
theorem we_listRg {T : TRW} {p : Pos} (hc : X.calm = true) (hg : Gl X "list") (hm : X.mg "list" = none) (he : WR X Z e T) (na : starEach [e] X.env = (false, eval e X.env) :: starEach [] X.env := by rfl) : WE X Z (.Call (.Name "list" p) [e] [] pos) (tListRg T) := (pe_listRg hc hg hm he na).weak fun σ H Q h => by
  obtain ⟨S, G, R, sr, t, k⟩ := h
  refine ⟨S, G, _, sr, t, fun i j G1 H1 t1 f1 h1 => ⟨t1.1, fun q hq => ?_⟩⟩
  rw [rgV_ints]
  exact k _ _ _ _ (t1.2 q (h1.free hq)) (f1.trans (.newG hq)) (.ref _) (h1.newG hq ⟨_, upd_same, RVs.of_ints _⟩)
theorem we_tupleRg {T : TRW} {p : Pos} (hc : X.calm = true) (hg : Gl X "tuple") (hm : X.mg "tuple" = none) (he : WR X Z e T) (na : starEach [e] X.env = (false, eval e X.env) :: starEach [] X.env := by rfl) : WE X Z (.Call (.Name "tuple" p) [e] [] pos) (tTupleRg T) := (pe_tupRg hc hg hm he na).weak fun σ H Q h => by
  obtain ⟨S, G, R, sr, t, k⟩ := h
  refine ⟨S, G, _, sr, t, fun i j G1 H1 t1 f1 h1 => ⟨t1.1, fun q hq => ?_⟩⟩
  rw [rgV_ints]
  exact k _ _ _ _ t1.2 (f1.trans (.new hq)) (.tup upd_same (RVs.of_ints _)) (h1.new hq)
def intsOf : List W → Option (List Int)
  | [] => some []
  | .int i :: r => (intsOf r).map (i :: ·)
  | _ :: _ => none
theorem intsOf_map : ∀ ns : List Int, intsOf (ns.map W.int) = some ns
  | [] => rfl
  | n :: ns => by rw [List.map_cons, intsOf, intsOf_map ns]; rfl
theorem ints_of : ∀ {ws : List W} {ns : List Int}, intsOf ws = some ns → ws = ns.map W.int
  | [], ns, h => by cases h; rfl
  | w :: ws, ns, h => by
    cases w with
    | int i =>
      unfold intsOf at h
      cases q : intsOf ws with
      | none => rw [q] at h; cases h
      | some ms => rw [q] at h; cases h; rw [ints_of q]; rfl
    | _ => cases h
def sortedW : CW := fun ws G R => match ws with
  | [.ref p] => match G p with
    | some (.lst xs) => match intsOf xs with
      | some ns => ∀ ms : List Int, ms.Perm ns → ms.Pairwise (· ≤ ·) → ∀ q, G q = none → R (.ref q) (updG G q (.lst (ms.map W.int)))
      | none => False
    | _ => False
  | [.fl xs] => match intsOf xs with
    | some ns => ∀ ms : List Int, ms.Perm ns → ms.Pairwise (· ≤ ·) → ∀ q, G q = none → R (.ref q) (updG G q (.lst (ms.map W.int)))
    | none => False
  | _ => False
theorem sorted_go {H : Hp} {G : GH} {R : KW} {Q : VK} {a : Addr} {ns : List Int} (rh : RH K H G) (k : LK K G H R Q) (h : SqL K H a (ns.map V.int)) (t : ∀ ms : List Int, ms.Perm ns → ms.Pairwise (· ≤ ·) → ∀ q, G q = none → R (.ref q) (updG G q (.lst (ms.map W.int)))) : rSortedI K [.ref a] H Q :=
  ⟨a, ns, rfl, h, fun ms q pm pw hq => k _ _ _ _ (t ms pm pw q (rh.free hq)) (.newG hq) (.ref _) (rh.newG hq ⟨_, upd_same, RVs.of_ints _⟩)⟩
theorem call_sortedW : CallW X (.builtin "sorted") sortedW := by
  intro pins s σ H xs us Q I r h
  obtain ⟨ws, G, R, rs, rh, t, k⟩ := h
  unfold sortedW at t
  split at t
  · split at t
    · rename_i p ys e
      split at t
      · rename_i ns en
        obtain ⟨v, rfl, rv⟩ := rs.one
        cases rv
        obtain ⟨vs, hv, rr⟩ := rh _ _ e
        have e2 := ints_of en
        subst e2
        rw [rr.ints] at hv
        exact cr_sortedI pins s σ H _ us Q I r (sorted_go rh k (SqL.of hv) t)
      · exact t.elim
    · exact t.elim
  · rename_i ys
    split at t
    · rename_i ns en
      obtain ⟨v, rfl, rv⟩ := rs.one
      have e2 := ints_of en
      subst e2
      cases rv with
      | fl q rr =>
        rw [rr.ints] at q
        exact cr_sortedI pins s σ H _ us Q I r (sorted_go rh k q.seq t)
    · exact t.elim
  · exact t.elim
def revW (w : W) (G : GH) (R : KW) : Prop := match w with
  | .tup xs => R (.tup xs.reverse) G
  | .fl xs => ∀ q, G q = none → R (.ref q) (updG G q (.lst xs.reverse))
  | .ref p => match G p with
    | some (.lst xs) => ∀ q, G q = none → R (.ref q) (updG G q (.lst xs.reverse))
    | _ => False
  | _ => False
def tRevW (Ta : TW) : TW := fun S G R => Ta S G fun w G1 => revW w G1 R
theorem slice_back {prog : Program} {w : World} {A : Around} {E : Value → Shared → Prop} {s : Shared} {sl : Addr} {vs : Value} {n : Nat} {Q : Int × Int × Nat → Shared → Prop} (hs : s.heap.IsSliceOf sl .none .none vs) (ps : IsPart vs (some (-1))) (h : Q ((n : Int) - 1, -1, n) s) :
    wpAny (model prog w) A (Builtin.Slice.sliceApplied (.ref sl) (pure (n : Int))) Q E s := by
  obtain ⟨os, hos, hcs, hds⟩ := id hs
  cases ps with
  | int i t =>
    unfold Builtin.Slice.sliceApplied Builtin.Slice.sliceFields
    refine wpAny_bind (wpAny_bind (wpAny_field hos hds (x := .none) rfl (wpAny_bind (wpAny_field hos hds (x := .none) rfl (wpAny_bind (wpAny_field hos hds (x := .int (-1) t) rfl (wpAny_pure ?_)))))))
    refine wpAny_bind (HT.slicePart_ (.int (-1) t) ?_)
    show wpAny _ _ (if ((-1 : Int) == 0) = true then _ else _) _ _ s
    rw [if_neg (by decide)]
    refine wpAny_bind (HT.slicePart_ .none (wpAny_bind (HT.slicePart_ .none (wpAny_bind (wpAny_pure (wpAny_pure ?_))))))
    have e : Builtin.Slice.slicePlaces ((n : Int) - 1) (-1) (-1) = n := by
      unfold Builtin.Slice.slicePlaces
      rw [if_neg (by decide), show (-(-1) : Int) = 1 by decide, Int.ediv_one]
      split <;> omega
    show Q ((n : Int) - 1, -1, Builtin.Slice.slicePlaces ((n : Int) - 1) (-1) (-1)) s
    rw [e]
    exact h
theorem fm_congr {α β : Type} {f g : α → Option β} : ∀ l : List α, (∀ x ∈ l, f x = g x) → l.filterMap f = l.filterMap g
  | [], _ => rfl
  | x :: l, h => by rw [List.filterMap_cons, List.filterMap_cons, h x List.mem_cons_self, fm_congr l fun y hy => h y (List.mem_cons_of_mem _ hy)]
theorem pick_back (xs : Array Value) : ((List.range xs.size).filterMap fun (m : Nat) => xs[((xs.size : Int) - 1 + (m : Int) * (-1)).toNat]?).toArray = xs.toList.reverse.toArray := by
  have e := PySem.W.krv_pick xs
  unfold slicePick at e
  rw [PySem.W.krv_bounds] at e
  rw [← e]
  show _ = ((sliceRange ((xs.size : Int) - 1) (-1) (-1)).filterMap (xs[·]?)).toArray
  rw [PySem.W.krv_sliceRange, List.filterMap_map]
  congr 1
  refine fm_congr _ fun m hm => ?_
  dsimp only [Function.comp]
  have := List.mem_range.mp hm
  show xs[((xs.size : Int) - 1 + (m : Int) * (-1)).toNat]? = xs[xs.size - 1 - m]?
  congr 1
  omega
theorem tuple_back {prog : Program} {w : World} {A : Around} {E : Value → Shared → Prop} {s : Shared} {t sl : Addr} {items : Array Value} {vs : Value} {Q : Value → Shared → Prop} (ht : IsTup s.heap t items) (hs : s.heap.IsSliceOf sl .none .none vs) (ps : IsPart vs (some (-1)))
    (h : Q (.ref s.heap.objs.size) { s with heap := s.heap.push { cls := .type "tuple", data := .seq items.toList.reverse.toArray } }) (hsz : items.size ≤ sizeLine) : wpAny (model prog w) A (getItem (.ref t) (.ref sl)) Q E s := by
  have small : sizeOk (.seq items.toList.reverse.toArray) := by
    show items.toList.reverse.toArray.size ≤ sizeLine
    rw [List.size_toArray, List.length_reverse, Array.length_toList]
    exact hsz
  obtain ⟨os, hos, hcs, hds⟩ := id hs
  unfold getItem
  try with_reducible refine wpAny_holding ?_
  first | refine wpAny_bind (wpAny_pure ?_) | skip
  refine wpAny_bind (wpAny_sequenceKey ht.typeIs (by decide) ?_)
  refine wpAny_bind (wpAny_callSpecial?_slot (name := Str.ofString "__getitem__") ht.typeIs PyProof.Rows.slot_tuple_getitem (wpAny_call_entry PyProof.Rows.slot_tuple_getitem ht.typeIs entry_tuple_getitem ?_ (args_tuple_getitem _ _)))
  show wpAny _ _ (Builtin.Tuple.tupleItemsOf (.ref t) >>= _) _ _ s
  refine wpAny_bind (tupleItemsOf_ ht (wpAny_bind (wpAny_typeOf (T := "slice") ⟨os, hos, hcs⟩ ?_)))
  rw [if_pos (by decide)]
  refine wpAny_bind (slice_back hs ps ?_)
  show wpAny _ _ (if ((items.size : Int) - 1 == 0 && (-1 : Int) == 1 && items.size == items.size) = true then _ else _) _ _ s
  rw [if_neg (by simp), pick_back]
  first
    | exact wpAny_bind (m := Builtin.Tuple.tupleExact _) (wpAny_newObj_type (wpAny_pure ⟨_, rfl, wpAny_pure h⟩) small)
    | exact wpAny_bind (m := Builtin.Tuple.tupleExact _) (wpAny_newObj_type (wpAny_bind (wpAny_pure (wpAny_pure ⟨_, rfl, wpAny_pure h⟩))) small)
    | exact wpAny_bind (wpAny_bind (m := Builtin.Tuple.tupleExact _) (wpAny_newObj_type (wpAny_pure (wpAny_pure ⟨_, rfl, wpAny_pure h⟩)) small))
    | exact wpAny_bind (wpAny_bind (m := Builtin.Tuple.tupleExact _) (wpAny_newObj_type (wpAny_pure ⟨_, rfl, wpAny_pure h⟩) small))
def tRevA (K : PySem.W.Frag) (te : TE) : TE := fun σ H Q => te σ H fun x H1 => ∃ a xs, x = .ref a ∧ ((SqL K H1 a xs ∧ ∀ p, H1 p = none → Q (.ref p) (upd H1 p (.lst xs.reverse))) ∨ (SqT K H1 a xs ∧ ∀ p, H1 p = none → Q (.ref p) (upd H1 p (.tup xs.reverse))))
theorem pe_revA {te : TE} {k : Nat} {p1 p2 p3 : Pos} (he : PE X e te) : PE X (.Subscript e (.Slice none none (some (.UnaryOp .USub (.Constant (.int 1) k p1) p2)) p3) pos) (tRevA X.K te) := by
  refine ⟨fun pins s σ H Q I h => Subscript_ (thn (he.run pins s σ H _ I h) fun v s1 ⟨x, H1, I1, r1, a, xs, ex, q⟩ => ?_)⟩
  subst ex
  cases r1
  have st : PO X (some (.UnaryOp .USub (.Constant (.int 1) k p1) p2)) (tPart (tUn (rU fun i => .int (-i)) (tC (.int 1)))) := po_some (pe_un un_neg pe_int)
  refine wpAny_Slice (thn (po_none.run pins s1 σ H1 (fun o H2 => o = none ∧ H2 = H1) I1 ⟨rfl, rfl⟩) fun vl s2 ⟨l, H2, I2, pl, el, e2⟩ => ?_)
  subst el e2
  refine thn (po_none.run pins s2 σ H2 (fun o H3 => o = none ∧ H3 = H2) I2 ⟨rfl, rfl⟩) fun vu s3 ⟨u, H3, I3, pu, eu, e3⟩ => ?_
  subst eu e3
  refine thn (st.run pins s3 σ H3 (fun o H4 => o = some (-1) ∧ H4 = H3) I3 ⟨1, rfl, -1, rfl, rfl, rfl⟩) fun vs s4 ⟨o, H4, I4, ps, eo, e4⟩ => ?_
  subst eo e4
  have I5 : Inv X pins σ H4 { s4 with heap := s4.heap.push { cls := .type "slice", data := .fields #[vl, vu, vs] } } := I4.kept (t' := s4.toks) fun b ob q => Heap.get?_push_of_some _ q
  show wpAny (model X.prog X.w) X.A (subscriptTail e (.Slice none none (some (.UnaryOp .USub (.Constant (.int 1) k p1) p2)) p3) (.ref a) (.ref s4.heap.objs.size)) (EP X pins σ Q) X.xe { s4 with heap := s4.heap.push { cls := .type "slice", data := .fields #[vl, vu, vs] } }
  rcases q with ⟨hx, q⟩ | ⟨hx, q⟩
  · obtain ⟨its, r, ht, hz⟩ := I5.list hx
    refine tail_any (ops := [.ref a, .ref s4.heap.objs.size]) ht.isList.typeIs (PySem.slot_list_getitem.lookup) (wpAny_getItem_list_slice ht.isList (Heap.IsSliceOf.new _ vl vu vs) pl pu ps (by decide) ?_ (by rw [List.size_toArray, ← r.length]; exact hz)) (by with_unfolding_all rfl)
    rw [PySem.W.krv_pick]
    refine ⟨.ref _, _, I5.laid (t' := s4.toks) (o := .lst xs.reverse) (fun b ob q => Heap.get?_push_of_some _ q) (Nat.le_refl _) ?_, rfl, q _ (I5.hok.fresh (Nat.le_refl _))⟩
    exact ⟨by rw [List.length_reverse]; exact hz, _, 0, r.reverse, Heap.get?_push_size _ rfl⟩
  · obtain ⟨its, r, ht, hz⟩ := I5.tuple hx
    cases pl
    cases pu
    refine tail_any (ops := [.ref a, .ref s4.heap.objs.size]) ht.typeIs (PyProof.Rows.slot_tuple_getitem.lookup) (tuple_back ht (Heap.IsSliceOf.new _ .none .none vs) ps ?_ (by rw [List.size_toArray, ← r.length]; exact hz)) (by with_unfolding_all rfl)
    refine ⟨.ref _, _, I5.laid (t' := s4.toks) (o := .tup xs.reverse) (fun b ob q => Heap.get?_push_of_some _ q) (Nat.le_refl _) ?_, rfl, q _ (I5.hok.fresh (Nat.le_refl _))⟩
    exact ⟨by rw [List.length_reverse]; exact hz, _, r.reverse, IsTup.new _ _⟩
theorem we_rev {k : Nat} {p1 p2 p3 : Pos} (he : WE X Z e Ta) : WE X Z (.Subscript e (.Slice none none (some (.UnaryOp .USub (.Constant (.int 1) k p1) p2)) p3) pos) (tRevW Ta) := (pe_revA he).weak fun σ H Q h => by
  obtain ⟨S, G, R, sr, t, k⟩ := h
  refine Lf.go sr t fun w G1 v H1 t1 f1 r1 h1 => ?_
  unfold revW at t1
  split at t1
  · cases r1 with
    | tup q rs => exact ⟨_, _, rfl, .inr ⟨SqT.of q, fun p hp => k _ _ _ _ t1 (f1.trans (.new hp)) (.tup upd_same ((rs.mono (.new hp) h1).rev)) (h1.new hp)⟩⟩
  · cases r1 with
    | fl q rs => exact ⟨_, _, rfl, .inl ⟨q.seq, fun p hp => k _ _ _ _ (t1 p (h1.free hp)) (f1.trans (.newG hp)) (.ref _) (h1.newG hp ⟨_, upd_same, (rs.mono (.newG (G := G1) (o := .lst []) hp) h1).rev⟩)⟩⟩
  · rename_i p
    cases r1
    split at t1
    · rename_i ys eg
      obtain ⟨vs, hv, rs⟩ := h1 _ _ eg
      exact ⟨_, _, rfl, .inl ⟨SqL.of hv, fun p hp => k _ _ _ _ (t1 p (h1.free hp)) (f1.trans (.newG hp)) (.ref _) (h1.newG hp ⟨_, upd_same, (rs.mono (.newG (G := G1) (o := .lst []) hp) h1).rev⟩)⟩⟩
    · exact t1.elim
  · exact t1.elim
def tDict0 : TW := fun S G R => ∀ p, G p = none → R (.ref p) (updG G p (.dK []))
theorem we_dict0 : WE X Z (.Dict [] [] pos) tDict0 := pe_dnewK.weak fun σ H Q h => by
  obtain ⟨S, G, R, sr, t, k⟩ := h
  exact fun p hp => k _ _ _ _ (t p (sr.rh.free hp)) (.newG hp) (.ref _) (sr.rh.newG hp ⟨[], upd_same, .nil⟩)
def pairsOf : List W → Option (List (Key × W))
  | [] => some []
  | .tup [k, v] :: r => match k.key?, pairsOf r with
    | some c, some m => some ((c, v) :: m)
    | _, _ => none
  | _ :: _ => none
def mergeW (acc : List (Key × W)) : List (Key × W) → List (Key × W)
  | [] => acc
  | kv :: r => mergeW (putW acc kv.1 kv.2) r
theorem mergeW_rkv {H : Hp} : ∀ {kvs : List (Key × V)} {kws : List (Key × W)} {av : List (Key × V)} {aw : List (Key × W)}, RKV K H kvs kws → RKV K H av aw → RKV K H (mergeK av kvs) (mergeW aw kws)
  | _, _, _, _, .nil, r => r
  | (c, v) :: kvs, (c', w) :: kws, av, aw, .cons ⟨e, q⟩ t, r => by
    have e' : c = c' := e
    subst e'
    exact mergeW_rkv (kvs := kvs) (kws := kws) (av := putK av c v) (aw := putW aw c w) t (RKV.put r q)
theorem key_val {H : Hp} {v : V} {w : W} {c : Key} (r : RV K H v w) (h : w.key? = some c) : v = kV c := by
  have ew := key_of? h
  subst ew
  cases c <;> (cases r; rfl)
def fDict : CF := fun ws G R => match pairsOf ws with
  | some kws => ∀ p, G p = none → R (.ref p) (updG G p (.dK (mergeW [] kws)))
  | none => False
end
end WL
set_option Elab.async false
set_option linter.all false
set_option maxRecDepth 100000
set_option maxHeartbeats 4000000
namespace WL
open PySem PySem.Spec PyProof.Rows L2
theorem perm_of : ∀ (A L : List Int), A.Nodup → (∀ a ∈ A, a ∈ L) → L.length = A.length → A.Perm L
  | [], L, _, _, h => by
    have : L = [] := List.length_eq_zero_iff.mp h
    rw [this]
  | a :: A, L, nd, sub, h => by
    have ha := sub a List.mem_cons_self
    have nd' := List.nodup_cons.mp nd
    have hl : (L.erase a).length = A.length := by
      rw [List.length_erase_of_mem ha, h]; simp
    have ih := perm_of A (L.erase a) nd'.2 (fun x hx => (List.mem_erase_of_ne (fun e => nd'.1 (by rw [← e]; exact hx))).mpr (sub x (List.mem_cons_of_mem _ hx))) hl
    exact (List.Perm.cons a ih).trans (List.perm_cons_erase ha).symm
theorem rgI_mem {a b x : Int} : x ∈ rgI a b ↔ a ≤ x ∧ x < b := by
  unfold rgI
  rw [List.mem_map]
  constructor
  · rintro ⟨i, hi, rfl⟩
    have := List.mem_range.mp hi
    omega
  · rintro ⟨h1, h2⟩
    exact ⟨(x - a).toNat, List.mem_range.mpr (by omega), by omega⟩
theorem rgI_length {a b : Int} : (rgI a b).length = (b - a).toNat := by unfold rgI; rw [List.length_map, List.length_range]
theorem rgI_nodup (a b : Int) : (rgI a b).Nodup := by
  unfold rgI
  rw [List.Nodup, List.pairwise_map]
  exact List.Pairwise.imp (fun h => by omega) List.pairwise_lt_range
def ded (acc : List Key) : List Key → List Key
  | [] => acc
  | k :: ks => ded (if k ∈ acc then acc else acc ++ [k]) ks
theorem ded_len : ∀ (ks acc : List Key), (ded acc ks).length ≤ acc.length + ks.length ∧ ((ded acc ks).length = acc.length + ks.length ↔ ks.Nodup ∧ ∀ k ∈ ks, k ∉ acc)
  | [], acc => ⟨by simp [ded], by simp [ded]⟩
  | k :: ks, acc => by
    unfold ded
    by_cases h : k ∈ acc
    · rw [if_pos h]
      have ih := ded_len ks acc
      refine ⟨by rw [List.length_cons]; omega, ⟨fun e => ?_, fun e => absurd h (e.2 k List.mem_cons_self)⟩⟩
      rw [List.length_cons] at e
      omega
    · rw [if_neg h]
      have ih := ded_len ks (acc ++ [k])
      rw [List.length_append, List.length_singleton] at ih
      refine ⟨by rw [List.length_cons]; omega, ?_⟩
      rw [List.length_cons, show acc.length + (ks.length + 1) = acc.length + 1 + ks.length by omega, ih.2, List.nodup_cons]
      constructor
      · rintro ⟨h1, h2⟩
        refine ⟨⟨fun m => h2 k m (by simp), h1⟩, fun j hj => ?_⟩
        rcases List.mem_cons.mp hj with rfl | hj
        · exact h
        · exact fun m => h2 j hj (by simp [m])
      · rintro ⟨⟨h1, h2⟩, h3⟩
        refine ⟨h2, fun j hj m => ?_⟩
        rcases List.mem_append.mp m with m | m
        · exact h3 j (List.mem_cons_of_mem _ hj) m
        · exact h1 (by rw [← List.mem_singleton.mp m]; exact hj)
theorem ded_nodup (ks : List Key) : (ded [] ks).length = ks.length ↔ ks.Nodup := by
  have := (ded_len ks []).2
  simp only [List.length_nil, Nat.zero_add, List.not_mem_nil, not_false_eq_true, implies_true, and_true] at this
  exact this
theorem compK_pure {α : Type} {f : α → W} {v : α → Key} {Gd : GH → Prop} {g : TGW} {te : TW} {S0 : WSt} {R : List Key → GH → Prop} {G : GH} (hg : Gd G) :
    ∀ (xs : List α) (acc : List Key), acc.length + xs.length + 1 < scanBound → (∀ x ∈ xs, ∀ (R' : KW), (∀ w, w.key? = some (v x) → R' w G) → g (f x) S0 G fun S2 G2 => te S2 G2 R') →
    R (ded acc (xs.map v)) G → compK Gd g tYesW te S0 R (xs.map f) G acc
  | [], acc, _, _, r => ⟨hg, r⟩
  | x :: xs, acc, hl, st, r => by
    rw [List.length_cons] at hl
    refine ⟨hg, st x List.mem_cons_self _ fun w hw => ⟨v x, hw, by omega, ?_⟩⟩
    refine compK_pure hg xs _ ?_ (fun y hy => st y (List.mem_cons_of_mem _ hy)) r
    split
    · omega
    · rw [List.length_append, List.length_singleton]; omega
theorem tyW_ext {w : W} {G G' : GH} {t : Ty} (x : ExtG G G') (h : tyW w G = some t) : tyW w G' = some t := by
  unfold tyW at h ⊢
  cases w with
  | ref p =>
    dsimp only at h ⊢
    cases e : G p with
    | none => rw [e] at h; cases h
    | some o => rw [x p o e]; rw [e] at h; exact h
  | _ => exact h
theorem compW_pureW {v : W → W} {Gd : GH → Prop} {g : TGW} {te : TW} {S0 : WSt} {R : List W → GH → Prop} {G : GH} {xs : List W} (hg : Gd G) (hl : xs.length ≤ sizeLine)
    (st : ∀ x ∈ xs, ∀ (R' : KW), R' (v x) G → g x S0 G fun S2 G2 => te S2 G2 R') (fin : R (xs.map v) G) : compW Gd g tYesW te S0 R xs G [] := by
  have := compW_pure (f := id) (v := v) (R := R) hg xs [] (by simpa using hl) st (by simpa using fin)
  rw [List.map_id] at this
  exact this
theorem compK_pureW {v : W → Key} {Gd : GH → Prop} {g : TGW} {te : TW} {S0 : WSt} {R : List Key → GH → Prop} {G : GH} {xs : List W} (hg : Gd G) (hl : xs.length < 4000)
    (st : ∀ x ∈ xs, ∀ (R' : KW), (∀ w, w.key? = some (v x) → R' w G) → g x S0 G fun S2 G2 => te S2 G2 R') (fin : R (ded [] (xs.map v)) G) : compK Gd g tYesW te S0 R xs G [] := by
  have := compK_pure (f := id) (v := v) (R := R) hg xs [] (by unfold scanBound; simp; omega) st fin
  rw [List.map_id] at this
  exact this
theorem KeepG.get {d p : Addr} {G G' : GH} {o : GO} (k : KeepG d G G') (n : p ≠ d) (h : G p = some o) : G' p = some o := k _ _ n h
mutual
theorem PD.ext {G G' : GH} (x : ExtG G G') : ∀ {w : W} {d : PyData}, PD G w d → PD G' w d
  | _, _, .non => .non
  | _, _, .bl b => .bl b
  | _, _, .int b => .int b
  | _, _, .str b => .str b
  | _, _, .tup q => .tup (PDs.ext x q)
  | _, _, .kt q => .kt (PDs.ext x q)
  | _, _, .fl q => .fl (PDs.ext x q)
  | _, _, .lst e q => .lst (x _ _ e) (PDs.ext x q)
theorem PDs.ext {G G' : GH} (x : ExtG G G') : ∀ {w : List W} {d : List PyData}, PDs G w d → PDs G' w d
  | _, _, .nil => .nil
  | _, _, .cons q r => .cons (PD.ext x q) (PDs.ext x r)
end
theorem PD.ty {G : GH} {w : W} {d : PyData} (h : PD G w d) : tyW w G ≠ none := by
  cases h with
  | lst e q =>
    unfold tyW
    dsimp only
    rw [e]
    simp
  | _ => simp [tyW]
def Dat (G : GH) (w : W) : Prop := ∃ d, PD G w d ∧ d.depth ≤ 50
theorem Dat.ext {G G' : GH} {w : W} (x : ExtG G G') (h : Dat G w) : Dat G' w := let ⟨d, p, q⟩ := h; ⟨d, p.ext x, q⟩
theorem dats {G : GH} : ∀ {L : List W}, (∀ x ∈ L, Dat G x) → ∃ ds, PDs G L ds ∧ ∀ d ∈ ds, d.depth ≤ 50
  | [], _ => ⟨[], .nil, by simp⟩
  | x :: L, h => by
    obtain ⟨d, p, q⟩ := h x List.mem_cons_self
    obtain ⟨ds, ps, qs⟩ := dats fun y hy => h y (List.mem_cons_of_mem _ hy)
    exact ⟨d :: ds, .cons p ps, fun e he => by
      rcases List.mem_cons.mp he with rfl | he
      · exact q
      · exact qs e he⟩
theorem dat_tup {G : GH} {xs : List W} {B : Nat} (h : ∀ x ∈ xs, ∃ d, PD G x d ∧ d.depth ≤ B) (hB : B < 50) : Dat G (.tup xs) := by
  have : ∀ {L : List W}, (∀ x ∈ L, ∃ d, PD G x d ∧ d.depth ≤ B) → ∃ ds, PDs G L ds ∧ ∀ d ∈ ds, d.depth ≤ B := by
    intro L
    induction L with
    | nil => intro _; exact ⟨[], .nil, by simp⟩
    | cons x L ih =>
      intro h
      obtain ⟨d, p, q⟩ := h x List.mem_cons_self
      obtain ⟨ds, ps, qs⟩ := ih fun y hy => h y (List.mem_cons_of_mem _ hy)
      exact ⟨d :: ds, .cons p ps, fun e he => by
        rcases List.mem_cons.mp he with rfl | he
        · exact q
        · exact qs e he⟩
  obtain ⟨ds, ps, qs⟩ := this h
  exact ⟨_, .tup ps, by rw [PyData.depth]; have := depthAll_le qs; omega⟩
theorem dat_int {G : GH} (i : Int) : Dat G (.int i) := ⟨_, .int i, Nat.zero_le _⟩
theorem ixN_nat {n : Nat} {i : Int} (h0 : 0 ≤ i) (h1 : i < n) : ixN n i = some i.toNat := by
  unfold ixN
  rw [if_pos h0, if_pos h1]
theorem seqIndex_nat {n : Nat} {i : Int} (h0 : 0 ≤ i) (h1 : i < n) : seqIndex? i n = some i.toNat := by
  unfold seqIndex?
  first
  | (simp only [show ¬ i < 0 by omega, if_false]; rw [if_pos (by omega)])
  | (simp; omega)
theorem cutG_lo {α : Type} {f : α → W} {L : List α} {v : Int} (h0 : 0 ≤ v) (h1 : v ≤ L.length) : cutG (L.map f) (some v) none = (L.drop v.toNat).map f := by
  have e : HT.sIx L.length 0 (some v) = v.toNat := by
    show (if v < 0 then (v + (L.length : Int)).toNat else min v.toNat L.length) = _
    rw [if_neg (by omega)]; omega
  unfold cutG
  rw [List.length_map, e, show HT.sIx L.length L.length none = L.length from rfl, List.map_drop, List.take_of_length_le (by rw [List.length_drop, List.length_map]; exact Nat.le_refl _)]
theorem cutG_hi {α : Type} {f : α → W} {L : List α} {v : Int} (h0 : 0 ≤ v) (h1 : v ≤ L.length) : cutG (L.map f) none (some v) = (L.take v.toNat).map f := by
  have e : HT.sIx L.length L.length (some v) = v.toNat := by
    show (if v < 0 then (v + (L.length : Int)).toNat else min v.toNat L.length) = _
    rw [if_neg (by omega)]; omega
  unfold cutG
  rw [List.length_map, e, show HT.sIx L.length 0 none = 0 from rfl, List.drop_zero, Nat.sub_zero, List.map_take]
theorem cutG_last {α : Type} {f : α → W} {L : List α} : cutG (L.map f) none (some (-1)) = (L.dropLast).map f := by
  have e : HT.sIx L.length L.length (some (-1)) = L.length - 1 := by
    show (if (-1 : Int) < 0 then ((-1 : Int) + (L.length : Int)).toNat else min (-1 : Int).toNat L.length) = _
    rw [if_pos (by decide)]; omega
  unfold cutG
  rw [List.length_map, e, show HT.sIx L.length 0 none = 0 from rfl, List.drop_zero, Nat.sub_zero, List.dropLast_eq_take, List.map_take]
theorem erase_map {α β : Type} {f : α → β} : ∀ (l : List α) (i : Nat), (l.map f).eraseIdx i = (l.eraseIdx i).map f
  | [], _ => rfl
  | _ :: _, 0 => rfl
  | x :: l, i + 1 => by
    show f x :: (l.map f).eraseIdx i = f x :: (l.eraseIdx i).map f
    rw [erase_map l i]
def delG (G : GH) (p : Addr) : GH := fun b => if b = p then none else G b
theorem delG_ext {G : GH} {p : Addr} : ExtG (delG G p) G := fun a o e => by
  unfold delG at e
  split at e
  · cases e
  · exact e
theorem forW_inv {Gd : GH → Prop} {g : TGW} {tb : TWS} {D : WEnds} (I : List W → WSt → GH → Prop)
    (step : ∀ x xs S G, I (x :: xs) S G → ∀ N : WSt → GH → Prop, (∀ S' G', I xs S' G' → N S' G') → Gd G ∧ g x S G fun S1 G1 => tb { D with nx := N, ct := N, bk := D.nx } S1 G1)
    (fin : ∀ S G, I [] S G → Gd G ∧ D.nx S G) : ∀ xs S G, I xs S G → forW Gd g tb D xs S G
  | [], S, G, h => fin S G h
  | x :: xs, S, G, h => step x xs S G h _ fun S' G' h' => forW_inv I step fin xs S' G' h'
theorem Dat.del {G : GH} {p : Addr} {w : W} (h : Dat (delG G p) w) : Dat G w := h.ext delG_ext
end WL
set_option Elab.async false
set_option linter.all false
set_option maxRecDepth 100000
set_option maxHeartbeats 4000000
namespace WL
open PySem PySem.Spec PyProof.Rows L2 PySem.W
def absI (n : Int) : Int := if n < 0 then -n else n
section
variable {prog : Program} {w : World} {A : Around} {E : Value → Shared → Prop} {s : Shared}
end
section
variable {X : Cx} {Z : GH × Hp} {e : Expr} {te : TE} {Ta : TW} {pos p p2 kpos : Pos}
end
end WL
set_option Elab.async false
set_option linter.all false
set_option maxRecDepth 100000
set_option maxHeartbeats 4000000
namespace WL
open PySem PySem.Spec PyProof.Rows L2
def compD (Gd : GH → Prop) (g : TGW) (tt : TWT) (tk tv : TW) (S0 : WSt) (R : List (Key × W) → GH → Prop) : List W → GH → List (Key × W) → Prop
  | [], G, acc => Gd G ∧ R acc G
  | x :: xs, G, acc => Gd G ∧ g x S0 G fun S2 G2 => tt S2 G2 fun b G3 => if b = true then tk S2 G3 fun k G4 => tv S2 G4 fun v G5 => ∃ c, k.key? = some c ∧ acc.length < sizeLine ∧ compD Gd g tt tk tv S0 R xs G5 (putW acc c v) else compD Gd g tt tk tv S0 R xs G3 acc
def tDictC (ti : TIW) (g : TGW) (tt : TWT) (tk tv : TW) (vs : List Nat) : TW := fun S G R => ti S G fun items Gd G1 => compD Gd g tt tk tv (wipeW S vs) (fun acc G2 => ∀ D, G2 D = none → R (.ref D) (updG G2 D (.dK acc))) items G1 []
section
variable {X : Cx} {Z : GH × Hp} {pos : Pos}
theorem lfDictC {K : PySem.W.Frag} {ti : TIW} {gh : TG} {g : TGW} {tt : TWT} {tk tv : TW} {vs : List Nat} (gok : GOk K Z gh g vs) (σ : L2.St) (H : Hp) (Q : VK) (h : Lf K Z (tDictC ti g tt tk tv vs) σ H Q) : tDc (LfI K Z ti) gh (LfT K Z tt) (Lf K Z tk) (Lf K Z tv) vs σ H Q := by
  obtain ⟨S, G, R, sr, t, k⟩ := h
  refine ⟨S, G, _, sr, t, fun items Gd G1 J H1 t1 f1 h1 wi D hD => ?_⟩
  have hz : ∀ o, Z.2 D = some o → Z.1 D ≠ none := fun o e g => by
    have := ((sr.next f1 h1).tk D o e g).1
    rw [hD] at this; cases this
  have hz2 : ∀ o, H D = some o → G D ≠ none := fun o e g => by
    have := (f1 D o e g).1
    rw [hD] at this; cases this
  have gD : G1 D = none := h1.free hD
  refine ⟨fun i m H' => m = items.length - i ∧ i ≤ items.length ∧ ∃ G' acc kvs, H' D = some (.dK kvs) ∧ RKV K H' kvs acc ∧ G' D = none ∧ SR K Z (L2.wipe σ vs) H' (wipeW S vs) G' ∧ FR G1 H1 G' H' ∧ compD Gd g tt tk tv (wipeW S vs) (fun acc G2 => ∀ D, G2 D = none → R (.ref D) (updG G2 D (.dK acc))) (items.drop i) G' acc,
    ⟨items.length, by simp, Nat.zero_le _, G1, [], [], upd_same, .nil, gD, ((sr.next f1 h1).next (.new hD) (h1.new hD)).wipe vs, .new hD, t1⟩, ?_⟩
  rintro i m H2 ⟨rfl, hi, G2, acc, kvs, hd, rs, g2, sr2, f2, t2⟩
  by_cases hlt : i < items.length
  · rw [List.drop_eq_getElem_cons hlt] at t2
    obtain ⟨gd, t2⟩ := t2
    refine .inr ⟨wi.go i G2 H2 f2 sr2.rh gd hlt, fun H' => ∃ G' acc kvs, H' D = some (.dK kvs) ∧ RKV K H' kvs acc ∧ G' D = none ∧ SR K Z (L2.wipe σ vs) H' (wipeW S vs) G' ∧ FR G1 H1 G' H' ∧ compD Gd g tt tk tv (wipeW S vs) (fun acc G2 => ∀ D, G2 D = none → R (.ref D) (updG G2 D (.dK acc))) (items.drop (i + 1)) G' acc, ?_, fun x H3 y => ?_⟩
    · rintro H' ⟨G', acc', kvs', q⟩
      exact ⟨items.length - (i + 1), by omega, rfl, hlt, G', acc', kvs', q⟩
    · obtain ⟨f3, r3, h3⟩ := wi.yld i G2 H2 x H3 items[i] f2 sr2.rh gd (by simp [hlt]) y
      have sr3 := sr2.next f3 h3
      have kp := fun Q' => gok.keeps x (L2.wipe σ vs) H3 Q'
      simp only [wipe_wipe vs fun _ h => h] at kp
      refine kp _ (gok.lift _ _ _ _ (LfG.go r3 sr3 t2 fun S4 G4 σ4 H4 t4 sr4 f4 => ?_))
      refine LfT.go sr4 t4 fun b G5 H5 t5 f5 h5 => ?_
      have f25 : FR G2 H2 G5 H5 := f3.trans (f4.trans f5)
      have d5 := f25 D _ hd g2
      cases b with
      | false => exact iteF ⟨G5, acc, kvs, d5.1, RKV.mono f25 sr2.rh rs, d5.2, sr2.next f25 h5, f2.trans f25, t5⟩
      | true =>
        refine iteT (Lf.go (sr4.next f5 h5) t5 fun w6 G6 v6 H6 t6 f6 r6 h6 => ?_)
        refine Lf.go ((sr4.next f5 h5).next f6 h6) t6 fun w7 G7 v7 H7 t7 f7 r7 h7 => ?_
        have f27 := (f25.trans f6).trans f7
        have d7 := f27 D _ hd g2
        obtain ⟨c, hk, room, t7⟩ := t7
        have ev : v6 = kV c := key_val r6 hk
        refine ⟨kvs, c, ev, d7.1, by rw [RKV.length rs]; exact room, G7, putW acc c w7, putK kvs c v7, upd_same, ?_, d7.2, (sr2.next f27 h7).poke d7.1 trivial d7.2 hz, (f2.trans f27).poke (fun o e => by rw [hD] at e; cases e), t7⟩
        exact RKV.put (RKV.poke d7.1 trivial (RKV.mono f27 sr2.rh rs)) (RV.poke d7.1 trivial r7)
  · have e : i = items.length := by omega
    subst e
    rw [List.drop_length] at t2
    refine .inl ⟨wi.stop G2 H2 f2 sr2.rh t2.1, k _ _ _ _ (t2.2 D g2) (fun a o e g => ?_) (.ref D) (fun a o e => ?_)⟩
    · have ne : a ≠ D := fun z => by subst z; exact hz2 o e g
      obtain ⟨q1, q2⟩ := (f1.trans f2) a o e g
      exact ⟨q1, by rw [updG_ne ne]; exact q2⟩
    · by_cases z : a = D
      · subst z; rw [updG_same] at e; cases e; exact ⟨kvs, hd, rs⟩
      · rw [updG_ne z] at e; exact sr2.rh a o e
theorem we_dictC {kx vx tg iter : Expr} {ifs : List Expr} {scope : Scope} {own : List (Str × Nat)} {ti : TIW} {gh : TG} {g : TGW} {tt : TWT} {tk tv : TW} (hc : X.calm = true) (hN : X.N.Nodup) (hi : WI X Z tg iter ti) (ok : BlkOk X.N X.env.scope scope own) (gok : GOk X.K Z gh g (own.map (·.2)))
    (hg : ∀ (s : Shared) (H : Hp) (C : Addr) (cl : List (Str × Addr)) (fp : List Addr), PG (X.blk s H scope (compEnvC scope cl C X.env) fp) tg gh) (ht : ∀ (s : Shared) (H : Hp) (C : Addr) (cl : List (Str × Addr)) (fp : List Addr), PTsW (X.blk s H scope (compEnvC scope cl C X.env) fp) Z ifs tt)
    (hk : ∀ (s : Shared) (H : Hp) (C : Addr) (cl : List (Str × Addr)) (fp : List Addr), WE (X.blk s H scope (compEnvC scope cl C X.env) fp) Z kx tk) (he : ∀ (s : Shared) (H : Hp) (C : Addr) (cl : List (Str × Addr)) (fp : List Addr), WE (X.blk s H scope (compEnvC scope cl C X.env) fp) Z vx tv)
    (hs : ∀ x, foldedSetIterable iter X.env x = pure x := by intro _; rfl) : WE X Z (.DictComp kx vx [⟨tg, iter, ifs, 0⟩] scope pos) (tDictC ti g tt tk tv (own.map (·.2))) :=
  (pe_dc (tt := LfT X.K Z tt) (tk := Lf X.K Z tk) (tv := Lf X.K Z tv) hc hN hi ok hg ht hk he hs).weak (lfDictC gok)
end
end WL
set_option Elab.async false
set_option linter.all false
set_option maxRecDepth 100000
set_option maxHeartbeats 4000000
namespace WL
open PySem PySem.Spec PyProof.Rows L2
def zipP (xs ys : List W) : List W := (xs.zip ys).map fun p => .tup [p.1, p.2]
theorem zipP_len (xs ys : List W) : (zipP xs ys).length = min xs.length ys.length := by unfold zipP; simp
theorem zipP_get {xs ys : List W} {i : Nat} {w : W} (h : (zipP xs ys)[i]? = some w) : ∃ a b, xs[i]? = some a ∧ ys[i]? = some b ∧ w = .tup [a, b] := by
  unfold zipP at h
  rw [List.getElem?_map] at h
  cases e : (xs.zip ys)[i]? with
  | none => rw [e] at h; cases h
  | some p =>
    rw [e] at h; cases h
    have := List.getElem?_zip_eq_some.mp e
    exact ⟨p.1, p.2, this.1, this.2, rfl⟩
theorem wit_zipL {K : PySem.W.Frag} {G1 : GH} {H1 : Hp} {a b : Addr} {xs ys : List W} {Gd : GH → Prop} (h : ∀ G H, FR G1 H1 G H → RH K H G → Gd G → ∃ vs us, SqL K H a vs ∧ SqL K H b us ∧ RVs K H vs xs ∧ RVs K H us ys) : WIt K G1 H1 (Itz K a b) (zipP xs ys) Gd where
  go := fun i G H f rh g hi => by
    obtain ⟨vs, us, h1, h2, r1, r2⟩ := h G H f rh g
    rw [zipP_len] at hi
    obtain ⟨v, hv, _⟩ := r1.get (i := i) (w := xs[i]'(by omega)) (by simp)
    obtain ⟨u, hu, _⟩ := r2.get (i := i) (w := ys[i]'(by omega)) (by simp)
    exact ⟨vs, us, v, u, h1, h2, hv, hu⟩
  yld := fun i G H x H' w f rh g hw y => by
    obtain ⟨vs, us, h1, h2, r1, r2⟩ := h G H f rh g
    obtain ⟨T, x1, x2, rfl, nT, rfl, f1, f2⟩ := y
    obtain ⟨p, q, hp, hq, rfl⟩ := zipP_get hw
    obtain ⟨v, hv, rv⟩ := r1.get hp
    obtain ⟨u, hu, ru⟩ := r2.get hq
    have e1 := f1 vs h1
    have e2 := f2 us h2
    rw [hv] at e1; cases e1
    rw [hu] at e2; cases e2
    exact ⟨.new nT, .tup upd_same (.cons (rv.mono (.new nT) rh) (.cons (ru.mono (.new nT) rh) .nil)), rh.new nT⟩
  stop := fun G H f rh g => by
    obtain ⟨vs, us, h1, h2, r1, r2⟩ := h G H f rh g
    refine ⟨vs, us, h1, h2, ?_⟩
    rw [zipP_len, r1.length, r2.length]
    omega
theorem wit_zipT {K : PySem.W.Frag} {G1 : GH} {H1 : Hp} {a b : Addr} {xs ys : List W} {Gd : GH → Prop} (h : ∀ G H, FR G1 H1 G H → RH K H G → Gd G → ∃ vs us, SqT K H a vs ∧ SqT K H b us ∧ RVs K H vs xs ∧ RVs K H us ys) : WIt K G1 H1 (RZ.ItzT K a b) (zipP xs ys) Gd where
  go := fun i G H f rh g hi => by
    obtain ⟨vs, us, h1, h2, r1, r2⟩ := h G H f rh g
    rw [zipP_len] at hi
    obtain ⟨v, hv, _⟩ := r1.get (i := i) (w := xs[i]'(by omega)) (by simp)
    obtain ⟨u, hu, _⟩ := r2.get (i := i) (w := ys[i]'(by omega)) (by simp)
    exact ⟨vs, us, v, u, h1, h2, hv, hu⟩
  yld := fun i G H x H' w f rh g hw y => by
    obtain ⟨vs, us, h1, h2, r1, r2⟩ := h G H f rh g
    obtain ⟨T, x1, x2, rfl, nT, rfl, f1, f2⟩ := y
    obtain ⟨p, q, hp, hq, rfl⟩ := zipP_get hw
    obtain ⟨v, hv, rv⟩ := r1.get hp
    obtain ⟨u, hu, ru⟩ := r2.get hq
    have e1 := f1 vs h1
    have e2 := f2 us h2
    rw [hv] at e1; cases e1
    rw [hu] at e2; cases e2
    exact ⟨.new nT, .tup upd_same (.cons (rv.mono (.new nT) rh) (.cons (ru.mono (.new nT) rh) .nil)), rh.new nT⟩
  stop := fun G H f rh g => by
    obtain ⟨vs, us, h1, h2, r1, r2⟩ := h G H f rh g
    refine ⟨vs, us, h1, h2, ?_⟩
    rw [zipP_len, r1.length, r2.length]
    omega
def lstOf (w : W) (G : GH) : Option (List W × (GH → Prop)) := match w with
  | .fl xs => some (xs, tru1)
  | .ref p => match G p with
    | some (.lst xs) => some (xs, fun G => G p = some (.lst xs))
    | _ => none
  | _ => none
theorem lst_of {K : PySem.W.Frag} {H1 : Hp} {G1 : GH} {w : W} {v : V} {xs : List W} {Gd : GH → Prop} (h : lstOf w G1 = some (xs, Gd)) (rv : RV K H1 v w) (rh : RH K H1 G1) : ∃ a vs, v = .ref a ∧ SqL K H1 a vs ∧ ∀ G H, FR G1 H1 G H → RH K H G → Gd G → ∃ vs, SqL K H a vs ∧ RVs K H vs xs := by
  unfold lstOf at h
  cases w with
  | fl ys =>
    cases h
    cases rv with
    | fl q rs => exact ⟨_, _, rfl, q.seq, fun G H f r _ => ⟨_, (f.frz rh q).seq, rs.mono f rh⟩⟩
  | ref p =>
    cases rv
    dsimp only at h
    split at h
    · rename_i ys eg
      cases h
      obtain ⟨vs, hv, rs⟩ := rh _ _ eg
      exact ⟨_, vs, rfl, SqL.of hv, fun G H f r g => by
        obtain ⟨us, hu, ru⟩ := r _ _ g
        exact ⟨us, SqL.of hu, ru⟩⟩
    · cases h
  | _ => cases h
theorem RV.tup_of {K : PySem.W.Frag} {H : Hp} {G : GH} {v : V} {w : W} {xs : List W} (r : RV K H v w) (rh : RH K H G) (e : w.tup? = some xs) : ∃ a vs, v = .ref a ∧ SqT K H a vs ∧ ∀ G' H', FR G H G' H' → ∃ vs, SqT K H' a vs ∧ RVs K H' vs xs := by
  cases w with
  | tup ys =>
    cases e
    cases r with
    | tup q rs => exact ⟨_, _, rfl, SqT.of q, fun G' H' f => ⟨_, SqT.of (f.tup rh q), rs.mono f rh⟩⟩
  | kt ys =>
    cases e
    cases r with
    | kt q rs => exact ⟨_, _, rfl, q.seq, fun G' H' f => ⟨_, q.seq, rs.mono f rh⟩⟩
  | _ => cases e
def tIZip (Tr : TWA) : TIW := fun S G R => Tr S G fun ws G1 => match ws with
  | [w1, w2] => match lstOf w1 G1, lstOf w2 G1 with
    | some (xs, g1), some (ys, g2) => R (zipP xs ys) (fun G => g1 G ∧ g2 G) G1
    | _, _ => match w1.tup?, w2.tup? with
      | some xs, some ys => R (zipP xs ys) tru1 G1
      | _, _ => False
  | _ => False
section
variable {X : Cx} {Z : GH × Hp} {e e2 : Expr} {Tr : TWA} {p pos tpos : Pos} {elts : List Expr} {kk : Nat}
theorem wi_zip (hg : Gl X "zip") (hm : X.mg "zip" = none) (ha : WA X Z [e, e2] Tr) (hs : starEach [e, e2] X.env = (false, eval e X.env) :: starEach [e2] X.env := by rfl) (hpl : (backTo pos (starEach [e2] X.env)).any (·.1) = false := by rfl) :
    WI X Z (.Tuple elts kk tpos) (.Call (.Name "zip" p) [e, e2] [] pos) (tIZip Tr) := (RZ.pi_zipA hg hm ha hs hpl).weak fun σ H R h => by
  obtain ⟨S, G, R', sr, t, k⟩ := h
  refine LfA.go sr t fun ws G1 vs H1 t1 f1 rs h1 => ?_
  match ws, t1, rs with
  | [w1, w2], t1, rs =>
    obtain ⟨v, u, rfl, rv, ru⟩ := rs.two
    dsimp only at t1
    split at t1
    · rename_i xs g1 ys g2 e1 e2
      obtain ⟨a, vs, rfl, qa, ka⟩ := lst_of e1 rv h1
      obtain ⟨b, us, rfl, qb, kb⟩ := lst_of e2 ru h1
      exact ⟨a, b, vs, us, rfl, .inl ⟨qa, qb, k _ _ G1 _ H1 t1 f1 h1 (wit_zipL fun G H f rh g => by
        obtain ⟨vs, q1, r1⟩ := ka G H f rh g.1
        obtain ⟨us, q2, r2⟩ := kb G H f rh g.2
        exact ⟨vs, us, q1, q2, r1, r2⟩)⟩⟩
    · split at t1
      · rename_i xs ys e1 e2
        obtain ⟨a, vs, rfl, qa, ka⟩ := RV.tup_of rv h1 e1
        obtain ⟨b, us, rfl, qb, kb⟩ := RV.tup_of ru h1 e2
        exact ⟨a, b, vs, us, rfl, .inr ⟨qa, qb, k _ _ G1 _ H1 t1 f1 h1 (wit_zipT fun G H f rh g => by
          obtain ⟨vs, q1, r1⟩ := ka G H f
          obtain ⟨us, q2, r2⟩ := kb G H f
          exact ⟨vs, us, q1, q2, r1, r2⟩)⟩⟩
      · exact t1.elim
end
end WL
set_option Elab.async false
set_option linter.all false
set_option maxRecDepth 100000
set_option maxHeartbeats 4000000
namespace WL
open PySem PySem.Spec PyProof.Rows L2
def SqB (b : Bool) (K : PySem.W.Frag) (H : Hp) (a : Addr) (xs : List V) : Prop := match b with
  | true => SqT K H a xs
  | false => SqL K H a xs
def IterB (b : Bool) (h : Heap) (it a : Addr) (i : Nat) : Prop := match b with
  | true => h.IsTupleIter it a i
  | false => h.IsListIter it a i
def ItB (b : Bool) (h : Heap) (a : Addr) (its : Array Value) : Prop := match b with
  | true => h.IsTuple a its
  | false => h.IsList a its
def IteK (b : Bool) (k : Int) (K : PySem.W.Frag) (a : Addr) : It :=
  ⟨fun i H => ∃ (xs : List V) (x : V), SqB b K H a xs ∧ xs[i]? = some x, fun i H v H' => ∃ T x, v = .ref T ∧ H T = none ∧ H' = upd H T (.tup [.int (k + (i : Nat)), x]) ∧ ∀ xs, SqB b K H a xs → xs[i]? = some x, fun i H => ∃ xs : List V, SqB b K H a xs ∧ i = xs.length⟩
section
variable {X : Cx} {pins : List (Addr × Obj)} {σ : L2.St} {H : Hp} {s : Shared}
theorem sqb_get {b : Bool} {a : Addr} {xs : List V} (I : Inv X pins σ H s) (h : SqB b X.K H a xs) : ∃ its : List Value, Vals xs its ∧ ItB b s.heap a its.toArray ∧ xs.length ≤ sizeLine := by
  cases b with
  | true => obtain ⟨its, r, p, z⟩ := I.tuple h; exact ⟨its, r, p, z⟩
  | false => obtain ⟨its, r, p, z⟩ := I.list h; exact ⟨its, r, p.isList, z⟩
theorem sqb_inj {b : Bool} {a : Addr} {xs ys : List V} (I : Inv X pins σ H s) (h1 : SqB b X.K H a xs) (h2 : SqB b X.K H a ys) : xs = ys := by
  cases b with
  | true => exact I.tuple_inj h1 h2
  | false => exact I.list_inj h1 h2
theorem drawsB {b : Bool} {A : Around} (hh : A.handled = none) (it a : Addr) (hne : a ≠ it) (items : Array Value) : Draws X.prog X.w A it [it, a] items.size (fun i v => items[i]? = some v) (fun i h => IterB b h it a i ∧ ItB b h a items) := by
  cases b with
  | true => exact Draws.tuple hh it a hne items
  | false => exact Draws.list hh it a hne items
theorem iterB_obj {b : Bool} {h : Heap} {it a : Addr} {i : Nat} (q : IterB b h it a i) : ∃ o, h.get? it = some o ∧ ∀ v, o.data ≠ .cell v := by
  cases b with
  | true => obtain ⟨o, ho, hc, hd⟩ := q; exact ⟨o, ho, fun v z => by rw [hd] at z; cases z⟩
  | false => obtain ⟨o, ho, hc, hd⟩ := q; exact ⟨o, ho, fun v z => by rw [hd] at z; cases z⟩
theorem iterB_at {b : Bool} {h h' : Heap} {it a : Addr} {i : Nat} (q : IterB b h it a i) (k : ∀ o, h.get? it = some o → h'.get? it = some o) : IterB b h' it a i := by
  cases b with
  | true => obtain ⟨o, ho, hc, hd⟩ := q; exact ⟨o, k _ ho, hc, hd⟩
  | false => obtain ⟨o, ho, hc, hd⟩ := q; exact ⟨o, k _ ho, hc, hd⟩
end
theorem turn_enumB {P : Program} {w : World} {K : PySem.W.Frag} {elts : List Expr} {kk : Nat} {tpos : Pos} (b : Bool) (k : Int) (a e it : Addr) (n1 : e ≠ it) (n2 : a ≠ it) (n3 : e ≠ a) :
    Turn P w K (.Tuple elts kk tpos) (IteK b k K a) [e, it] e (fun i h => (∃ old, IsEnum h e it (k + (i : Nat)) old) ∧ IterB b h it a i) where
  mem := by simp
  obj := fun i h st c hc => by
    obtain ⟨⟨old, he⟩, hi⟩ := st
    have e' : c = e ∨ c = it := by simpa using hc
    rcases e' with z | z
    · rw [z]; exact ⟨_, he, fun v q => nomatch q⟩
    · rw [z]; exact iterB_obj hi
  keep := fun i h h' ⟨⟨old, he⟩, hi⟩ q => ⟨⟨old, q e (by simp) _ he⟩, iterB_at hi fun o z => q it (by simp) o z⟩
  item := by
    intro X hP hw hK hc i pins s σ H E I hf st hg
    subst hP hw hK
    obtain ⟨⟨old, he⟩, hit⟩ := st
    obtain ⟨xs, x, hq, hx⟩ := hg
    obtain ⟨its, rv, p, hz⟩ := sqb_get I hq
    have hlt : i < its.toArray.size := by
      rw [List.size_toArray, ← rv.length]
      exact (List.getElem?_eq_some_iff.mp hx).1
    have hel : e < s.heap.objs.size := Heap.lt_size he
    have hil : it < s.heap.objs.size := by obtain ⟨_, q, _⟩ := iterB_obj hit; exact Heap.lt_size q
    refine wpAny_pyNext_enum_itemC (drawsB (A := X.A.in1) (I.ok.hd hc) it a n2 its.toArray) he ⟨hit, p⟩ hlt n1 (by simp [n1, n3]) fun u h' tk hu ho hst hT hsz hk => ?_
    have hu' : its[i]? = some u := by simpa using hu
    obtain ⟨u2, hu2, ru⟩ := rv.get hx
    rw [hu'] at hu2; cases hu2
    refine ⟨_, rfl, wpAny_letOwnedTupleGo_enum (s := { s with heap := h', toks := tk + 1 }) ho fun h'' he' sb => ?_⟩
    have hT2 : h''.get? s.heap.objs.size = some { cls := .type "tuple", data := .seq #[.int (k + (i : Nat)) tk, u] } := (sb.2 _ (Nat.ne_of_gt hel)).trans hT
    have new : ObjOk X.prog X.w (upd H s.heap.objs.size (.tup [.int (k + (i : Nat)), x])) h'' s.heap.objs.size (.tup [.int (k + (i : Nat)), x]) := ⟨by show 2 ≤ sizeLine; decide, [.int (k + (i : Nat)) tk, u], .cons ⟨_, rfl⟩ (.cons ru .nil), ⟨_, hT2, rfl, _, rfl⟩⟩
    have I1 : Inv X pins σ (upd H s.heap.objs.size (.tup [.int (k + (i : Nat)), x])) { s with heap := h'', toks := tk + 1 } :=
      I.turnedNew (ch := [e, it]) (fun c ob hb q => (sb.2 c (fun z => hb (by simp [z]))).trans (hk c ob (fun z => hb (by simp [z])) (fun z => hb (by simp [z])) q)) hf (Nat.le_refl _) new
    refine ⟨.ref s.heap.objs.size, _, I1, rfl, ⟨_, x, rfl, I.hok.fresh (Nat.le_refl _), rfl, fun ys hy => by rw [sqb_inj I hy hq]; exact hx⟩, ⟨⟨u, ?_⟩, iterB_at hst.1 fun o q => (sb.2 it n1.symm).trans q⟩, fun c hb => ?_⟩
    · rw [show k + ((i + 1 : Nat) : Int) = k + (i : Int) + 1 by omega]; exact he'
    · have hb' : c < s.heap.objs.size := by
        have e' : c = e ∨ c = it := by simpa using hb
        rcases e' with z | z
        · rw [z]; exact hel
        · rw [z]; exact hil
      rw [upd_ne (Nat.ne_of_lt hb')]
      exact (hf c hb).1
  done := by
    intro X hP hw hK hc i pins s σ H E I hf st hg
    subst hP hw hK
    obtain ⟨⟨old, he⟩, hit⟩ := st
    obtain ⟨xs, hq, hx⟩ := hg
    obtain ⟨its, rv, p, hz⟩ := sqb_get I hq
    obtain ⟨f0, f1, f2, f3, f4, f5⟩ := hf it (by simp)
    have hl : i = its.toArray.size := by rw [List.size_toArray, ← rv.length]; exact hx
    exact wpAny_pyNext_enum_endD (drawsB (A := X.A.in1) (I.ok.hd hc) it a n2 its.toArray) he ⟨hl ▸ hit, p⟩ fun h' eb => ⟨rfl, I.turned (t' := s.toks) (fun c o hb q => eb c o hb q) f0 f1 f3 f4 f5⟩
  self := fun A i s Q E st h => let ⟨⟨_, he⟩, _⟩ := st; wpAny_pyIter_enum he h
theorem beginsB (b : Bool) (a : Addr) (its : Array Value) : ∃ o : Obj, Begins (.ref a) o (fun h => ItB b h a its) ∧ ∀ (h : Heap) (it : Addr), h.get? it = some o → IterB b h it a 0 := by
  cases b with
  | true => exact ⟨_, begins_tuple a its, fun h it e => ⟨_, e, rfl, rfl⟩⟩
  | false => exact ⟨_, begins_list a its, fun h it e => ⟨_, e, rfl, rfl⟩⟩
theorem itB_lt {b : Bool} {h : Heap} {a : Addr} {its : Array Value} (q : ItB b h a its) : a < h.objs.size := by
  cases b with
  | true => obtain ⟨o, ho, _⟩ := q; exact Heap.lt_size ho
  | false => obtain ⟨o, ho, _⟩ := q; exact Heap.lt_size ho
section
variable {X : Cx} {Z : GH × Hp} {e c : Expr} {ta : TA} {Tr : TWA} {p pos tpos kpos : Pos} {elts : List Expr} {kk : Nat}
end
def enumP : Int → List W → List W
  | _, [] => []
  | k, x :: xs => .tup [.int k, x] :: enumP (k + 1) xs
theorem enumP_len : ∀ (k : Int) (xs : List W), (enumP k xs).length = xs.length
  | _, [] => rfl
  | k, x :: xs => by rw [enumP, List.length_cons, List.length_cons, enumP_len]
theorem enumP_get : ∀ {k : Int} {xs : List W} {i : Nat} {w : W}, (enumP k xs)[i]? = some w → ∃ x, xs[i]? = some x ∧ w = .tup [.int (k + (i : Nat)), x]
  | k, [], i, w, h => by simp [enumP] at h
  | k, x :: xs, 0, w, h => by
    simp [enumP] at h
    exact ⟨x, rfl, by rw [← h]; simp⟩
  | k, x :: xs, i + 1, w, h => by
    obtain ⟨y, h1, h2⟩ := enumP_get (k := k + 1) (xs := xs) (i := i) (w := w) (by simpa [enumP] using h)
    exact ⟨y, by simpa using h1, by rw [h2]; congr 3; omega⟩
theorem wit_enum {K : PySem.W.Frag} {G1 : GH} {H1 : Hp} {b : Bool} {k : Int} {a : Addr} {xs : List W} {Gd : GH → Prop} (h : ∀ G H, FR G1 H1 G H → RH K H G → Gd G → ∃ vs, SqB b K H a vs ∧ RVs K H vs xs) : WIt K G1 H1 (IteK b k K a) (enumP k xs) Gd where
  go := fun i G H f rh g hi => by
    obtain ⟨vs, h1, r1⟩ := h G H f rh g
    rw [enumP_len] at hi
    obtain ⟨v, hv, _⟩ := r1.get (i := i) (w := xs[i]) (by simp [hi])
    exact ⟨vs, v, h1, hv⟩
  yld := fun i G H x H' w f rh g hw y => by
    obtain ⟨vs, h1, r1⟩ := h G H f rh g
    obtain ⟨T, x1, rfl, nT, rfl, f1⟩ := y
    obtain ⟨p, hp, rfl⟩ := enumP_get hw
    obtain ⟨v, hv, rv⟩ := r1.get hp
    have e1 := f1 vs h1
    rw [hv] at e1; cases e1
    exact ⟨.new nT, .tup upd_same (.cons (.int _) (.cons (rv.mono (.new nT) rh) .nil)), rh.new nT⟩
  stop := fun G H f rh g => by
    obtain ⟨vs, h1, r1⟩ := h G H f rh g
    exact ⟨vs, h1, by rw [enumP_len, r1.length]⟩
def enumW (w : W) (k : Int) (G : GH) (R : List W → (GH → Prop) → GH → Prop) : Prop := match lstOf w G with
  | some (xs, g) => R (enumP k xs) g G
  | none => match w.tup? with
    | some xs => R (enumP k xs) tru1 G
    | none => False
section
variable {X : Cx} {Z : GH × Hp} {e c : Expr} {Tr : TWA} {p pos tpos kpos : Pos} {elts : List Expr} {kk : Nat}
theorem enumW_go {K : PySem.W.Frag} {H1 : Hp} {G1 : GH} {w : W} {v : V} {k : Int} {R' : List W → (GH → Prop) → GH → Prop} {P : Bool → Addr → List V → Prop} (t : enumW w k G1 R') (rv : RV K H1 v w) (rh : RH K H1 G1)
    (go : ∀ b a vs items Gd, v = .ref a → SqB b K H1 a vs → R' items Gd G1 → WIt K G1 H1 (IteK b k K a) items Gd → P b a vs) : ∃ b a vs, v = .ref a ∧ SqB b K H1 a vs ∧ P b a vs := by
  unfold enumW at t
  split at t
  · rename_i xs g e1
    obtain ⟨a, vs, rfl, qa, ka⟩ := lst_of e1 rv rh
    exact ⟨false, a, vs, rfl, qa, go _ _ _ _ _ rfl qa t (wit_enum fun G H f r z => ka G H f r z)⟩
  · split at t
    · rename_i xs e1
      obtain ⟨a, vs, rfl, qa, ka⟩ := RV.tup_of rv rh e1
      exact ⟨true, a, vs, rfl, qa, go _ _ _ _ _ rfl qa t (wit_enum fun G H f r z => ka G H f)⟩
    · exact t.elim
end
theorem callWith_tyKw {M : Model} {A : Around} {E : Value → Shared → Prop} {s : Shared} {env : Env} {pos : Pos} {T : String} {e : Expr} {rest : List Expr} {kws : List Keyword} {Q : Value → Shared → Prop}
    (h : wpAny M A (spliced (backTo pos (starEach (e :: rest) env))) (fun vs s₁ => wpAny M A (evalAll ((backToKw pos (keywordEach kws env)).map (·.2))) (fun kvs s₂ => wpAny M A (call (.type T) vs (((backToKw pos (keywordEach kws env)).filterMap (·.1)).zip kvs)) Q E s₂) E s₁) E s)
    (he : backTo pos (starEach (e :: rest) env) = (false, eval e env) :: backTo pos (starEach rest env)) (h1 : (backTo pos (starEach (e :: rest) env)).any (·.1) = false) (h2 : (backToKw pos (keywordEach kws env)).all (·.1.isSome) = true) (h3 : (backToKw pos (keywordEach kws env)).any (·.1.isNone) = false) :
    wpAny M A (callWith pos (.type T) [] (backTo pos (starEach (e :: rest) env)) (backToKw pos (keywordEach kws env))) Q E s := by
  have h' : wpAny M A (evalArgs (.type T) true (backTo pos (starEach (e :: rest) env)) (backToKw pos (keywordEach kws env))) (fun a s₁ => wpAny M A (call (.type T) ([] ++ a.pos) a.kw) Q E s₁) E s := by
    rw [he] at h ⊢
    exact PyProof.Rows.evalArgs_kwB h2 h
  unfold callWith
  refine wpAny_bind (wpAny_holding (wpAny_mono h' (fun a s₁ q => wpAny_bind (wpAny_standAt ?_)) fun _ _ x => x))
  simp only [h1, h3, Bool.or_false]
  refine wpAny_bind (wpAny_pure ?_)
  exact wpAny_bind (wpAny_mono q (fun r s₂ hr => wpAny_bind (wpAny_holding (wpAny_point (wpAny_pure hr)))) fun _ _ x => x)
def iEnumKw (K : PySem.W.Frag) (te tk : TE) : TI := fun σ H R => tCons te tNil σ H fun vs H1 => tk σ H1 fun y H2 => ∃ b a xs k, vs = [.ref a] ∧ y = .int k ∧ SqB b K H2 a xs ∧ -(2 ^ 62) ≤ k ∧ k < 2 ^ 62 ∧ R (IteK b k K a) H2
section
variable {X : Cx} {Z : GH × Hp} {e c : Expr} {te tk : TE} {Ta Tb : TW} {p pos tpos kpos : Pos} {elts : List Expr} {kk : Nat}
theorem pi_enumKw (hg : Gl X "enumerate") (hm : X.mg "enumerate" = none) (he : PE X e te) (hk : PE X c tk) (hs : starEach [e] X.env = (false, eval e X.env) :: starEach [] X.env := by rfl)
    (h1 : backTo pos (starEach [e] X.env) = (false, eval e X.env) :: backTo pos (starEach [] X.env) := by rfl) (h2 : (backTo pos (starEach [e] X.env)).any (·.1) = false := by rfl) :
    PI X (.Tuple elts kk tpos) (.Call (.Name "enumerate" p) [e] [⟨some "start", c, kpos⟩] pos) (iEnumKw X.K te tk) := by
  refine ⟨fun pins s σ H R I h => ?_⟩
  refine wpAny_Call_Name_kw (ld_blt I hg hm boot_enumerate (callWith_tyKw (thn ((pa_cons he pa_nil hs).run pos pins s σ H _ I h) fun us s1 ⟨vs, H1, I1, r1, q1⟩ => ?_) h1 h2 (by rfl) (by rfl)))
  show wpAny _ _ (evalAll [(do let v ← eval c X.env; standAt pos; pure v)]) _ _ s1
  refine wpAny_evalAll_cons (wpAny_bind (thn (hk.run pins s1 σ H1 _ I1 q1) fun u s2 ⟨y, H2, I2, r2, b, a, xs, k, ev, ey, hq, g0, g1, q⟩ => wpAny_bind (wpAny_standAt (wpAny_pure (wpAny_evalAll_nil ?_)))))
  subst ev ey
  cases r1 with
  | cons ra rr =>
    cases rr
    cases ra
    obtain ⟨t, rfl⟩ := r2
    obtain ⟨its, rv, pp, hz⟩ := sqb_get I2 hq
    obtain ⟨o, B, hit⟩ := beginsB b a its.toArray
    show wpAny _ _ (call (.type "enumerate") [.ref a] [(Str.ofString "start", .int k t)]) _ _ s2
    refine enum_begins_start B pp (by omega) (by omega) fun h' en ho hsz hk2 => wpAny_pyIter_enum en ?_
    have lta := itB_lt pp
    have I3 : Inv X pins σ H2 { s2 with heap := h' } := I2.kept (t' := s2.toks) hk2
    have en' : IsEnum h' (s2.heap.objs.size + 1) s2.heap.objs.size (k + ((0 : Nat) : Int)) .none := by rw [show k + ((0 : Nat) : Int) = k by omega]; exact en
    refine ⟨s2.heap.objs.size + 1, [s2.heap.objs.size + 1, s2.heap.objs.size], _, _, H2, rfl, I3, turn_enumB b k a (s2.heap.objs.size + 1) s2.heap.objs.size (Nat.succ_ne_self _) (Nat.ne_of_lt lta) (Nat.ne_of_gt (Nat.lt_succ_of_lt lta)), ⟨⟨.none, en'⟩, hit _ _ ho⟩, fun d hd => ?_, q⟩
    have e' : d = s2.heap.objs.size + 1 ∨ d = s2.heap.objs.size := by simpa using hd
    have hle : s2.heap.objs.size ≤ d := by
      rcases e' with z | z
      · rw [z]; exact Nat.le_add_right _ _
      · rw [z]; exact Nat.le_refl _
    exact I2.fpOk hle (I2.hok.fresh hle)
def tIEnumK (Ta Tb : TW) : TIW := fun S G R => Ta S G fun w G1 => Tb S G1 fun y G2 => match y with
  | .int k => -(2 ^ 62) ≤ k ∧ k < 2 ^ 62 ∧ enumW w k G2 R
  | _ => False
theorem wi_enumK (hg : Gl X "enumerate") (hm : X.mg "enumerate" = none) (he : WE X Z e Ta) (hk : WE X Z c Tb) (hs : starEach [e] X.env = (false, eval e X.env) :: starEach [] X.env := by rfl)
    (h1 : backTo pos (starEach [e] X.env) = (false, eval e X.env) :: backTo pos (starEach [] X.env) := by rfl) (h2 : (backTo pos (starEach [e] X.env)).any (·.1) = false := by rfl) :
    WI X Z (.Tuple elts kk tpos) (.Call (.Name "enumerate" p) [e] [⟨some "start", c, kpos⟩] pos) (tIEnumK Ta Tb) := (pi_enumKw hg hm he hk hs h1 h2).weak fun σ H R h => by
  obtain ⟨S, G, R', sr, t, k⟩ := h
  refine Lf.go sr t fun w G1 v H1 t1 f1 r1 g1 => ?_
  refine Lf.go (sr.next f1 g1) t1 fun y G2 u H2 t2 f2 r2 g2 => ?_
  cases y with
  | int i =>
    cases r2
    obtain ⟨b, a, xs, rfl, hq, pp⟩ := enumW_go (P := fun b a vs => R (IteK b i X.K a) H2) t2.2.2 (r1.mono f2 g1) g2 fun b a vs items Gd _ _ r wi => k _ _ G2 _ H2 r (f1.trans f2) g2 wi
    exact ⟨b, a, xs, i, rfl, rfl, hq, t2.1, t2.2.1, pp⟩
  | _ => exact (show False from t2).elim
theorem wit_enum0 {K : PySem.W.Frag} {G1 : GH} {H1 : Hp} {a : Addr} {xs : List W} {Gd : GH → Prop} (h : ∀ G H, FR G1 H1 G H → RH K H G → Gd G → ∃ vs, SqL K H a vs ∧ RVs K H vs xs) : WIt K G1 H1 (Ite K a) (enumP 0 xs) Gd where
  go := fun i G H f rh g hi => by
    obtain ⟨vs, h1, r1⟩ := h G H f rh g
    rw [enumP_len] at hi
    obtain ⟨v, hv, _⟩ := r1.get (i := i) (w := xs[i]) (by simp [hi])
    exact ⟨vs, v, h1, hv⟩
  yld := fun i G H x H' w f rh g hw y => by
    obtain ⟨vs, h1, r1⟩ := h G H f rh g
    obtain ⟨T, x1, rfl, nT, rfl, f1⟩ := y
    obtain ⟨p, hp, rfl⟩ := enumP_get hw
    obtain ⟨v, hv, rv⟩ := r1.get hp
    have e1 := f1 vs h1
    rw [hv] at e1; cases e1
    rw [Int.zero_add]
    exact ⟨.new nT, .tup upd_same (.cons (.int _) (.cons (rv.mono (.new nT) rh) .nil)), rh.new nT⟩
  stop := fun G H f rh g => by
    obtain ⟨vs, h1, r1⟩ := h G H f rh g
    exact ⟨vs, h1, by rw [enumP_len, r1.length]; exact Nat.le_refl _⟩
def tIEnum1 (Ta : TW) : TIW := fun S G R => Ta S G fun w G1 => match lstOf w G1 with
  | some (xs, g) => R (enumP 0 xs) g G1
  | none => False
theorem wi_enum1 (hg : Gl X "enumerate") (hm : X.mg "enumerate" = none) (he : WE X Z e Ta) (hs : starEach [e] X.env = [(false, eval e X.env)] := by rfl) (hs2 : starEach [e] X.env = (false, eval e X.env) :: starEach [] X.env := by rfl) :
    WI X Z (.Tuple elts kk tpos) (.Call (.Name "enumerate" p) [e] [] pos) (tIEnum1 Ta) := (pi_enum hg hm (pa_cons he pa_nil hs2) hs).weak fun σ H R h => by
  obtain ⟨S, G, R', sr, t, k⟩ := h
  refine Lf.go sr t fun w G1 v H1 t1 f1 r1 g1 => ?_
  split at t1
  · rename_i xs g e1
    obtain ⟨a, vs, rfl, qa, ka⟩ := lst_of e1 r1 g1
    exact ⟨a, vs, rfl, qa, k _ _ G1 _ H1 t1 f1 g1 (wit_enum0 fun G H f r z => ka G H f r z)⟩
  · exact t1.elim
end
end WL
set_option Elab.async false
set_option linter.all false
set_option maxRecDepth 100000
set_option maxHeartbeats 4000000
namespace WL
open PySem PySem.Spec PyProof.Rows L2 PySem.W
theorem hu20 {k : Nat} {A : Around} (hr : Room k A) : A.units + 20 < cLine := by have := hr.un; omega
end WL
set_option Elab.async false
set_option linter.all false
set_option maxRecDepth 100000
set_option maxHeartbeats 4000000
namespace WL
open PySem PySem.Spec PyProof.Rows L2 PySem.W
theorem swap_perm {α : Type} (A : List α) (i j : Nat) (hi : i < A.length) (hj : j < A.length) : ((A.set i A[j]).set j A[i]).Perm A := by
  have := (Array.perm_iff_toList_perm).mp (Array.swap_perm (xs := A.toArray) (i := i) (j := j) (by simpa using hi) (by simpa using hj))
  rw [Array.toList_swap] at this
  simpa using this
abbrev absL (ls : List Int) : List Int := ls.map absI
theorem absI_neg (z : Int) : absI (-z) = absI z := by unfold absI; split <;> split <;> omega
theorem absL_two {L : List Int} {i j : Nat} {a b x y : Int} (hi : L[i]? = some x) (hj : L[j]? = some y) (ea : absI a = absI y) (eb : absI b = absI x) : (absL ((L.set i a).set j b)).Perm (absL L) := by
  obtain ⟨h1, rfl⟩ := List.getElem?_eq_some_iff.mp hi
  obtain ⟨h2, rfl⟩ := List.getElem?_eq_some_iff.mp hj
  have := swap_perm (absL L) i j (by simpa using h1) (by simpa using h2)
  rw [List.getElem_map, List.getElem_map] at this
  unfold absL
  rw [List.map_set, List.map_set, ea, eb]
  exact this
theorem absL_one {L : List Int} {i : Nat} {a x : Int} (hi : L[i]? = some x) (ea : absI a = absI x) : absL (L.set i a) = absL L := by
  obtain ⟨h1, rfl⟩ := List.getElem?_eq_some_iff.mp hi
  unfold absL
  rw [List.map_set, ea]
  have : (L.map absI)[i]'(by simpa using h1) = absI L[i] := List.getElem_map _
  rw [← this]
  exact List.set_getElem_self _
theorem rot_perm {α : Type} (L : List α) (n : Nat) : (L.drop n ++ L.take n).Perm L := by
  have := (List.perm_append_comm (l₁ := L.drop n) (l₂ := L.take n))
  rwa [List.take_append_drop] at this
theorem erase_perm {α : Type} {ps : List α} {r : Nat} (hr : r < ps.length) : (ps[r] :: ps.eraseIdx r).Perm ps := by
  rw [List.eraseIdx_eq_take_drop_succ]
  refine List.perm_middle.symm.trans ?_
  rw [List.getElem_cons_drop, List.take_append_drop]
theorem pool_perm {α : Type} {ls ps L : List α} {r : Nat} (hr : r < ps.length) (h : (ls ++ ps).Perm L) : ((ls ++ [ps[r]]) ++ ps.eraseIdx r).Perm L := by
  rw [List.append_assoc]
  exact ((List.Perm.append_left ls (erase_perm hr))).trans h
theorem absL_rgI (many : Int) : absL (rgI 1 many) = rgI 1 many := by
  conv => rhs; rw [← List.map_id (rgI 1 many)]
  refine List.map_congr_left fun n hn => ?_
  have := rgI_mem.mp hn
  unfold absI
  rw [if_neg (by omega)]; rfl
structure TurnOf (many : Int) (ls : List Int) : Prop where
  pm : (absL ls).Perm (rgI 1 (many + 1))
  h0 : 1 ≤ many
  h4 : many ≤ 400
theorem TurnOf.len {many : Int} {ls : List Int} (t : TurnOf many ls) : (ls.length : Int) = many := by
  have := t.pm.length_eq
  rw [List.length_map, rgI_length] at this
  have := t.h0
  omega
theorem TurnOf.mem {many : Int} {ls : List Int} (t : TurnOf many ls) {l : Int} (h : l ∈ ls) : 1 ≤ absI l ∧ absI l ≤ many := by
  have := rgI_mem.mp (t.pm.mem_iff.mp (List.mem_map_of_mem (f := absI) h))
  omega
theorem TurnOf.bound {many : Int} {ls : List Int} (t : TurnOf many ls) : ∀ l ∈ ls, l.natAbs ≤ 400 := fun l h => by
  have h1 := t.mem h
  have := t.h4
  unfold absI at h1
  split at h1 <;> omega
theorem TurnOf.nodup {many : Int} {ls : List Int} (t : TurnOf many ls) : (absL ls).Nodup := t.pm.nodup_iff.mpr (rgI_nodup _ _)
end WL
set_option Elab.async false
set_option linter.all false
set_option maxRecDepth 100000
set_option maxHeartbeats 4000000
namespace WL
open PySem PySem.Spec PyProof.Rows L2 PySem.W
def keysIn (w : W) (G : GH) : Option (List W) := match w with
  | .ref p => match G p with
    | some (.dK kws) => some (kws.map fun kw => kW kw.1)
    | _ => none
  | .fdK kws => some (kws.map fun kw => kW kw.1)
  | _ => none
def toListDW : CW := fun ws G R => match ws with
  | [w] => match keysIn w G with
    | some xs => ∀ p, G p = none → R (.ref p) (updG G p (.lst xs))
    | none => toListW [w] G R
  | _ => False
section
variable {X : Cx}
theorem rvs_keys {K : PySem.W.Frag} {H : Hp} : ∀ (ks : List Key), RVs K H (ks.map kV) (ks.map kW)
  | [] => .nil
  | .inl i :: ks => .cons (.int i) (rvs_keys ks)
  | .inr x :: ks => .cons (.str x) (rvs_keys ks)
theorem call_listDW (hc : X.calm = true) : CallW X (.type "list") toListDW := by
  intro pins s σ H xs us Q I r h
  obtain ⟨ws, G, R, rs, rh, t, k⟩ := h
  match ws, t, rs with
  | [w], t, rs =>
    unfold toListDW at t
    dsimp only at t
    split at t
    · rename_i ys e
      obtain ⟨v, rfl, rv⟩ := rs.one
      unfold keysIn at e
      cases w with
      | ref p =>
        cases rv
        dsimp only at e
        split at e
        · rename_i kws eg
          cases e
          obtain ⟨kvs, hv, rr⟩ := rh _ _ eg
          refine call_listD hc pins s σ H _ us Q I r ⟨_, kvs, rfl, .inl hv, fun l hl => k _ _ _ _ (t l (rh.free hl)) (.newG hl) (.ref l) (rh.newG hl ⟨_, upd_same, ?_⟩)⟩
          have e1 : (kvs.map fun kv => kV kv.1) = (kvs.map (·.1)).map kV := by rw [List.map_map]; rfl
          have e2 : (kws.map fun kv => kW kv.1) = (kws.map (·.1)).map kW := by rw [List.map_map]; rfl
          rw [e1, e2, RKV.keys rr]
          exact rvs_keys _
        · cases e
      | fdK kws =>
        cases e
        cases rv with
        | @fdK a ob kvs _ hv ek rr =>
          refine call_listD hc pins s σ H _ us Q I r ⟨_, kvs, rfl, .inr ⟨ob, hv⟩, fun l hl => k _ _ _ _ (t l (rh.free hl)) (.newG hl) (.ref l) (rh.newG hl ⟨_, upd_same, ?_⟩)⟩
          have e1 : (kvs.map fun kv => kV kv.1) = (kvs.map (·.1)).map kV := by rw [List.map_map]; rfl
          have e2 : (kws.map fun kv => kW kv.1) = (kws.map (·.1)).map kW := by rw [List.map_map]; rfl
          rw [e1, e2, ek]
          exact rvs_keys _
      | _ => cases e
    · exact call_listW pins s σ H xs us Q I r ⟨[w], G, R, rs, rh, t, k⟩
end
theorem putW_len {κ : Type} [DecidableEq κ] (acc : List (κ × W)) (k : κ) (v : W) : (putW acc k v).length ≤ acc.length + 1 := by
  unfold putW
  split
  · rw [List.length_map]; omega
  · rw [List.length_append, List.length_singleton]; omega
theorem mergeW_nodup : ∀ (kws acc : List (Key × W)), (acc.map (·.1) ++ kws.map (·.1)).Nodup → mergeW acc kws = acc ++ kws
  | [], acc, _ => (List.append_nil _).symm
  | kv :: kws, acc, h => by
    have hn : ¬ kv.1 ∈ acc.map (·.1) := fun z => by
      rw [List.map_cons, List.nodup_append] at h
      exact h.2.2 _ z _ List.mem_cons_self rfl
    have e : putW acc kv.1 kv.2 = acc ++ [kv] := by
      unfold putW
      rw [if_neg]
      intro z
      obtain ⟨x, hx, e⟩ := List.any_eq_true.mp z
      exact hn (List.mem_map.mpr ⟨x, hx, of_decide_eq_true e⟩)
    show mergeW (putW acc kv.1 kv.2) kws = _
    rw [e, mergeW_nodup kws _ (by rw [List.map_append, List.append_assoc]; exact h), List.append_assoc]
    rfl
theorem compD_pure {α : Type} {f : α → W} {kf : α → Key} {vf : α → W} {Gd : GH → Prop} {g : TGW} {tk tv : TW} {S0 : WSt} {R : List (Key × W) → GH → Prop} {G : GH} (hg : Gd G) : ∀ (xs : List α) (acc : List (Key × W)), acc.length + xs.length ≤ sizeLine →
    (∀ x ∈ xs, ∀ R' : W → W → GH → Prop, (∀ k, k.key? = some (kf x) → R' k (vf x) G) → g (f x) S0 G fun S2 G2 => tk S2 G2 fun k G4 => tv S2 G4 fun v G5 => R' k v G5) →
    R (mergeW acc (xs.map fun x => (kf x, vf x))) G → compD Gd g tYesW tk tv S0 R (xs.map f) G acc
  | [], acc, _, _, r => ⟨hg, r⟩
  | x :: xs, acc, hl, st, r => by
    rw [List.length_cons] at hl
    refine ⟨hg, ?_⟩
    show g (f x) S0 G fun S2 G2 => tYesW S2 G2 fun b G3 => if b = true then _ else _
    refine st x List.mem_cons_self (fun k v G5 => ∃ c, k.key? = some c ∧ acc.length < sizeLine ∧ compD Gd g tYesW tk tv S0 R (xs.map f) G5 (putW acc c v)) fun k hk => ?_
    have := putW_len acc (kf x) (vf x)
    exact ⟨kf x, hk, by omega, compD_pure hg xs _ (by omega) (fun y hy => st y (List.mem_cons_of_mem _ hy)) r⟩
end WL
set_option Elab.async false
set_option linter.all false
set_option maxRecDepth 100000
set_option maxHeartbeats 4000000
namespace WL
open PySem PySem.Spec PyProof.Rows L2 PySem.W
def goI (ls : List Int) (l : Int) : Int := if l > 0 then ls.getD (l - 1).toNat 0 else -(ls.getD (-l - 1).toNat 0)
theorem goI_abs {ls : List Int} {l : Int} (h : 1 ≤ absI l) : absI (goI ls l) = absI (ls.getD (absI l - 1).toNat 0) := by
  unfold goI
  by_cases c : l > 0
  · rw [if_pos c, show absI l = l by unfold absI; rw [if_neg (by omega)]]
  · rw [if_neg c, absI_neg, show absI l = -l by unfold absI at *; split at h <;> split <;> omega]
def LetOf (many : Int) (l : Int) : Prop := 1 ≤ absI l ∧ absI l ≤ many
theorem TurnOf.get {many : Int} {ls : List Int} (t : TurnOf many ls) {k : Int} (h0 : 1 ≤ k) (h1 : k ≤ many) : ls.getD (k - 1).toNat 0 ∈ ls ∧ atI (ls.map W.int) (k - 1) = some (.int (ls.getD (k - 1).toNat 0)) := by
  have hl := t.len
  obtain ⟨z, z1, z2, z3⟩ := atI_map (f := W.int) (xs := ls) (i := k - 1) (by omega) (by omega)
  rw [List.getD_eq_getElem?_getD, z1]
  exact ⟨z2, z3⟩
theorem TurnOf.go {many : Int} {ls : List Int} (t : TurnOf many ls) {l : Int} (h : LetOf many l) : LetOf many (goI ls l) := by
  unfold LetOf
  rw [goI_abs h.1]
  exact t.mem (t.get h.1 h.2).1
theorem TurnOf.inj {many : Int} {ls : List Int} (t : TurnOf many ls) {a b : Int} (ha : LetOf many a) (hb : LetOf many b) (e : absI (goI ls a) = absI (goI ls b)) : absI a = absI b := by
  rw [goI_abs ha.1, goI_abs hb.1] at e
  have hl := t.len
  have nd := t.nodup
  have h1 : (absI a - 1).toNat < (absL ls).length := by rw [List.length_map]; have := ha.1; have := ha.2; omega
  have h2 : (absI b - 1).toNat < (absL ls).length := by rw [List.length_map]; have := hb.1; have := hb.2; omega
  have g1 : (absL ls)[(absI a - 1).toNat] = absI (ls.getD (absI a - 1).toNat 0) := by
    rw [List.getElem_map, List.getD_eq_getElem?_getD, List.getElem?_eq_getElem (by simpa using h1)]; rfl
  have g2 : (absL ls)[(absI b - 1).toNat] = absI (ls.getD (absI b - 1).toNat 0) := by
    rw [List.getElem_map, List.getD_eq_getElem?_getD, List.getElem?_eq_getElem (by simpa using h2)]; rfl
  have := (List.getElem_inj (h₀ := h1) (h₁ := h2) nd).mp (by rw [g1, g2, e])
  have := ha.1; have := hb.1
  omega
theorem TurnOf.go_nodup {many : Int} {ls : List Int} (t : TurnOf many ls) : ∀ {part : List Int}, (∀ p ∈ part, LetOf many p) → (absL part).Nodup → (absL (part.map (goI ls))).Nodup
  | [], _, _ => .nil
  | p :: part, hp, h => by
    unfold absL at *
    rw [List.map_cons, List.nodup_cons] at h
    rw [List.map_cons, List.map_cons, List.nodup_cons]
    refine ⟨fun z => h.1 ?_, t.go_nodup (fun q hq => hp q (List.mem_cons_of_mem _ hq)) h.2⟩
    obtain ⟨y, hy, e⟩ := List.mem_map.mp z
    obtain ⟨q, hq, rfl⟩ := List.mem_map.mp hy
    exact List.mem_map.mpr ⟨q, hq, t.inj (hp q (List.mem_cons_of_mem _ hq)) (hp p List.mem_cons_self) e⟩
def bitAt : List Int → List Int → Int → Int
  | to :: ls, b :: bs, k => if absI to = k then (if to > 0 then b else 1 - b) else bitAt ls bs k
  | _, _, _ => 0
def letAt : Nat → List Int → List Int
  | _, [] => []
  | i, b :: bs => (if b = 0 then -((i : Int) + 1) else (i : Int) + 1) :: letAt (i + 1) bs
theorem hold_iff {all : List Int} : ∀ (ls bs : List Int) (i : Nat) (k : Int), ls.length = bs.length → (∀ j : Nat, j < ls.length → all.getD (i + j) 0 = ls.getD j 0) → (∀ b ∈ bs, b = 0 ∨ b = 1) → 1 ≤ k → (absL ls).Nodup →
    (k ∈ (letAt i bs).map (goI all) ↔ k ∈ absL ls ∧ bitAt ls bs k = 1) ∧ (k ∈ absL ls → bitAt ls bs k = 0 ∨ bitAt ls bs k = 1)
  | [], [], i, k, _, _, _, _, _ => ⟨⟨fun h => by simp [letAt] at h, fun h => by simp at h⟩, fun h => by cases h⟩
  | [], b :: bs, i, k, hl, _, _, _, _ => by cases hl
  | to :: ls, [], i, k, hl, _, _, _, _ => by cases hl
  | to :: ls, b :: bs, i, k, hl, hg, hb, hk, nd => by
    unfold absL at nd ⊢
    rw [List.map_cons, List.nodup_cons] at nd
    have ih := hold_iff (all := all) ls bs (i + 1) k (by simpa using hl) (fun j hj => by
      have := hg (j + 1) (by rw [List.length_cons]; omega)
      rw [show i + 1 + j = i + (j + 1) by omega, this]; rfl) (fun x hx => hb x (List.mem_cons_of_mem _ hx)) hk nd.2
    have g0 : all.getD i 0 = to := by have := hg 0 (by simp); simpa using this
    have e1 : goI all (if b = 0 then -((i : Int) + 1) else (i : Int) + 1) = if b = 0 then -to else to := by
      unfold goI
      by_cases c : b = 0
      · rw [if_pos c, if_neg (by omega), if_pos c, show (-(-((i : Int) + 1)) - 1).toNat = i by omega, g0]
      · rw [if_neg c, if_pos (by omega), if_neg c, show ((i : Int) + 1 - 1).toNat = i by omega, g0]
    unfold letAt
    rw [List.map_cons, List.mem_cons, e1, ih.1, List.map_cons, List.mem_cons]
    rw [show bitAt (to :: ls) (b :: bs) k = if absI to = k then (if to > 0 then b else 1 - b) else bitAt ls bs k from rfl]
    have b01 := hb b List.mem_cons_self
    by_cases c : absI to = k
    · rw [if_pos c]
      have nk : ¬ k ∈ absL ls := fun z => nd.1 (c ▸ z)
      unfold absI at c
      refine ⟨⟨fun h => ⟨.inl (by unfold absI; exact c.symm), ?_⟩, fun h => .inl ?_⟩, fun _ => ?_⟩
      · rcases h with h | h
        · rcases b01 with rfl | rfl
          · rw [if_pos rfl] at h
            split
            · omega
            · rfl
          · rw [if_neg (by decide)] at h
            rw [if_pos (by omega)]
        · exact absurd h.1 nk
      · have h := h.2
        rcases b01 with rfl | rfl
        · rw [if_pos rfl]
          split at h
          · omega
          · split at c <;> omega
        · rw [if_neg (by decide)]
          split at h
          · split at c <;> omega
          · omega
      · rcases b01 with rfl | rfl <;> split <;> simp
    · rw [if_neg c]
      refine ⟨⟨fun h => ?_, fun h => .inr ⟨h.1.resolve_left fun z => c z.symm, h.2⟩⟩, fun h => ih.2 (h.resolve_left fun z => c z.symm)⟩
      rcases h with h | h
      · refine absurd ?_ c
        unfold absI
        split at h <;> split <;> omega
      · exact ⟨.inr h.1, h.2⟩
theorem TurnOf.hold {many : Int} {ls bs : List Int} (t : TurnOf many ls) (hl : (bs.length : Int) = many) (hb : ∀ b ∈ bs, b = 0 ∨ b = 1) {k : Int} (h0 : 1 ≤ k) (h1 : k ≤ many) : (if k ∈ (letAt 0 bs).map (goI ls) then (1 : Int) else 0) = bitAt ls bs k := by
  have hL := t.len
  obtain ⟨q1, q2⟩ := hold_iff (all := ls) ls bs 0 k (by omega) (fun j _ => by rw [Nat.zero_add]) hb h0 t.nodup
  have hk : k ∈ absL ls := t.pm.mem_iff.mpr (rgI_mem.mpr (by omega))
  by_cases c : k ∈ (letAt 0 bs).map (goI ls)
  · rw [if_pos c, (q1.mp c).2]
  · rw [if_neg c]
    rcases q2 hk with e | e
    · exact e.symm
    · exact absurd (q1.mpr ⟨hk, e⟩) c
end WL
set_option Elab.async false
set_option linter.all false
set_option maxRecDepth 100000
set_option maxHeartbeats 4000000
namespace WL
open PySem PySem.Spec PyProof.Rows L2 PySem.W
section
variable {G : GH} {p : Addr}
theorem keysIn_lst {xs : List W} (h : G p = some (.lst xs)) : keysIn (.ref p) G = none := by
  unfold keysIn; dsimp only; rw [h]
end
def enumI {α : Type} : Int → List α → List (Int × α)
  | _, [] => []
  | k, x :: xs => (k, x) :: enumI (k + 1) xs
theorem enumP_map {α : Type} (f : α → W) : ∀ (k : Int) (xs : List α), enumP k (xs.map f) = (enumI k xs).map fun p => W.tup [.int p.1, f p.2]
  | _, [] => rfl
  | k, x :: xs => by
    rw [List.map_cons]
    unfold enumP enumI
    rw [enumP_map f (k + 1) xs]
    rfl
theorem enumI_len {α : Type} : ∀ (k : Int) (xs : List α), (enumI k xs).length = xs.length
  | _, [] => rfl
  | k, x :: xs => by unfold enumI; rw [List.length_cons, List.length_cons, enumI_len]
end WL
set_option Elab.async false
set_option linter.all false
set_option maxRecDepth 100000
set_option maxHeartbeats 4000000
namespace WL
open PySem PySem.Spec PyProof.Rows L2
theorem pe_lock {X : Cx} {e : Expr} {t : TE} (h : PE X e t) : PE X e (fun σ H Q => t σ H fun v H1 => Q v H1 ∨ ∃ p u, H1 p = some u ∧ Mut (some u) ∧ ∀ o, Q v (upd H1 p (.frz o u))) :=
  ⟨fun pins s σ H Q I q => wpAny_mono (h.run pins s σ H _ I q) (fun u s' ⟨v, H1, I1, r, q⟩ => by
    rcases q with q | ⟨p, u, hp, mu, q⟩
    · exact ⟨v, H1, I1, r, q⟩
    · obtain ⟨o, I2⟩ := I1.lock hp mu
      exact ⟨v, _, I2, r, q o⟩) (fun _ _ z => z)⟩
def offG (G : GH) (a : Addr) : GH := fun b => if b = a then none else G b
section
variable {K : PySem.W.Frag} {H H' : Hp} {G G' : GH} {p a : Addr} {o : GO} {u : HO} {ob : Obj}
theorem offG_same : offG G p p = none := by unfold offG; rw [if_pos rfl]
theorem offG_ne (h : a ≠ p) : offG G p a = G a := by unfold offG; rw [if_neg h]
theorem offG_updG (h : G p = none) : offG (updG G p o) p = G := by
  funext b
  by_cases e : b = p
  · subst e; rw [offG_same, h]
  · rw [offG_ne e, updG_ne e]
theorem FR.lock (h : G p = some o) : FR G H (offG G p) (upd H p u) := fun a x e g => by
  have ne : a ≠ p := fun z => by subst z; rw [h] at g; cases g
  exact ⟨by rw [upd_ne ne]; exact e, by rw [offG_ne ne]; exact g⟩
theorem RH.lock (r : RH K H G) (h : G p = some o) : RH K (upd H p u) (offG G p) := fun a y e => by
  by_cases q : a = p
  · subst q; rw [offG_same] at e; cases e
  · rw [offG_ne q] at e
    exact RO.keep (r a y e) (FR.lock h) r fun z hz => by rw [upd_ne q]; exact hz
theorem RKV.vals {κ : Type} : ∀ {kvs : List (κ × V)} {kws : List (κ × W)}, RKV K H kvs kws → RVs K H (kvs.map (·.2)) (kws.map (·.2))
  | _, _, .nil => .nil
  | _, _, .cons q t => .cons q.2 (RKV.vals t)
end
def frzK (R : KW) : KW := fun w G => match w with
  | .ref p => match G p with
    | some (.lst ws) => R (.fl ws) (offG G p)
    | some (.dK kws) => R (.fdK kws) (offG G p)
    | some (.dT kws) => R (.fdT kws) (offG G p)
    | some (.ins C fs) => R (.fo C fs) (offG G p)
    | _ => R (.ref p) G
  | w => R w G
section
variable {R : KW} {G : GH}
theorem frz_lst {ws : List W} (h : R (.fl ws) G) : ∀ p, G p = none → frzK R (.ref p) (updG G p (.lst ws)) := fun p hp => by
  show frzK R (.ref p) (updG G p (.lst ws))
  unfold frzK
  dsimp only
  rw [updG_same]
  dsimp only
  rw [offG_updG hp]; exact h
theorem frz_dK {kws : List (Key × W)} (h : R (.fdK kws) G) : ∀ p, G p = none → frzK R (.ref p) (updG G p (.dK kws)) := fun p hp => by
  unfold frzK
  dsimp only
  rw [updG_same]
  dsimp only
  rw [offG_updG hp]; exact h
theorem frz_dT {kws : List (List Key × W)} (h : R (.fdT kws) G) : ∀ p, G p = none → frzK R (.ref p) (updG G p (.dT kws)) := fun p hp => by
  unfold frzK
  dsimp only
  rw [updG_same]
  dsimp only
  rw [offG_updG hp]; exact h
theorem frz_atI {p : Addr} {C : Str} {fs : List (Str × W)} (hp : G p = some (.ins C fs)) (h : R (.fo C fs) (offG G p)) : frzK R (.ref p) G := by
  unfold frzK
  dsimp only
  rw [hp]; exact h
end
theorem frz_step {K : PySem.W.Frag} {H : Hp} {G : GH} {R : KW} {w : W} {v : V} {Q : VK} (q : frzK R w G) (rv : RV K H v w) (rh : RH K H G)
    (k : ∀ w' G' H', R w' G' → FR G H G' H' → RV K H' v w' → RH K H' G' → Q v H') : Q v H ∨ ∃ p u, H p = some u ∧ Mut (some u) ∧ ∀ o, Q v (upd H p (.frz o u)) := by
  unfold frzK at q
  split at q
  · rename_i p
    cases rv
    split at q
    · rename_i ws e
      obtain ⟨vs, h1, rr⟩ := rh _ _ e
      exact .inr ⟨p, _, h1, trivial, fun o => k _ _ _ q (FR.lock e) (.fl (.inl ⟨o, upd_same⟩) (rr.mono (FR.lock e) rh)) (rh.lock e)⟩
    · rename_i kws e
      obtain ⟨vs, h1, rr⟩ := rh _ _ e
      exact .inr ⟨p, _, h1, trivial, fun o => k _ _ _ q (FR.lock e) (.fdK upd_same rr.keys (rr.vals.mono (FR.lock e) rh)) (rh.lock e)⟩
    · rename_i kws e
      obtain ⟨vs, h1, rr⟩ := rh _ _ e
      exact .inr ⟨p, _, h1, trivial, fun o => k _ _ _ q (FR.lock e) (.fdT upd_same rr.keys (rr.vals.mono (FR.lock e) rh)) (rh.lock e)⟩
    · rename_i C fs e
      obtain ⟨D, dx, vs, cc, h1, rr⟩ := rh _ _ e
      exact .inr ⟨p, _, h1, trivial, fun o => k _ _ _ q (FR.lock e) (.fo cc upd_same rr.keys (rr.vals.mono (FR.lock e) rh)) (rh.lock e)⟩
    · exact .inl (k _ _ _ q .refl (.ref _) rh)
  · exact .inl (k _ _ _ q .refl rv rh)
def tFz (T : TW) : TW := fun S G R => T S G (frzK R)
section
variable {X : Cx} {Z : GH × Hp} {e : Expr} {T : TW} {st : Stmt} {i : Nat}
theorem we_fz (h : WE X Z e T) : WE X Z e (tFz T) := (pe_lock h).weak fun σ H Q h => by
  obtain ⟨S, G, R, sr, t, k⟩ := h
  refine Lf.go sr t fun w G1 v H1 q f rv rh => ?_
  exact frz_step q rv rh fun w' G' H' q' f' rv' rh' => k _ _ _ _ q' (f.trans f') rv' rh'
theorem ps_lock {X : Cx} {st : Stmt} {t : TS} (h : PS X st t) : PS X st (fun D σ H => t { D with nx := fun σ1 H1 => D.nx σ1 H1 ∨ ∃ p u, H1 p = some u ∧ Mut (some u) ∧ ∀ o, D.nx σ1 (upd H1 p (.frz o u)) } σ H) :=
  ⟨fun pins s σ H D I q => wpAny_mono (h.run pins s σ H _ I q) (fun fl s' q => by
    cases fl with
    | next =>
      obtain ⟨σ1, H1, I1, q⟩ := q
      rcases q with q | ⟨p, u, hp, mu, q⟩
      · exact ⟨σ1, H1, I1, q⟩
      · obtain ⟨o, I2⟩ := I1.lock hp mu
        exact ⟨σ1, _, I2, q o⟩
    | brk => exact q
    | cont => exact q
    | ret v => exact q) (fun _ _ z => z)⟩
end
section
variable {X : Cx} {Z : GH × Hp} {pos : Pos} {K : PySem.W.Frag}
theorem ws_setCF {i : Nat} {y : Str} {py : Pos} {elt tg iter : Expr} {ifs : List Expr} {scope : Scope} {own : List (Str × Nat)} {spos : Pos} {ti : TIW} {gh : TG} {g : TGW} {tt : TWT} {te : TW} (hc : X.calm = true) (hN : X.N.Nodup) (hy : X.N[i]? = some y) (hyl : X.env.scope.names.lookup y = some .local)
    (hsw : swapsWith (.ListComp elt [⟨tg, iter, ifs, 0⟩] scope pos) (some (.Name y py)) spos.line X.env = pure true) (hi : WI X Z tg iter ti) (ok : BlkOk X.N X.env.scope scope own)
    (gok : GOk X.K Z gh g (own.map (·.2)))
    (hg : ∀ (s : Shared) (H : Hp) (C : Addr) (cl : List (Str × Addr)) (fp : List Addr), PG (X.blk s H scope (compEnvC scope cl C X.env) fp) tg gh) (ht : ∀ (s : Shared) (H : Hp) (C : Addr) (cl : List (Str × Addr)) (fp : List Addr), PTsW (X.blk s H scope (compEnvC scope cl C X.env) fp) Z ifs tt)
    (he : ∀ (s : Shared) (H : Hp) (C : Addr) (cl : List (Str × Addr)) (fp : List Addr), WE (X.blk s H scope (compEnvC scope cl C X.env) fp) Z elt te) (hs : ∀ x, foldedSetIterable iter X.env x = pure x := by intro _; rfl) :
    WS X Z (.Assign [.Name y py] (.ListComp elt [⟨tg, iter, ifs, 0⟩] scope pos) spos) (sSet i (tFz (tComp ti g tt te (own.map (·.2))))) := (ps_lock (ps_setLc (tt := LfT X.K Z tt) (te := Lf X.K Z te) hc hN hy hyl hsw hi ok hg ht he hs)).weak fun D σ H h => by
  obtain ⟨S, G, DW, sr, t, l⟩ := h
  refine lfComp gok σ H _ (Lf.go sr t fun w G1 v H1 q f1 r1 h1 => ?_)
  exact frz_step (Q := fun v H => D.nx (σ.set i (some v)) H) q r1 h1 fun w' G' H' q' f' r' h' => l.nx _ _ _ _ q' ((sr.next (f1.trans f') h').set r') (f1.trans f')
end
def fgt (R : KW) : KW := fun w G' => ∃ G0 : GH, ExtG G0 G' ∧ R w G0
theorem ret {R : KW} {w : W} {G : GH} (q : R w G) : fgt R w G := ⟨G, .refl, q⟩
theorem ret_ext {R : KW} {w : W} {G G' : GH} (x : ExtG G G') (q : R w G) : fgt R w G' := ⟨G, x, q⟩
theorem FR.fgt {G G0 G' : GH} {H H' : Hp} (f : FR G H G' H') (x : ExtG G0 G') : FR G H G0 H' := f.weak fun a e => by
  cases h : G0 a with
  | none => rfl
  | some o => rw [x _ _ h] at e; cases e
theorem RH.fgt {K : PySem.W.Frag} {G0 G' : GH} {H' : Hp} (r : RH K H' G') (x : ExtG G0 G') : RH K H' G0 := r.weak x
section
variable {P : Program} {w : World} {K : PySem.W.Frag} {mg : Str → Option Value} {base : Heap} {x qual : Str} {st : Stmt} {f : Addr} {fd : FuncData} {N ps : List Str} {k : Nat} {Q : SpW}
theorem LK.fgt {K : PySem.W.Frag} {G : GH} {H : Hp} {R : KW} {Qv : VK} (kl : LK K G H R Qv) : LK K G H (fgt R) Qv := fun w G' v H' ⟨G0, x, q⟩ f rv rh => kl w G0 v H' q (f.fgt x) rv (rh.fgt x)
theorem okF (F : Fun K x qual st f fd) (S : FnScope N ps (defScope st)) (len : ∀ ws G R RX, Q ws G R RX → ws.length = ps.length)
    (hbody : ∀ (cdv : Value) (A : Around) (outer : List Env) (s : Shared) (H : Hp) (E : XK) (ws : List W) (G : GH) (R : KW) (RX : XW), A.guards = some [] → Room k (A.deeper (envOfC qual (defScope st) s.heap.objs.size f cdv)) → Q ws G R RX →
      ∃ T : TWS, WSs (cxOf CX0 P w K mg base N qual (defScope st) f cdv A outer s H E).nox (G, H) (defBody st) T ∧ T { nx := fun _ G' => fgt R .non G', rt := fgt R } (startW N ws) G) : FnG P w K mg base CX0 (k + 1) f fd ps (spL K Q) := by
  refine fn_g F S (fun vs H R E h => ?_) fun cdv A outer s H vs Qv E hgd hr h => ?_
  · obtain ⟨ws, G, R, RX, rs, rh, t, _⟩ := h
    rw [rs.length]; exact len ws G R RX t
  · obtain ⟨ws, G, R, RX, rs, rh, t, kl, kx⟩ := h
    obtain ⟨T, hT, q⟩ := hbody cdv A outer s H E ws G R RX hgd hr t
    have kl := kl.fgt
    refine ⟨_, PSs.nox hT, startW N ws, G, _, ⟨.refl, ?_, rh⟩, q, ⟨fun S' G' σ' H' d sr f => kl _ _ _ _ d f .non sr.rh, fun w G' v H' d f rv rh' => kl _ _ _ _ d f rv rh', fun _ _ _ _ d => d.elim, fun _ _ _ _ d => d.elim⟩⟩
    unfold L2.start startW
    rw [← rs.length]
    exact Paired.app (startW_ok rs) (Paired.reps (fun w e => by cases e) _)
theorem okFX (F : Fun K x qual st f fd) (S : FnScope N ps (defScope st)) (len : ∀ ws G R RX, Q ws G R RX → ws.length = ps.length)
    (hbody : ∀ (cdv : Value) (A : Around) (outer : List Env) (s : Shared) (H : Hp) (E : XK) (ws : List W) (G : GH) (R : KW) (RX : XW), A.guards = some [] → Room k (A.deeper (envOfC qual (defScope st) s.heap.objs.size f cdv)) → XL K G H RX E → Q ws G R RX →
      ∃ T : TWS, WSs (cxOf (L2.CX P w) P w K mg base N qual (defScope st) f cdv A outer s H E) (G, H) (defBody st) T ∧ T { nx := fun _ G' => fgt R .non G', rt := fgt R } (startW N ws) G) : FnG P w K mg base (L2.CX P w) (k + 1) f fd ps (spL K Q) := by
  refine fn_g F S (fun vs H R E h => ?_) fun cdv A outer s H vs Qv E hgd hr h => ?_
  · obtain ⟨ws, G, R, RX, rs, rh, t, _⟩ := h
    rw [rs.length]; exact len ws G R RX t
  · obtain ⟨ws, G, R, RX, rs, rh, t, kl, kx⟩ := h
    obtain ⟨T, hT, q⟩ := hbody cdv A outer s H E ws G R RX hgd hr kx t
    have kl := kl.fgt
    refine ⟨_, hT, startW N ws, G, _, ⟨.refl, ?_, rh⟩, q, ⟨fun S' G' σ' H' d sr f => kl _ _ _ _ d f .non sr.rh, fun w G' v H' d f rv rh' => kl _ _ _ _ d f rv rh', fun _ _ _ _ d => d.elim, fun _ _ _ _ d => d.elim⟩⟩
    unfold L2.start startW
    rw [← rs.length]
    exact Paired.app (startW_ok rs) (Paired.reps (fun w e => by cases e) _)
end
end WL
set_option Elab.async false
set_option linter.all false
set_option maxRecDepth 100000
set_option maxHeartbeats 4000000
namespace WL
open PySem PySem.Spec PyProof.Rows L2 PySem.W
structure EqS (n : Bool) (w1 w2 : W) (G : GH) (R : KW) : Prop where
  h : eqW n w1 w2 G R
def eqQ (n : Bool) : R2W := fun w1 w2 G R => match w1, w2 with
  | .int a, .int b => R (.bl (n != decide (a = b))) G
  | x, y => EqS n x y G R
theorem eqQ_eqW {n : Bool} {w1 w2 : W} {G : GH} {R : KW} (h : eqQ n w1 w2 G R) : eqW n w1 w2 G R := by
  unfold eqQ at h
  split at h
  · exact h
  · exact h.h
structure InS (n : Bool) (w1 w2 : W) (G : GH) (R : KW) : Prop where
  h : inW n w1 w2 G R
def inQ (n : Bool) : R2W := fun w1 w2 G R => match w2 with
  | .fdK kws => inW n w1 (.fdK kws) G R
  | .fdT kws => inW n w1 (.fdT kws) G R
  | y => InS n w1 y G R
theorem inQ_inW {n : Bool} {w1 w2 : W} {G : GH} {R : KW} (h : inQ n w1 w2 G R) : inW n w1 w2 G R := by
  unfold inQ at h
  split at h
  · exact h
  · exact h
  · exact h.h
section
variable {X : Cx}
theorem l2.weak {K : PySem.W.Frag} {r r' : R2W} (h : ∀ w1 w2 G R, r' w1 w2 G R → r w1 w2 G R) {x y : V} {H : Hp} {Q : VK} (q : l2 K r' x y H Q) : l2 K r x y H Q := by
  obtain ⟨w1, w2, G, R, r1, r2, rh, t, k⟩ := q
  exact ⟨w1, w2, G, R, r1, r2, rh, h _ _ _ _ t, k⟩
theorem OpW.weak {f : Value → Value → Sem Value} {r r' : R2W} (o : OpW X f r) (h : ∀ w1 w2 G R, r' w1 w2 G R → r w1 w2 G R) : OpW X f r' :=
  fun pins s σ H x y v u Q I rx ry q => o pins s σ H x y v u Q I rx ry (l2.weak h q)
theorem op_eqQ (hu : X.A.units + 64 < cLine) : OpW X (compareOp .Eq) (eqQ false) := (op_eqW hu).weak fun _ _ _ _ => eqQ_eqW
theorem op_neQ (hu : X.A.units + 64 < cLine) : OpW X (compareOp .NotEq) (eqQ true) := (op_neW hu).weak fun _ _ _ _ => eqQ_eqW
theorem op_inQ (hu : X.A.units + 65 < cLine) : OpW X (compareOp .In) (inQ false) := (op_inW hu).weak fun _ _ _ _ => inQ_inW
theorem op_notinQ (hu : X.A.units + 65 < cLine) : OpW X (compareOp .NotIn) (inQ true) := (op_notinW hu).weak fun _ _ _ _ => inQ_inW
end
def setQ : TSetW := fun o i v G R => match o with
  | .ref p => match G p with
    | some (.lst xs) => match i with
      | .int n => ∃ j, ixN xs.length n = some j ∧ R (updG G p (.lst (xs.set j v)))
      | _ => False
    | some (.dK kws) => match i.key? with
      | some k => kws.length < sizeLine ∧ R (updG G p (.dK (putW kws k v)))
      | none => False
    | some (.dT kws) => match i with
      | .tup ks => match keysOf ks with
        | some kk => kws.length < sizeLine ∧ R (updG G p (.dT (putW kws kk v)))
        | none => False
      | _ => False
    | _ => False
  | _ => False
theorem set_Q {X : Cx} (hu : X.A.units + 1 < cLine) : SetW X setQ := by
  intro pins s σ H x y z v u w Q I rx ry rz h
  obtain ⟨wo, wi, wv, G, R, r1, r2, r3, rh, t, k⟩ := h
  unfold setQ at t
  split at t
  · rename_i p
    cases r1
    cases (show v = Value.ref p from rx)
    split at t
    · rename_i xs e
      split at t
      · rename_i n
        obtain ⟨j, hj, t⟩ := t
        cases r2
        obtain ⟨vs, h1, rs⟩ := rh _ _ e
        have ro : RO X.K (upd H p (.lst (vs.set j z))) p (.lst (xs.set j wv)) := ⟨_, upd_same, (RVs.set r3 j rs).mono (FR.put (o := .lst []) e) rh⟩
        exact set_list pins s σ H (.ref p) _ z _ u w Q I rfl ry rz ⟨p, vs, n, j, rfl, rfl, h1, by rw [rs.length]; exact hj, k _ _ t (.put e) (rh.put e ro)⟩
      · exact t.elim
    · rename_i kws e
      split at t
      · rename_i kk ek
        obtain ⟨hl, t⟩ := t
        obtain ⟨kvs, h1, rs⟩ := rh _ _ e
        have e1 := key_of? ek
        subst e1
        have e2 := RV.key r2
        subst e2
        refine d_setItem (by omega) I (DPut.k h1 (by rw [rs.length]; exact hl)) ry rz fun s' I' => ⟨_, I', ?_⟩
        have ro : RO X.K (upd H p (.dK (putK kvs kk z))) p (.dK (putW kws kk wv)) := ⟨_, upd_same, RKV.mono (FR.put (o := .lst []) e) rh (rs.put r3)⟩
        exact k _ _ t (.put e) (rh.put e ro)
      · exact t.elim
    · rename_i kws e
      split at t
      · rename_i ks
        split at t
        · rename_i kk ek
          obtain ⟨hl, t⟩ := t
          obtain ⟨kvs, h1, rs⟩ := rh _ _ e
          cases r2 with
          | tup q rr =>
            have e1 := keys_of? ek
            subst e1
            have e2 := RVs.keys rr
            subst e2
            refine d_setItem (by omega) I (DPut.t h1 q (by rw [rs.length]; exact hl)) ry rz fun s' I' => ⟨_, I', ?_⟩
            have ro : RO X.K (upd H p (.dT (putK kvs kk z))) p (.dT (putW kws kk wv)) := ⟨_, upd_same, RKV.mono (FR.put (o := .lst []) e) rh (rs.put r3)⟩
            exact k _ _ t (.put e) (rh.put e ro)
        · exact t.elim
      · exact t.elim
    · exact t.elim
  · exact t.elim
section
variable {α : Type} [DecidableEq α] [DW α] {G : GH} {R : KW} {n : Bool} {w1 w2 : W} {p : Addr} {xs : List α}
theorem eqS_hd {γ : Type} [DecidableEq γ] [Datum γ] {a b : γ} (h1 : HD G w1 a) (h2 : HD G w2 b) (hd : Datum.depth γ ≤ 60) (k : R (.bl (n != decide (a = b))) G) : EqS n w1 w2 G R := ⟨eq_hd h1 h2 hd k⟩
theorem inS_fl {a : α} (hd : Datum.depth α ≤ 60) (k : R (.bl (n != decide (a ∈ xs))) G) : InS n (DW.w a) (.fl (xs.map DW.w)) G R := ⟨in_fl hd k⟩
end
theorem eq_str {n : Bool} {x y : Str} {G : GH} {R : KW} (k : R (.bl (n != decide (x = y))) G) : EqS n (.str x) (.str y) G R := ⟨k⟩
theorem fbne : ∀ b : Bool, (false != b) = b := by decide
theorem eq_ints {n : Bool} {a c : List Int} {G : GH} {R : KW} (k : R (.bl (n != decide (a = c))) G) : EqS n (.tup (a.map W.int)) (.tup (c.map W.int)) G R := by
  refine eqS_hd (n := n) (a := (⟨a⟩ : PySem.W.Tup Int)) (b := ⟨c⟩) (hd_w _) (hd_w _) (by decide) ?_
  have e : decide ((⟨a⟩ : PySem.W.Tup Int) = ⟨c⟩) = decide (a = c) := by
    by_cases h : a = c
    · rw [decide_eq_true h, h, decide_eq_true rfl]
    · rw [decide_eq_false h, decide_eq_false fun z => h (congrArg PySem.W.Tup.items z)]
  rw [e]; exact k
end WL
set_option Elab.async false
set_option linter.all false
set_option maxRecDepth 100000
set_option maxHeartbeats 4000000
namespace WL
open PySem PySem.Spec PyProof.Rows L2 PySem.W
section
variable {P : Program} {w : World} {K : PySem.W.Frag} {mg : Str → Option Value} {base : Heap} {nm qual : Str} {st : Stmt} {f : Addr} {fd : FuncData} {N : List Str}
end
abbrev TupAt (H : Hp) (p : Addr) (b : List Int) : Prop := H p = some (.tup (b.map V.int))
def TupsAt (K : PySem.W.Frag) (H : Hp) (a : Addr) (bs : List (List Int)) : Prop :=
  (∃ as : List Addr, (SqL K H a (as.map V.ref) ∨ SqT K H a (as.map V.ref)) ∧ Paired (TupAt H) as bs) ∨ ∃ kvs : List (List Key × V), Rd H a (.dT kvs) ∧ kvs.map (·.1) = bs.map (·.map Sum.inl)
theorem each_refs {H : Hp} : ∀ {as : List Addr} {bs : List (List Int)} {us : List Value}, Vals (as.map V.ref) us → Paired (TupAt H) as bs → EachIs (fun v b => ∃ p, v = Value.ref p ∧ TupAt H p b) us bs
  | [], _, _, .nil, .nil => .nil
  | a :: as, _, _, .cons r rs, .cons q t => by
    cases (show _ = Value.ref a from r)
    exact .cons ⟨a, rfl, q⟩ (each_refs rs t)
theorem refs_each {H : Hp} : ∀ {us : List Value} {bs : List (List Int)}, EachIs (fun v b => ∃ p, v = Value.ref p ∧ TupAt H p b) us bs → ∃ ps : List Addr, Vals (ps.map V.ref) us ∧ Paired (TupAt H) ps bs
  | _, _, .nil => ⟨[], .nil, .nil⟩
  | _, _, .cons ⟨p, e, h⟩ t => by
    obtain ⟨ps, h1, h2⟩ := refs_each t
    exact ⟨p :: ps, .cons e h1, .cons h h2⟩
theorem dt_rd {P : Program} {w : World} {H : Hp} {h : Heap} {a : Addr} {kvs : List (List Key × V)} (x : HOk P w H h) (r : Rd H a (.dT kvs)) :
    kvs.length ≤ sizeLine ∧ (a == sysModules) = false ∧ ∃ o es ep, h.get? a = some o ∧ o.ExactDict ∧ o.data = .dict es ep ∧ es.size = kvs.length ∧
      ∀ (i : Nat) (k : List Key) (v : V), kvs[i]? = some (k, v) → ∃ (en : DictEntry) (q : Addr), es[i]? = some en ∧ en.key = .ref q ∧ H q = some (.tup (k.map kV)) := by
  obtain ⟨z, hs, xs, pr, o, es, ep, ho, hx, hdt, he, _⟩ := r.ok x
  refine ⟨z, hs, o, es, ep, ho, hx, hdt, ?_, fun i k v e => ?_⟩
  · have l1 : es.size = xs.length := size_of_entries he
    have l2 : kvs.length = xs.length := Paired.length pr
    omega
  · obtain ⟨b, hb, e1, e2, _⟩ := paired_get pr e
    have q := entry_at he i
    rw [hb] at q
    exact ⟨_, b.2.1, q, rfl, e2⟩
theorem each_of_get {R : Value → List Int → Prop} : ∀ {us : List Value} {bs : List (List Int)}, us.length = bs.length → (∀ (j : Nat) (v : Value), us[j]? = some v → ∃ b, bs[j]? = some b ∧ R v b) → EachIs R us bs
  | [], [], _, _ => .nil
  | u :: us, b :: bs, hl, h => by
    obtain ⟨c, e, r⟩ := h 0 u rfl
    cases e
    exact .cons r (each_of_get (by simpa using hl) fun j v e => h (j + 1) v e)
section
variable {X : Cx} {Z : GH × Hp} {e : Expr} {te : TE} {Ta : TW} {pos p p2 kpos : Pos}
theorem tups_collect {pins : List (Addr × Obj)} {σ : L2.St} {H : Hp} {s : Shared} {a : Addr} {bs : List (List Int)} {E : Value → Shared → Prop} (I : Inv X pins σ H s) (hc : X.A.handled = none) (h : TupsAt X.K H a bs) :
    bs.length ≤ sizeLine ∧ ∀ R : List Value → Shared → Prop, (∀ us h' tk, (∀ b o, s.heap.get? b = some o → h'.get? b = some o) → EachIs (fun v b => ∃ p, v = Value.ref p ∧ TupAt H p b) us bs → R us { s with heap := h', toks := tk }) → wpAny (model X.prog X.w) X.A.in1 (collect (.ref a)) R E s := by
  rcases h with ⟨as, h | h, pr⟩ | ⟨kvs, hd, hk⟩
  · obtain ⟨its, r, ⟨o, n, ho, hcl, hdn, hdat⟩, hz⟩ := I.list h
    have l1 : as.length = bs.length := Paired.length pr
    have l2 := r.length
    refine ⟨by rw [← l1]; simpa using hz, fun R k => wpAny_collect_seq a (.inl rfl) ho hcl hdat (fun h' kp => k _ h' s.toks kp (by simpa using each_refs r pr)) (by rw [List.size_toArray, ← l2]; exact hz)⟩
  · obtain ⟨its, r, ⟨o, ho, hcl, n, hdat⟩, hz⟩ := I.tuple h
    have l1 : as.length = bs.length := Paired.length pr
    have l2 := r.length
    refine ⟨by rw [← l1]; simpa using hz, fun R k => wpAny_collect_seq a (.inr rfl) ho hcl hdat (fun h' kp => k _ h' s.toks kp (by simpa using each_refs r pr)) (by rw [List.size_toArray, ← l2]; exact hz)⟩
  · obtain ⟨z, hs, o, es, ep, ho, hx, hdt, hsz, ent⟩ := dt_rd I.hok hd
    have l1 : kvs.length = bs.length := by
      have := congrArg List.length hk
      simpa using this
    refine ⟨by omega, fun R k => PySem.W.kdu_collect (kdl_raw hs hx hdt) hc ho (by omega) fun h' tk acc kp hacc => k _ h' tk kp ?_⟩
    have e1 : acc.toList.length = bs.length := by rw [Array.length_toList, hacc.1, hsz, l1]
    refine each_of_get e1 fun j v e => ?_
    obtain ⟨en, h1, rfl⟩ := hacc.2 j v (by rw [← Array.getElem?_toList]; exact e)
    have hj : j < kvs.length := by rw [← hsz]; exact (Array.getElem?_eq_some_iff.mp h1).1
    obtain ⟨en', q, h2, h3, h4⟩ := ent j (kvs[j]).1 (kvs[j]).2 (List.getElem?_eq_getElem hj)
    rw [h1] at h2
    cases h2
    have e3 : (bs.map (·.map Sum.inl))[j]? = some (kvs[j]).1 := by rw [← hk, List.getElem?_map, List.getElem?_eq_getElem hj]; rfl
    rw [List.getElem?_map] at e3
    cases e4 : bs[j]? with
    | none => rw [e4] at e3; cases e3
    | some b =>
      rw [e4] at e3
      have e5 : b.map Sum.inl = (kvs[j]).1 := Option.some.inj e3
      refine ⟨b, rfl, q, h3, ?_⟩
      show H q = _
      rw [h4, ← e5, List.map_map]; rfl
def tupsOf : List W → Option (List (List Int))
  | [] => some []
  | .tup ws :: r => match intsOf ws, tupsOf r with
    | some ns, some bs => some (ns :: bs)
    | _, _ => none
  | _ :: _ => none
theorem tupsOf_map : ∀ bs : List (List Int), tupsOf (bs.map fun b => .tup (b.map W.int)) = some bs
  | [] => rfl
  | b :: bs => by
    show (match intsOf (b.map W.int), tupsOf (bs.map fun b => .tup (b.map W.int)) with | some ns, some bs => some (ns :: bs) | _, _ => none) = _
    rw [intsOf_map, tupsOf_map bs]
theorem tups_of : ∀ {ws : List W} {bs : List (List Int)}, tupsOf ws = some bs → ws = bs.map fun b => .tup (b.map W.int)
  | [], bs, h => by cases h; rfl
  | w :: ws, bs, h => by
    cases w with
    | tup xs =>
      unfold tupsOf at h
      split at h
      · rename_i ns bs' e1 e2
        cases h
        rw [List.map_cons, ints_of e1, tups_of e2]
      · cases h
    | _ => cases h
def ktup (ks : List Key) : W := .tup (ks.map kW)
def tupsIn (w : W) (G : GH) : Option (List (List Int)) := match w with
  | .tup xs => tupsOf xs
  | .fl xs => tupsOf xs
  | .fdT kws => tupsOf (kws.map fun k => ktup k.1)
  | .ref p => match G p with
    | some (.lst xs) => tupsOf xs
    | some (.dT kws) => tupsOf (kws.map fun k => ktup k.1)
    | _ => none
  | _ => none
theorem kw_ints : ∀ {ks : List Key} {b : List Int}, ks.map kW = b.map W.int → ks = b.map Sum.inl
  | [], [], _ => rfl
  | [], _ :: _, h => by cases h
  | _ :: _, [], h => by cases h
  | k :: ks, n :: b, h => by
    rw [List.map_cons, List.map_cons] at h
    injection h with h1 h2
    rw [List.map_cons, kw_ints h2]
    cases k with
    | inl i => cases h1; rfl
    | inr x => cases h1
theorem kws_tups {kvs : List (List Key × V)} {kws : List (List Key × W)} {bs : List (List Int)} (e : kvs.map (·.1) = kws.map (·.1)) (h : tupsOf (kws.map fun k => ktup k.1) = some bs) : kvs.map (·.1) = bs.map (·.map Sum.inl) := by
  rw [e]
  have := tups_of h
  clear e h
  induction kws generalizing bs with
  | nil => cases bs with
    | nil => rfl
    | cons b bs => cases this
  | cons kw kws ih =>
    cases bs with
    | nil => cases this
    | cons b bs =>
      rw [List.map_cons, List.map_cons] at this ⊢
      injection this with e1 e2
      rw [ih e2]
      unfold ktup at e1
      injection e1 with e1
      rw [kw_ints e1]
theorem rvs_tups {K : PySem.W.Frag} {H : Hp} : ∀ {bs : List (List Int)} {vs : List V}, RVs K H vs (bs.map fun b => W.tup (b.map W.int)) → ∃ as : List Addr, vs = as.map V.ref ∧ Paired (TupAt H) as bs
  | [], _, .nil => ⟨[], rfl, .nil⟩
  | b :: bs, _, .cons r t => by
    obtain ⟨as, rfl, p⟩ := rvs_tups t
    cases r with
    | @tup a _ _ q rs =>
      rw [rs.ints] at q
      exact ⟨a :: as, rfl, .cons q p⟩
theorem tups_rvs {K : PySem.W.Frag} {H : Hp} : ∀ {bs : List (List Int)} {as : List Addr}, Paired (TupAt H) as bs → RVs K H (as.map V.ref) (bs.map fun b => W.tup (b.map W.int))
  | [], _, .nil => .nil
  | b :: bs, _, .cons r t => .cons (.tup r (RVs.of_ints b)) (tups_rvs t)
theorem tups_at {K : PySem.W.Frag} {H : Hp} {G : GH} {w : W} {v : V} {bs : List (List Int)} (h : tupsIn w G = some bs) (rv : RV K H v w) (rh : RH K H G) : ∃ a, v = .ref a ∧ TupsAt K H a bs := by
  unfold tupsIn at h
  cases w with
  | tup xs =>
    cases rv with
    | tup q rs =>
      have e := tups_of h; subst e
      obtain ⟨as, rfl, p⟩ := rvs_tups rs
      exact ⟨_, rfl, .inl ⟨as, .inr (SqT.of q), p⟩⟩
  | fl xs =>
    cases rv with
    | fl q rs =>
      have e := tups_of h; subst e
      obtain ⟨as, rfl, p⟩ := rvs_tups rs
      exact ⟨_, rfl, .inl ⟨as, .inl q.seq, p⟩⟩
  | fdT kws =>
    cases rv with
    | @fdT a ob kvs _ h1 e r => exact ⟨a, rfl, .inr ⟨kvs, .inr ⟨ob, h1⟩, kws_tups e h⟩⟩
  | ref p =>
    cases rv
    dsimp only at h
    split at h
    · rename_i xs eg
      obtain ⟨vs, hv, rs⟩ := rh _ _ eg
      have e := tups_of h; subst e
      obtain ⟨as, rfl, p⟩ := rvs_tups rs
      exact ⟨_, rfl, .inl ⟨as, .inl (SqL.of hv), p⟩⟩
    · rename_i kws eg
      obtain ⟨kvs, hv, rr⟩ := rh _ _ eg
      exact ⟨_, rfl, .inr ⟨kvs, .inl hv, kws_tups (RKV.keys rr) h⟩⟩
    · cases h
  | _ => cases h
theorem alike_ints : ∀ a b : List Int, alikeAll (a.map .int) (b.map .int) = true
  | [], _ => rfl
  | _ :: _, [] => rfl
  | x :: a, y :: b => by
    rw [List.map_cons, List.map_cons, alikeAll, alike_ints a b]; rfl
end
end WL
set_option Elab.async false
set_option linter.all false
set_option maxRecDepth 100000
set_option maxHeartbeats 4000000
namespace WL
open PySem PySem.Spec PyProof.Rows L2 PySem.W
structure ClsD (K : PySem.W.Frag) (mg : Str → Option Value) (c : Str) : Prop where
  ex : ∃ C, ClsAt K c C ∧ Cls K C ∧ mg c = some (.ref C)
structure NoA (K : PySem.W.Frag) (c f : Str) : Prop where
  no : ∀ C, ClsAt K c C → NoAttr K C f
structure MethD (P : Program) (w : World) (K : PySem.W.Frag) (mg : Str → Option Value) (base : Heap) (CX : CXT) (k : Nat) (c m : Str) (ps : List Str) (dws : List W) (sp : SpW) : Prop where
  ex : ∃ C f fd dvs ds, ClsAt K c C ∧ Cls K C ∧ Meth K C m f ∧ FnG P w K mg base CX k f fd ps (spL K sp) ∧ Binds K fd ps ds ∧ Vals dvs ds ∧ ∀ H, RVs K H dvs dws
structure MakeD (P : Program) (w : World) (K : PySem.W.Frag) (mg : Str → Option Value) (base : Heap) (CX : CXT) (k : Nat) (c : Str) (ps : List Str) (dws : List W) (sp : SpW) : Prop where
  ex : ∃ C f fd dvs ds, ClsAt K c C ∧ Mk K C f ∧ mg c = some (.ref C) ∧ FnG P w K mg base CX k f fd ps (spL K sp) ∧ Binds K fd ps ds ∧ Vals dvs ds ∧ ∀ H, RVs K H dvs dws
section
variable {X : Cx} {Z : GH × Hp} {a b c e o : Expr} {Ta Tb : TW} {pos p apos : Pos} {K : PySem.W.Frag} {es : List Expr} {Tr : TWA} {CX : CXT} {k j : Nat} {f C : Addr} {fd : FuncData} {ps : List Str} {P : SpW} {x m cn : Str} {dvs : List V} {ds : List Value} {dws : List W} {sp : Sp} {E : XK} {ta : TE} {t : TA}
theorem ins_rd {P : Program} {w : World} {H : Hp} {h : Heap} {a dx : Addr} {fs : List (Str × V)} (hok : HOk P w H h) (e : Rd H a (.ins C dx fs)) : ∃ mA, ObjM h a dx C mA ∧ (∀ f, RelO (fs.lookup f) (mA f)) ∧ PySem.Within mA (fs.map (·.1)) := by
  obtain ⟨d, z, ne, ob, mA, n, r, q⟩ := (show ObjOk P w H h a (.ins C dx fs) from e.ok hok)
  exact ⟨mA, ⟨ob, n, ne⟩, r, q⟩
def tFldR (K : PySem.W.Frag) (ta : TE) (f : Str) : TE := fun σ H Q => ta σ H fun x H1 => ∃ a C dx fs v, x = .ref a ∧ Rd H1 a (.ins C dx fs) ∧ Cls K C ∧ NoAttr K C f ∧ fs.lookup f = some v ∧ Q v H1
theorem pe_fldR {f : Str} (he : PE X e ta) (hb : attributeBase e f X.env (eval e X.env) = eval e X.env) : PE X (.Attribute e f pos) (tFldR X.K ta f) := by
  refine ⟨fun pins s σ H Q I h => attr_of hb ?_⟩
  refine thn (he.run pins s σ H _ I h) fun u s1 ⟨x, H1, I1, rx, a, C, dx, fs, v, ex, ea, c, n, l, q⟩ => ?_
  subst ex
  obtain rfl : u = Value.ref a := rx
  obtain ⟨mA, O, r, _⟩ := ins_rd I1.hok ea
  obtain ⟨u, hu, ru⟩ := RelO.some_of (v := v) (o := mA f) (by rw [← l]; exact r f)
  exact get_map I1.kIn O (c.get f) c.hd n hu (handed_of ru) ⟨v, H1, I1.tok _, ru, q⟩
def fldW (c f : Str) (w : W) (G : GH) (R : KW) : Prop := match w with
  | .ref a => match G a with
    | some (.ins d fs) => d = c ∧ match fs.lookup f with
      | some y => R y G
      | none => False
    | _ => False
  | .fo d fs => d = c ∧ match fs.lookup f with
    | some y => R y G
    | none => False
  | _ => False
def tFldW (c f : Str) (Ta : TW) : TW := fun S G R => Ta S G fun w G1 => fldW c f w G1 R
theorem we_fld {f : Str} (D : ClsD X.K X.mg cn) (N : NoA X.K cn f) (he : WE X Z e Ta) (hb : attributeBase e f X.env (eval e X.env) = eval e X.env := by rfl) : WE X Z (.Attribute e f pos) (tFldW cn f Ta) := (pe_fldR he hb).weak fun σ H Q h => by
  obtain ⟨C0, hC0, hcls, _⟩ := D.ex
  obtain ⟨S, G, R, sr, t, k⟩ := h
  refine Lf.go sr t fun w G1 v H1 t1 f1 r1 h1 => ?_
  unfold fldW at t1
  split at t1
  · rename_i a
    cases r1
    split at t1
    · rename_i D fs e
      obtain ⟨rfl, t1⟩ := t1
      obtain ⟨C, dx, fvs, hC, ha, rf⟩ := h1 _ _ e
      have := hC.inj hC0
      subst this
      split at t1
      · rename_i y ey
        rcases RKV.lookup f rf with ⟨z, _⟩ | ⟨v, w, z1, z2, z3⟩
        · rw [ey] at z; cases z
        · rw [ey] at z2; cases z2
          exact ⟨a, _, dx, fvs, v, rfl, .inl ha, hcls, N.no _ hC, z1, k _ _ _ _ t1 f1 z3 h1⟩
      · exact t1.elim
    · exact t1.elim
  · rename_i D fs
    obtain ⟨rfl, t1⟩ := t1
    cases r1 with
    | @fo a C dx ob _ fvs _ hC ha e rr =>
      have := hC.inj hC0
      subst this
      split at t1
      · rename_i y ey
        rcases RKV.lookup f (RVs.rkv e rr) with ⟨z, _⟩ | ⟨v, w, z1, z2, z3⟩
        · rw [ey] at z; cases z
        · rw [ey] at z2; cases z2
          exact ⟨a, _, dx, fvs, v, rfl, .inr ⟨ob, ha⟩, hcls, N.no _ hC, z1, k _ _ _ _ t1 f1 z3 h1⟩
      · exact t1.elim
  · exact t1.elim
def sFldW (c f : Str) (Ta Tv : TW) : TWS := fun D S G => Tv S G fun y G1 => Ta S G1 fun w G2 => match w with
  | .ref a => match G2 a with
    | some (.ins d fs) => d = c ∧ fs.length < 1000 ∧ D.nx S (updG G2 a (.ins d (putFW f y fs)))
    | _ => False
  | _ => False
theorem ws_fld {f : Str} {value : Expr} {pos' : Pos} (D : ClsD X.K X.mg cn) (N : NoA X.K cn f) (ha : WE X Z o Ta) (hv : WE X Z value Tb) (hs : swapsWith value (some (.Attribute o f pos')) pos.line X.env = pure false := by rfl) :
    WS X Z (.Assign [.Attribute o f pos'] value pos) (sFldW cn f Ta Tb) := (ps_fld ha hv hs).weak fun DD σ H h => by
  obtain ⟨C0, hC0, hcls, _⟩ := D.ex
  obtain ⟨S, G, DW, sr, t, l⟩ := h
  refine Lf.go sr t fun y G1 v H1 t1 f1 r1 h1 => ?_
  refine Lf.go (sr.next f1 h1) t1 fun w G2 v2 H2 t2 f2 r2 h2 => ?_
  split at t2
  · rename_i a
    cases r2
    split at t2
    · rename_i B fs e
      obtain ⟨rfl, hl, t2⟩ := t2
      obtain ⟨C, dx, fvs, hC, ha, rf⟩ := h2 _ _ e
      have := hC.inj hC0
      subst this
      have rv := r1.mono f2 h1
      have ro : RO X.K (upd H2 a (.ins C dx (L2.putF f v fvs))) a (.ins B (putFW f y fs)) := ⟨C, dx, _, hC, upd_same, RKV.mono (FR.put (o := .lst []) e) h2 (RKV.putF rv rf)⟩
      refine ⟨a, C, dx, fvs, rfl, ha, hcls, N.no _ hC, by rw [RKV.length rf]; exact hl, l.nx _ _ _ _ t2 (((sr.next f1 h1).next f2 h2).next (.put e) (h2.put e ro)) (f1.trans (f2.trans (.put e)))⟩
    · exact t2.elim
  · exact t2.elim
def tMethR (C : Addr) (m : Str) (sp : Sp) (dvs : List V) (E : XK) (ta : TE) (t : TA) : TE := fun σ H Q => ta σ H fun x H1 => ∃ a dx fs, x = .ref a ∧ Rd H1 a (.ins C dx fs) ∧ fs.lookup m = none ∧
  t σ H1 fun vs H2 => sp (x :: (vs ++ dvs)) H2 Q E
theorem getmeth_rd {pins : List (Addr × Obj)} {s : Shared} {σ : L2.St} {H : Hp} {a dx : Addr} {fs : List (Str × V)} {A : Around} {E : Value → Shared → Prop} {g : Addr} {pl : Sem Bool} {Q : Value × List Value → Shared → Prop} (I : Inv X pins σ H s) (e : Rd H a (.ins C dx fs)) (c : Cls X.K C) (k : Meth X.K C m g) (l : fs.lookup m = none)
    (h : Q (.ref g, [.ref a]) s) : wpAny (model X.prog X.w) A (getMethod (.ref a) m pl) Q E s := by
  obtain ⟨mA, O, r, _⟩ := ins_rd I.hok e
  have hn : mA m = none := RelO.none_of (by rw [← l]; exact r m)
  exact get_meth I.kIn O (c.get m) k.at_ k.fn hn h
theorem pe_methG {pl : Sem Bool} (he : PE X o ta) (c : Cls X.K C) (hm : Meth X.K C m f) (F : FnG X.prog X.w X.K X.mg X.base CX k f fd ps sp) (hgd : X.A.guards = some []) (hr : Room k X.A) (hb : Binds X.K fd ps ds) (hd : Vals dvs ds) (hx : Passes CX X E) (ha : PA X (e :: es) t)
    (hst : starEach (e :: es) X.env = (false, eval e X.env) :: starEach es X.env := by rfl) (hpl : (backTo pos (starEach es X.env)).any (·.1) = false := by rfl)
    (ht : eval (.Call (.Attribute o m apos) (e :: es) [] pos) X.env = (do
      let ov ← eval o X.env
      standAt apos.atName
      let (f, first) ← holding [ov] (getMethod ov m pl)
      callWith pos f first (backTo pos (starEach (e :: es) X.env)) (backToKw pos (keywordEach [] X.env))) := by rfl) :
    PE X (.Call (.Attribute o m apos) (e :: es) [] pos) (tMethR C m sp dvs E ta t) := by
  refine ⟨fun pins s σ H Q I h => ?_⟩
  refine PySem.W.methodCall_KW (pl := pl) (thn (he.run pins s σ H _ I h) fun u s1 ⟨x, H1, I1, rx, a, dx, fs, ex, ea, l, q⟩ => ?_) ht
  subst ex
  obtain rfl : u = Value.ref a := rx
  refine getmeth_rd I1 ea c hm l ?_
  refine PySem.W.callWith_K (first := [.ref a]) (h₀ := X.base) I.ok.mod.kin hm.kp (thn (ha.run pos pins s1 σ H1 _ I1 q) fun us s2 ⟨vs, H2, I2, r, q2⟩ => ⟨I2.kIn, ?_⟩) hst hpl
  exact run_g (us := .ref a :: us) (vs := .ref a :: vs) F hgd hr hb hd hx I2 (.cons rfl r) q2
theorem pe_methG0 {pl : Sem Bool} (he : PE X o ta) (c : Cls X.K C) (hm : Meth X.K C m f) (F : FnG X.prog X.w X.K X.mg X.base CX k f fd ps sp) (hgd : X.A.guards = some []) (hr : Room k X.A) (hb : Binds X.K fd ps ds) (hd : Vals dvs ds) (hx : Passes CX X E)
    (ht : eval (.Call (.Attribute o m apos) [] [] pos) X.env = (do
      let ov ← eval o X.env
      standAt apos.atName
      let (f, first) ← holding [ov] (getMethod ov m pl)
      callWith pos f first (backTo pos (starEach [] X.env)) (backToKw pos (keywordEach [] X.env))) := by rfl) :
    PE X (.Call (.Attribute o m apos) [] [] pos) (tMethR C m sp dvs E ta tNil) := by
  refine ⟨fun pins s σ H Q I h => ?_⟩
  refine PySem.W.methodCall_KW (pl := pl) (thn (he.run pins s σ H _ I h) fun u s1 ⟨x, H1, I1, rx, a, dx, fs, ex, ea, l, q⟩ => ?_) ht
  subst ex
  obtain rfl : u = Value.ref a := rx
  refine getmeth_rd I1 ea c hm l ?_
  exact PySem.W.callWith_K0 (first := [.ref a]) I1.kIn hm.kp (run_g (us := [.ref a]) (vs := [.ref a]) F hgd hr hb hd hx I1 (.cons rfl .nil) q)
def insOf (c : Str) (w : W) (G : GH) : Option (List (Str × W)) := match w with
  | .ref a => match G a with
    | some (.ins d fs) => if d = c then some fs else none
    | _ => none
  | .fo d fs => if d = c then some fs else none
  | _ => none
theorem ins_of {H : Hp} {G : GH} {w : W} {v : V} {fs : List (Str × W)} (h : insOf cn w G = some fs) (rv : RV K H v w) (rh : RH K H G) : ∃ a C dx fvs, v = .ref a ∧ ClsAt K cn C ∧ Rd H a (.ins C dx fvs) ∧ RKV K H fvs fs := by
  unfold insOf at h
  split at h
  · split at h
    · rename_i d fs' e
      split at h
      · rename_i hd
        subst hd
        cases h
        cases rv
        obtain ⟨C, dx, fvs, hC, ha, rf⟩ := rh _ _ e
        exact ⟨_, C, dx, fvs, rfl, hC, .inl ha, rf⟩
      · cases h
    · cases h
  · split at h
    · rename_i hd
      subst hd
      cases h
      cases rv with
      | @fo a C dx ob _ fvs _ hC ha e rr => exact ⟨a, C, dx, fvs, rfl, hC, .inr ⟨ob, ha⟩, RVs.rkv e rr⟩
    · cases h
  · cases h
def tMethW (c m : Str) (P : SpW) (dws : List W) (RX : XW) (Ta : TW) (Tr : TWA) : TW := fun S G R => Ta S G fun w G1 => match insOf c w G1 with
  | some fs => fs.lookup m = none ∧ Tr S G1 fun ws G2 => P (w :: (ws ++ dws)) G2 R RX
  | none => False
theorem lfMethG {E : XK} (hC : ClsAt K cn C) (hdw : ∀ H, RVs K H dvs dws) (σ : L2.St) (H : Hp) (Q : VK) (h : Lf K Z (tMethW cn m P dws XF Ta Tr) σ H Q) : tMethR C m (spL K P) dvs E (Lf K Z Ta) (LfA K Z Tr) σ H Q := by
  obtain ⟨S, G, R, sr, t, k⟩ := h
  refine Lf.go sr t fun w G1 v H1 t1 f1 r1 h1 => ?_
  split at t1
  · rename_i fs e
    obtain ⟨hl, t1⟩ := t1
    obtain ⟨a, C', dx, fvs, rfl, hC', ha, rf⟩ := ins_of e r1 h1
    have := hC'.inj hC
    subst this
    have hl' : fvs.lookup m = none := by
      rcases RKV.lookup m rf with ⟨_, z⟩ | ⟨v, w, _, z, _⟩
      · exact z
      · rw [hl] at z; cases z
    refine ⟨a, dx, fvs, rfl, ha, hl', LfA.go (sr.next f1 h1) t1 fun ws G2 vs H2 t2 f2 rs h2 => ?_⟩
    exact ⟨w :: (ws ++ dws), G2, R, XF, .cons (r1.mono f2 h1) (rs.append (hdw H2)), h2, t2, fun w G' v H' q f3 rv rh => k w G' v H' q (f1.trans (f2.trans f3)) rv rh, .no⟩
  · exact t1.elim
theorem we_m (D : MethD X.prog X.w X.K X.mg X.base CX0 k cn m ps dws P) {pl : Sem Bool} (hgd : X.A.guards = some []) (hr : Room j X.A) (he : WE X Z o Ta) (ha : WA X Z (e :: es) Tr) (hk : k ≤ j := by decide)
    (hst : starEach (e :: es) X.env = (false, eval e X.env) :: starEach es X.env := by rfl) (hpl : (backTo pos (starEach es X.env)).any (·.1) = false := by rfl)
    (ht : eval (.Call (.Attribute o m apos) (e :: es) [] pos) X.env = (do
      let ov ← eval o X.env
      standAt apos.atName
      let (f, first) ← holding [ov] (getMethod ov m pl)
      callWith pos f first (backTo pos (starEach (e :: es) X.env)) (backToKw pos (keywordEach [] X.env))) := by rfl) :
    WE X Z (.Call (.Attribute o m apos) (e :: es) [] pos) (tMethW cn m P dws XF Ta Tr) := by
  obtain ⟨C, f, fd, dvs, ds, hC, hcls, hm, F, hb, hd, hdw⟩ := D.ex
  exact (pe_methG he hcls hm F hgd (hr.mono hk) hb hd pass0 ha hst hpl ht).weak (lfMethG hC hdw)
theorem we_mX (D : MethD X.prog X.w X.K X.mg X.base (L2.CX X.prog X.w) k cn m ps dws P) {pl : Sem Bool} (hgd : X.A.guards = some []) (hr : Room j X.A) (he : WE X Z o Ta) (ha : WA X Z (e :: es) Tr) (hk : k ≤ j := by decide)
    (hst : starEach (e :: es) X.env = (false, eval e X.env) :: starEach es X.env := by rfl) (hpl : (backTo pos (starEach es X.env)).any (·.1) = false := by rfl)
    (ht : eval (.Call (.Attribute o m apos) (e :: es) [] pos) X.env = (do
      let ov ← eval o X.env
      standAt apos.atName
      let (f, first) ← holding [ov] (getMethod ov m pl)
      callWith pos f first (backTo pos (starEach (e :: es) X.env)) (backToKw pos (keywordEach [] X.env))) := by rfl) :
    WE X Z (.Call (.Attribute o m apos) (e :: es) [] pos) (tMethW cn m P dws XF Ta Tr) := by
  obtain ⟨C, f, fd, dvs, ds, hC, hcls, hm, F, hb, hd, hdw⟩ := D.ex
  exact (pe_methG he hcls hm F hgd (hr.mono hk) hb hd passL ha hst hpl ht).weak (lfMethG hC hdw)
theorem lfMethG0 {E : XK} (hC : ClsAt K cn C) (hdw : ∀ H, RVs K H dvs dws) (σ : L2.St) (H : Hp) (Q : VK) (h : Lf K Z (tMethW cn m P dws XF Ta tN) σ H Q) : tMethR C m (spL K P) dvs E (Lf K Z Ta) tNil σ H Q := by
  obtain ⟨S, G, R, sr, t, k⟩ := h
  refine Lf.go sr t fun w G1 v H1 t1 f1 r1 h1 => ?_
  split at t1
  · rename_i fs e
    obtain ⟨hl, t1⟩ := t1
    obtain ⟨a, C', dx, fvs, rfl, hC', ha, rf⟩ := ins_of e r1 h1
    have := hC'.inj hC
    subst this
    have hl' : fvs.lookup m = none := by
      rcases RKV.lookup m rf with ⟨_, z⟩ | ⟨v, w, _, z, _⟩
      · exact z
      · rw [hl] at z; cases z
    refine ⟨a, dx, fvs, rfl, ha, hl', ?_⟩
    exact ⟨w :: ([] ++ dws), G1, R, XF, .cons r1 (by simpa using hdw H1), h1, t1, fun w G' v H' q f3 rv rh => k w G' v H' q (f1.trans f3) rv rh, .no⟩
  · exact t1.elim
theorem we_m0 (D : MethD X.prog X.w X.K X.mg X.base CX0 k cn m ps dws P) {pl : Sem Bool} (hgd : X.A.guards = some []) (hr : Room j X.A) (he : WE X Z o Ta) (hk : k ≤ j := by decide)
    (ht : eval (.Call (.Attribute o m apos) [] [] pos) X.env = (do
      let ov ← eval o X.env
      standAt apos.atName
      let (f, first) ← holding [ov] (getMethod ov m pl)
      callWith pos f first (backTo pos (starEach [] X.env)) (backToKw pos (keywordEach [] X.env))) := by rfl) :
    WE X Z (.Call (.Attribute o m apos) [] [] pos) (tMethW cn m P dws XF Ta tN) := by
  obtain ⟨C, f, fd, dvs, ds, hC, hcls, hm, F, hb, hd, hdw⟩ := D.ex
  exact (pe_methG0 he hcls hm F hgd (hr.mono hk) hb hd pass0 ht).weak (lfMethG0 hC hdw)
theorem run_makeG {pins : List (Addr × Obj)} {σ : L2.St} {H : Hp} {s : Shared} {Q : VK} {us : List Value} {vs : List V} (M : Mk X.K C f) (F : FnG X.prog X.w X.K X.mg X.base CX k f fd ps sp) (hgd : X.A.guards = some []) (hr : Room (k + 1) X.A) (hb : Binds X.K fd ps ds) (hd : Vals dvs ds)
    (hx : Passes CX X E) (I : Inv X pins σ H s) (r : Vals vs us)
    (h : ∀ x dx, H x = none → H dx = none → dx ≠ x → sp (.ref x :: (vs ++ dvs)) (upd (upd H dx (.own x)) x (.ins C dx [])) (fun v H2 => v = .non ∧ Q (.ref x) H2) E) :
    wpAny (model X.prog X.w) X.A (call (.ref C) us) (EP X pins σ Q) X.xe s := by
  have hq := h (s.heap.objs.size + 1) s.heap.objs.size (I.hok.fresh (Nat.le_succ _)) (I.hok.fresh (Nat.le_refl _)) (Nat.ne_of_lt (Nat.lt_succ_self _))
  have I2 := Inv.made (C := C) I
  have r2 : Vals (V.ref (s.heap.objs.size + 1) :: (vs ++ dvs)) (Value.ref (s.heap.objs.size + 1) :: (us ++ ds)) := .cons rfl (r.append hd)
  have hl : (Value.ref (s.heap.objs.size + 1) :: us ++ ds).length = ps.length := by
    have e := r2.length
    rw [F.size hq] at e
    exact e.symm
  refine wpAny_call (make_map (f := f) I.kIn M.makes M.init (beq_iff_eq.mp M.fn) (codeAny_mono (F.goes (out := X.stack) (as := ⟨Value.ref (s.heap.objs.size + 1) :: us, []⟩) (us := Value.ref (s.heap.objs.size + 1) :: (us ++ ds)) (E := E) ?_ (hr.make C us [])
    (I2.env0.make C us []) (hb _ (Value.ref (s.heap.objs.size + 1) :: us) I2.kIn hl) r2 hq) fun r s' hq' => ?_))
  · have eg : (Code.builtin "type.__call__" ⟨Value.ref C :: us, []⟩).guards = [] := by first | rfl | simp [Code.guards, Code.isGuard, guardIds]
    unfold Around.under
    dsimp only
    rw [eg, hgd]; rfl
  cases r with
  | error e => exact hx pins σ _ _ e s' I2 hq'
  | ok fl =>
    cases fl with
    | ret u =>
      obtain ⟨v, H', I3, rv, ev, q3⟩ := I2.after hq'
      subst ev
      exact ⟨rv, ⟨V.ref (s.heap.objs.size + 1), H', I3, rfl, q3⟩⟩
    | next => exact False.elim hq'
    | brk => exact False.elim hq'
    | cont => exact False.elim hq'
theorem pe_makeG (M : Mk X.K C f) (F : FnG X.prog X.w X.K X.mg X.base CX k f fd ps sp) (hgd : X.A.guards = some []) (hr : Room (k + 1) X.A) (hg : Gl X x) (hm : X.mg x = some (.ref C)) (hb : Binds X.K fd ps ds) (hd : Vals dvs ds) (hx : Passes CX X E)
    (ha : PA X (e :: es) t) (hdb : (x == ("__debug__" : Str)) = false := by decide) (he : starEach (e :: es) X.env = (false, eval e X.env) :: starEach es X.env := by rfl) (hpl : (backTo pos (starEach es X.env)).any (·.1) = false := by rfl) :
    PE X (.Call (.Name x p) (e :: es) [] pos) (tMake C sp dvs E t) := by
  refine ⟨fun pins s σ H Q I h => ?_⟩
  refine wpAny_Call_Name_kw (ld_glob I hg hm ?_ hdb)
  refine PySem.W.callWith_K (h₀ := X.base) I.ok.mod.kin M.kp (thn (ha.run pos pins s σ H _ I h) fun us s1 ⟨vs, H1, I1, r, q⟩ => ⟨I1.kIn, ?_⟩) he hpl
  exact run_makeG M F hgd hr hb hd hx I1 r q
def tMakeW (c : Str) (P : SpW) (dws : List W) (Tr : TWA) : TW := fun S G R => Tr S G fun ws G1 => ∀ x, G1 x = none → P (.ref x :: (ws ++ dws)) (updG G1 x (.ins c [])) (fun w G2 => w = .non ∧ R (.ref x) G2) XF
theorem lfMake {E : XK} (hC : ClsAt K cn C) (hdw : ∀ H, RVs K H dvs dws) (σ : L2.St) (H : Hp) (Q : VK) (h : Lf K Z (tMakeW cn P dws Tr) σ H Q) : tMake C (spL K P) dvs E (LfA K Z Tr) σ H Q := by
  obtain ⟨S, G, R, sr, t, k⟩ := h
  refine LfA.go sr t fun ws G1 vs H1 t1 f1 rs h1 x dx hx hdx ne => ?_
  have fa : FR G1 H1 G1 (upd H1 dx (.own x)) := .new hdx
  have ha := h1.new (u := .own x) hdx
  have hx2 : upd H1 dx (.own x) x = none := by rw [upd_ne ne.symm]; exact hx
  have hb := ha.newG (o := .ins cn []) (u := .ins C dx []) hx2 ⟨C, dx, [], hC, upd_same, .nil⟩
  have fb : FR G1 (upd H1 dx (.own x)) (updG G1 x (.ins cn [])) (upd (upd H1 dx (.own x)) x (.ins C dx [])) := .newG hx2
  have f2 := fa.trans fb
  exact ⟨.ref x :: (ws ++ dws), _, _, XF, .cons (.ref x) ((rs.mono f2 h1).append (hdw _)), hb, t1 x (h1.free hx), fun w G' v H' q f3 rv rh => by
    obtain ⟨rfl, q⟩ := q
    cases rv
    exact ⟨rfl, k _ _ _ _ q (f1.trans (f2.trans f3)) (.ref x) rh⟩, .no⟩
theorem we_mk (D : MakeD X.prog X.w X.K X.mg X.base CX0 k cn ps dws P) (hgd : X.A.guards = some []) (hr : Room j X.A) (hg : Gl X cn) (ha : WA X Z (e :: es) Tr) (hk : k + 1 ≤ j := by decide)
    (hdb : (cn == ("__debug__" : Str)) = false := by decide) (he : starEach (e :: es) X.env = (false, eval e X.env) :: starEach es X.env := by rfl) (hpl : (backTo pos (starEach es X.env)).any (·.1) = false := by rfl) :
    WE X Z (.Call (.Name cn p) (e :: es) [] pos) (tMakeW cn P dws Tr) := by
  obtain ⟨C, f, fd, dvs, ds, hC, M, hm, F, hb, hd, hdw⟩ := D.ex
  exact (pe_makeG M F hgd (hr.mono hk) hg hm hb hd pass0 ha hdb he hpl).weak (lfMake hC hdw)
end
end WL
set_option Elab.async false
set_option linter.all false
set_option maxRecDepth 100000
set_option maxHeartbeats 4000000
namespace WL
open PySem PySem.Spec PyProof.Rows L2 PySem.W
section
variable {P : Program} {w : World} {K : PySem.W.Frag} {mg : Str → Option Value} {base : Heap} {CX : CXT} {x qual : Str} {st : Stmt} {f : Addr} {fd : FuncData} {N ps : List Str} {k j : Nat} {sp : Sp} {Q : SpW} {dvs : List V} {kws : List (Str × V)}
theorem fn_gD (F : FunD K x qual (defArgs st) (defBody st) (defScope st) dvs kws f fd) (S : FnScope N ps (defScope st)) (len : ∀ vs H Q E, sp vs H Q E → vs.length = ps.length)
    (body : ∀ (cdv : Value) (A : Around) (out : List Env) (s : Shared) (H : Hp) (vs : List V) (Q : VK) (E : XK), A.guards = some [] → Room k (A.deeper (envOfC qual (defScope st) s.heap.objs.size f cdv)) → sp vs H Q E →
      ∃ t, PSs (cxOf CX P w K mg base N qual (defScope st) f cdv A out s H E) (defBody st) t ∧ t { nx := fun _ H' => Q .non H', rt := Q } (start N vs) H) : FnG P w K mg base CX (k + 1) f fd ps sp := by
  obtain ⟨oc, od, dV, kV, doc, pm, an, cdv, ct, osl, rfl, lk, hcd, _, _⟩ := F.ex
  refine ⟨fun h => len _ _ _ _ h, fun {A out s H as us vs Q E} hgd hr e0 hb r hsp => ?_⟩
  have kin : K.In s.heap := e0.mod.kin.keeps fun b o e => (e0.bs b o e).1
  have places : ∀ y ∈ ps.zip us, (defScope st).names.lookup y.1 = some .local ∨ ((defScope st).names.lookup y.1 = some .cell ∧ ((cellsFrom (s.heap.objs.size + 1) (defScope st).names []).lookup y.1).isSome = true) := by
    rintro ⟨n, v⟩ hy
    have z := S.par n (List.of_mem_zip hy).1
    exact z.imp id fun q => ⟨q, PySem.W.cellsFrom_some _ _ _ (.inl q)⟩
  refine codeAny_call_function hr.depth (kin _ _ lk) rfl S.co S.gen rfl (PySem.W.codeRec_of kin hcd) (hb _ _ _ _ (wpAny_newFunctionEnv_cells S.kind places fun env he s1 xx => ?_))
  subst he
  refine ⟨(e0.mod.nolimit.keeps fun b o e => (e0.bs b o e).1).keeps xx.toInCall.keep, codeAny_func ?_⟩
  obtain ⟨t, ht, hq⟩ := body cdv A out s H vs Q E hgd (hr.deeper _) hsp
  have J0 : Inv (cxOf CX P w K mg base N qual (defScope st) f cdv A out s H E) [] (start N vs) H s1 := inv_start S hr.hd e0 (len _ _ _ _ hsp) r xx
  refine wpAny_mono (ht.run [] s1 (start N vs) H _ J0 hq) (fun fl s' hs => ?_) fun _ _ z => z
  cases fl with
  | ret u =>
    obtain ⟨v, σ', H', J, rv, q⟩ := hs
    exact ⟨v, H', J.os, J.bare, J.base, J.hok, rv, q⟩
  | next =>
    obtain ⟨σ', H', J, q⟩ := hs
    exact ⟨V.non, H', J.os, J.bare, J.base, J.hok, rfl, q⟩
  | brk => exact (show False from hs.choose_spec.choose_spec.2).elim
  | cont => exact (show False from hs.choose_spec.choose_spec.2).elim
theorem okFDX (F : FunD K x qual (defArgs st) (defBody st) (defScope st) dvs kws f fd) (S : FnScope N ps (defScope st)) (len : ∀ ws G R RX, Q ws G R RX → ws.length = ps.length)
    (hbody : ∀ (cdv : Value) (A : Around) (outer : List Env) (s : Shared) (H : Hp) (E : XK) (ws : List W) (G : GH) (R : KW) (RX : XW), A.guards = some [] → Room k (A.deeper (envOfC qual (defScope st) s.heap.objs.size f cdv)) → XL K G H RX E → Q ws G R RX →
      ∃ T : TWS, WSs (cxOf (L2.CX P w) P w K mg base N qual (defScope st) f cdv A outer s H E) (G, H) (defBody st) T ∧ T { nx := fun _ G' => fgt R .non G', rt := fgt R } (startW N ws) G) : FnG P w K mg base (L2.CX P w) (k + 1) f fd ps (spL K Q) := by
  refine fn_gD F S (fun vs H R E h => ?_) fun cdv A outer s H vs Qv E hgd hr h => ?_
  · obtain ⟨ws, G, R, RX, rs, rh, t, _⟩ := h
    rw [rs.length]; exact len ws G R RX t
  · obtain ⟨ws, G, R, RX, rs, rh, t, kl, kx⟩ := h
    obtain ⟨T, hT, q⟩ := hbody cdv A outer s H E ws G R RX hgd hr kx t
    have kl := kl.fgt
    refine ⟨_, hT, startW N ws, G, _, ⟨.refl, ?_, rh⟩, q, ⟨fun S' G' σ' H' d sr f => kl _ _ _ _ d f .non sr.rh, fun w G' v H' d f rv rh' => kl _ _ _ _ d f rv rh', fun _ _ _ _ d => d.elim, fun _ _ _ _ d => d.elim⟩⟩
    unfold L2.start startW
    rw [← rs.length]
    exact Paired.app (startW_ok rs) (Paired.reps (fun w e => by cases e) _)
end
end WL
set_option Elab.async false
set_option linter.all false
set_option maxRecDepth 100000
set_option maxHeartbeats 4000000
namespace WL
open PySem PySem.Spec PyProof.Rows L2 PySem.W
theorem tupDict_store {X : Cx} {pins : List (Addr × Obj)} {σ : L2.St} {H : Hp} {s : Shared} {E : Value → Shared → Prop} {D b : Addr} {kvs : List (List Key × V)} {k : List Key} {v : V} {u r : Value} {Q : Unit → Shared → Prop} (hu : X.A.units < cLine) (I : Inv X pins σ H s) (hD : H D = some (.dT kvs)) (hz : kvs.length < sizeLine)
    (eb : H b = some (.tup (k.map kV))) (ry : RelV (.ref b) u) (rv : RelV v r) (h : ∀ s', Inv X pins σ (upd H D (.dT (putK kvs k v))) s' → Q () s') : wpAny (model X.prog X.w) X.A (dictSet D u r) Q E s := by
  cases (show u = Value.ref b from ry)
  obtain ⟨z, hd, xs, rel, dd⟩ := dt_of I.hok hD
  have hlen := Paired.length rel
  refine wpAny_dictSet_heap (hsz := by omega) (show X.A.units < cLine from hu) (key_of I.hok eb) dd fun h' dd' hs => h _ ?_
  obtain ⟨q, es, ep, hq, h2, h3, h4, _, h5⟩ := dd'
  have hl : (putK kvs k v).length ≤ sizeLine := by have := length_putK kvs k v; omega
  refine d_write I (by rw [hD]; exact True.intro) hs ⟨q, hq⟩ ⟨hl, hd, _, (rel.put k eb rv).keeps fun c ys ec => ?_, q, es, ep, hq, h2, h3, h4, h5⟩
  rw [upd_ne (ne_of ec hD (fun z => nomatch z))]
  exact ec
section
variable {X : Cx}
def tTd (wi : TI) (g : TG) (tt : TT) (tk tv : TE) (vs : List Nat) : TE := fun σ H Q => wi σ H fun J H1 => ∀ D, H1 D = none → ∃ W : Nat → Nat → Hp → Prop, (∃ m, W 0 m (upd H1 D (.dT []))) ∧ ∀ i m H, W i m H →
  (J.stop i H ∧ Q (.ref D) H) ∨ (J.go i H ∧ ∃ Nx : Hp → Prop, (∀ H', Nx H' → ∃ m', m' < m ∧ W (i + 1) m' H') ∧ ∀ x H', J.yld i H x H' → g x (L2.wipe σ vs) H' fun σ2 H2 => L2.wipe σ2 vs = L2.wipe σ vs ∧ tt σ2 H2 fun b H3 =>
    if b = true then tk σ2 H3 fun y H4 => tv σ2 H4 fun z H5 => ∃ kvs k b, y = .ref b ∧ H5 b = some (.tup (k.map kV)) ∧ H5 D = some (.dT kvs) ∧ kvs.length < sizeLine ∧ Nx (upd H5 D (.dT (putK kvs k z))) else Nx H3)
theorem tupDict_core {pins : List (Addr × Obj)} {s : Shared} {σ : L2.St} {H : Hp} {Q : VK} {kx vx tg iter : Expr} {ifs : List Expr} {scope : Scope} {own : List (Str × Nat)} {pos pos' : Pos} {wi : TI} {g : TG} {tt : TT} {tk tv : TE} {use : Option (Value → Sem Unit)} {Qf : Value → Shared → Prop}
    (hu : X.A.units < cLine) (hc : X.calm = true) (hN : X.N.Nodup) (I : Inv X pins σ H s) (hi : PI X tg iter wi) (ok : BlkOk X.N X.env.scope scope own)
    (hg : ∀ (s : Shared) (H : Hp) (C : Addr) (cl : List (Str × Addr)) (fp : List Addr), PG (X.blk s H scope (compEnvC scope cl C X.env) fp) tg g) (ht : ∀ (s : Shared) (H : Hp) (C : Addr) (cl : List (Str × Addr)) (fp : List Addr), PTs (X.blk s H scope (compEnvC scope cl C X.env) fp) ifs tt)
    (hk : ∀ (s : Shared) (H : Hp) (C : Addr) (cl : List (Str × Addr)) (fp : List Addr), PE (X.blk s H scope (compEnvC scope cl C X.env) fp) kx tk)
    (he : ∀ (s : Shared) (H : Hp) (C : Addr) (cl : List (Str × Addr)) (fp : List Addr), PE (X.blk s H scope (compEnvC scope cl C X.env) fp) vx tv) (hs : ∀ x, foldedSetIterable iter X.env x = pure x)
    (h : tTd wi g tt tk tv (own.map (·.2)) σ H Q)
    (hRR : ∀ D C s' m H', Inv X pins σ H' s' → Q (.ref D) H' → s'.heap.Ns C m → FpOk X pins H' C → compPost (model X.prog X.w) X.A X.xe use Qf (.ref D) C (.ok .next) s') :
    wpAny (model X.prog X.w) X.A (comprehension (.DictComp kx vx [⟨tg, iter, ifs, 0⟩] scope pos) scope X.env pos' newDict false (eval iter X.env) use) Qf X.xe s := by
  have hfree : ∀ y ∈ scope.names, y.2 = .free → ∃ c, X.env.cells.lookup y.1 = some c := fun y hy e => by
    rcases ok.free y hy e with k | k
    · exact I.ok.has _ (.inl k)
    · exact I.ok.has _ (.inr k)
  refine wpAny_comprehension_free (use := use) rfl hs (closure_ok hfree) ok.kind (fun y hy e => by rw [ok.uniq y hy, e])
    (thn (hi.run pins s σ H _ I h) fun xv s1 hx => thn hx fun itv s2 h2 => ?_)
  obtain ⟨it, fp, tn, J, H2, e, I2, T, st2, f2, q⟩ := h2
  subst e
  refine wpAny_newObj_type (newEnv_comp ?_)
  generalize hD : s2.heap.objs.size = D
  have hDn : H2 D = none := I2.hok.fresh (Nat.le_of_eq hD)
  obtain ⟨W, ⟨m0, init0⟩, oneTurn⟩ := q D hDn
  -- the new list
  generalize hs3 : ({ s2 with heap := s2.heap.push { cls := .type "dict", data := .dict #[] } } : Shared) = s3
  have I3 : Inv X pins σ (upd H2 D (.dT [])) s3 := by
    rw [← hs3]
    refine I2.laid (t' := s2.toks) (fun b o e => Heap.get?_push_of_some _ e) (Nat.le_of_eq hD) ?_
    rw [← hD]
    exact dt_empty s2.heap I2.big
  have h3 : s3.heap = s2.heap.push { cls := .type "dict", data := .dict #[] } := by rw [← hs3]
  have sz : ∀ b ∈ fp, b < s2.heap.objs.size := fun b hb => by
    obtain ⟨o, e, _⟩ := T.obj _ _ st2 b hb
    exact Heap.lt_size e
  have f3 : ∀ b ∈ fp, FpOk X pins (upd H2 D (.dT [])) b ∧ b < s3.heap.objs.size := fun b hb => by
    have hlt := sz b hb
    refine ⟨⟨?_, (f2 b hb).2⟩, by rw [h3, Heap.size_push]; exact Nat.lt_succ_of_lt hlt⟩
    rw [upd_ne (by rw [← hD]; exact Nat.ne_of_lt hlt)]
    exact (f2 b hb).1
  have walk3 : tn 0 s3.heap := T.keep _ _ _ st2 fun b _ o e => by rw [h3]; exact Heap.get?_push_of_some _ e
  have I4 := block_start I3 ok hN f3
  have pg := hg s3 (upd H2 D (.dT [])) s3.heap.objs.size (cellsFrom (s3.heap.objs.size + 1) scope.names (cloFrom X.env.cells scope.names [])) fp
  have pt := ht s3 (upd H2 D (.dT [])) s3.heap.objs.size (cellsFrom (s3.heap.objs.size + 1) scope.names (cloFrom X.env.cells scope.names [])) fp
  have pk := hk s3 (upd H2 D (.dT [])) s3.heap.objs.size (cellsFrom (s3.heap.objs.size + 1) scope.names (cloFrom X.env.cells scope.names [])) fp
  have pe := he s3 (upd H2 D (.dT [])) s3.heap.objs.size (cellsFrom (s3.heap.objs.size + 1) scope.names (cloFrom X.env.cells scope.names [])) fp
  show codeAny _ _ (.compStart (.DictComp kx vx [⟨tg, iter, ifs, 0⟩] scope pos) 0 (.ref it) (.ref D) (compEnvC scope (cellsFrom (s3.heap.objs.size + 1) scope.names (cloFrom X.env.cells scope.names [])) s3.heap.objs.size X.env)) (compPost (model X.prog X.w) X.A X.xe use Qf (.ref D) s3.heap.objs.size) { s3 with heap := pushCells (s3.heap.push { cls := .type "dict", data := .dict #[] }) scope.names }
  have offIt : ∀ b ∈ fp, (upd H2 D (.dT [])) b = none := fun b hb => (f3 b hb).1.1
  generalize envEq : compEnvC scope (cellsFrom (s3.heap.objs.size + 1) scope.names (cloFrom X.env.cells scope.names [])) s3.heap.objs.size X.env = ce at I4 pg pt pk pe ⊢
  have locEq : ce.locals = s3.heap.objs.size := by subst envEq; rfl
  generalize hH3 : upd H2 D (.dT []) = H3 at I3 I4 pg pt pk pe init0 offIt f3
  generalize hs4 : ({ s3 with heap := pushCells (s3.heap.push { cls := .type "dict", data := .dict #[] }) scope.names } : Shared) = s4 at I4 ⊢
  have walk4 : tn 0 s4.heap := T.keep _ _ _ walk3 fun b _ o e => by rw [← hs4]; exact pushCells_keeps _ _ _ _ (Heap.get?_push_of_some _ e)
  have freshFp : ∀ {σ' : L2.St} {H' : Hp} {s' : Shared}, Inv (X.blk s3 H3 scope ce fp) [] σ' H' s' → (∀ b ∈ fp, H' b = none) → ∀ b ∈ fp, FpOk (X.blk s3 H3 scope ce fp) [] H' b := fun {σ' H' s'} I' hn b hb =>
    ⟨hn b hb, (I'.ok.exf b hb).1, I'.ok.exfs b hb, .inl hb, fun x c e => (I'.ok.exf b hb).2 x c e, fun p hp => absurd (show p ∈ ([] : List (Addr × Obj)) ++ [] from hp) (by simp)⟩
  have walkAll : codeAny (model X.prog X.w) X.A (.compLoop (.DictComp kx vx [⟨tg, iter, ifs, 0⟩] scope pos) 0 (.ref it) (.ref D) ce) (compPost (model X.prog X.w) X.A X.xe use Qf (.ref D) s3.heap.objs.size) s4 := by
    refine compLoop_anyD (fun n s' => ∃ i H', Inv (X.blk s3 H3 scope ce fp) [] (L2.wipe σ (own.map (·.2))) H' s' ∧ tn i s'.heap ∧ (∀ b ∈ fp, H' b = none) ∧ W i n H') ?_ m0 ⟨0, H3, I4, walk4, offIt, init0⟩
    rintro n s5 ⟨i, H5, J5, st5, n5, w5⟩
    rcases oneTurn i n H5 w5 with ⟨stop, qq⟩ | ⟨go, Nx, hNx, step⟩
    · have td := T.done (X.blk s3 H3 scope ce fp) rfl rfl rfl hc i [] s5 _ H5 (fun _ _ => False) J5 (freshFp J5 n5) st5 stop
      refine thnF td fun r s6 ⟨hr, J6⟩ => ?_
      subst hr
      -- back in the def's context
      have J7 : Inv X pins σ H5 s6 := I3.call' (ch := fp) J6.os J6.base J6.hok J6.bare fun b hb => ⟨(f3 b hb).1.2.2.2.1, (f3 b hb).1.2.1, (f3 b hb).1.2.2.2.2.1, (f3 b hb).1.2.2.2.2.2⟩
      have nC : H5 s3.heap.objs.size = none := by
        have z : H5 ce.locals = none := J6.free
        rw [locEq] at z
        exact z
      obtain ⟨m, hn, _⟩ := J6.loc
      have hn : s6.heap.Ns ce.locals m := hn
      rw [locEq] at hn
      exact hRR D s3.heap.objs.size s6 m H5 J7 qq hn (I3.fpOk (Nat.le_refl _) nC)
    · have ti := T.item (X.blk s3 H3 scope ce fp) rfl rfl rfl hc i [] s5 _ H5 (fun _ _ => False) J5 (freshFp J5 n5) st5 go
      refine thnF ti fun r s6 ⟨u, hr, h6⟩ => ?_
      subst hr
      refine thnF h6 fun _ s7 ⟨x, H7, J7, r7, y7, st7, n7⟩ => ?_
      have J7p := J7.pinned (freshFp J7 n7) (T.obj _ _ st7)
      refine thnF (pg.run _ s7 _ H7 x u _ J7p r7 (step x H7 y7)) fun _ s8 ⟨σ8, H8, J8, hw8, q8⟩ => ?_
      refine thnF (pt.run _ s8 σ8 H8 _ J8 q8) fun b s9 ⟨H9, J9, q9⟩ => ?_
      -- the turn's end
      have goOn : ∀ {s' : Shared} {H' : Hp}, Inv (X.blk s3 H3 scope ce fp) ([] ++ pinsAt fp s7.heap) σ8 H' s' → Nx H' → ∃ m, m < n ∧ ∃ i H', Inv (X.blk s3 H3 scope ce fp) [] (L2.wipe σ (own.map (·.2))) H' s' ∧ tn i s'.heap ∧ (∀ b ∈ fp, H' b = none) ∧ W i m H' := fun {s' H'} I' nx => by
        obtain ⟨m', hm, w'⟩ := hNx H' nx
        have pin' : ∀ b ∈ fp, ∀ o, s7.heap.get? b = some o → s'.heap.get? b = some o ∧ H' b = none := fun b hb o e =>
          let z := I'.pin (b, o) (List.mem_append_right _ (List.mem_append_right _ (mem_pinsAt hb e)))
          ⟨z.1, z.2.1⟩
        have hl : (L2.wipe σ (own.map (·.2))).length = σ8.length := by rw [← hw8, wipe_length]
        refine ⟨m', hm, i + 1, H', (I'.unpinned (pins := [])).weak hl (fun j v e => ?_), T.keep _ _ _ st7 fun b hb o e => (pin' b hb o e).1, fun b hb => ?_, w'⟩
        · rw [← hw8] at e
          exact (wipe_some e).1
        · obtain ⟨o, e, _⟩ := T.obj _ _ st7 b hb
          exact (pin' b hb o e).2
      cases b with
      | false =>
        simp only [Bool.false_eq_true, if_false] at q9 ⊢
        exact goOn J9 q9
      | true =>
        simp only [if_true] at q9 ⊢
        refine thnF (pk.run _ s9 σ8 H9 _ J9 q9) fun z s10 ⟨yk, H10, J10, r10, q10⟩ => ?_
        refine thnF (pe.run _ s10 σ8 H10 _ J10 q10) fun z2 s11 ⟨yv, H11, J11, r11, kvs, k, b, ek, hb11, hD11, hz11, nx⟩ => ?_
        subst ek
        exact tupDict_store (X := X.blk s3 H3 scope ce fp) hu J11 hD11 hz11 hb11 r10 r11 fun s12 J12 => goOn J12 nx
  exact codeAny_compStart_dict walkAll (T.self X.A 0 _ _ _ walk4 walkAll)
theorem pe_tupDict {kx vx tg iter : Expr} {ifs : List Expr} {scope : Scope} {own : List (Str × Nat)} {pos : Pos} {wi : TI} {g : TG} {tt : TT} {tk tv : TE} (hu : X.A.units < cLine) (hc : X.calm = true) (hN : X.N.Nodup) (hi : PI X tg iter wi) (ok : BlkOk X.N X.env.scope scope own)
    (hg : ∀ (s : Shared) (H : Hp) (C : Addr) (cl : List (Str × Addr)) (fp : List Addr), PG (X.blk s H scope (compEnvC scope cl C X.env) fp) tg g) (ht : ∀ (s : Shared) (H : Hp) (C : Addr) (cl : List (Str × Addr)) (fp : List Addr), PTs (X.blk s H scope (compEnvC scope cl C X.env) fp) ifs tt)
    (hk : ∀ (s : Shared) (H : Hp) (C : Addr) (cl : List (Str × Addr)) (fp : List Addr), PE (X.blk s H scope (compEnvC scope cl C X.env) fp) kx tk)
    (he : ∀ (s : Shared) (H : Hp) (C : Addr) (cl : List (Str × Addr)) (fp : List Addr), PE (X.blk s H scope (compEnvC scope cl C X.env) fp) vx tv) (hs : ∀ x, foldedSetIterable iter X.env x = pure x := by intro _; rfl) :
    PE X (.DictComp kx vx [⟨tg, iter, ifs, 0⟩] scope pos) (tTd wi g tt tk tv (own.map (·.2))) := by
  refine ⟨fun pins s σ H Q I h => ?_⟩
  rw [arm_eval_DictComp]
  refine tupDict_core hu hc hN I hi ok hg ht hk he hs h fun D C s' m H' I' q hn f => ⟨m, hn, fun h'' sb => ?_⟩
  obtain ⟨f0, f1, f2, f3, f4, f5⟩ := f
  exact ⟨.ref D, H', I'.turned (t' := s'.toks) (fun b o hb e => (sb.2 b hb).trans e) f0 f1 f3 f4 f5, rfl, q⟩
end
def tkey : W → Option (List Key)
  | .tup ks => keysOf ks
  | _ => none
theorem tkey_val {K : PySem.W.Frag} {H : Hp} {v : V} {w : W} {c : List Key} (r : RV K H v w) (h : tkey w = some c) : ∃ b, v = .ref b ∧ H b = some (.tup (c.map kV)) := by
  cases w with
  | tup ks =>
    cases r with
    | tup q rs =>
      have e1 := keys_of? h
      subst e1
      have e2 := RVs.keys rs
      subst e2
      exact ⟨_, rfl, q⟩
  | _ => cases h
def compT (Gd : GH → Prop) (g : TGW) (tt : TWT) (tk tv : TW) (S0 : WSt) (R : List (List Key × W) → GH → Prop) : List W → GH → List (List Key × W) → Prop
  | [], G, acc => Gd G ∧ R acc G
  | x :: xs, G, acc => Gd G ∧ g x S0 G fun S2 G2 => tt S2 G2 fun b G3 => if b = true then tk S2 G3 fun k G4 => tv S2 G4 fun v G5 => ∃ c, tkey k = some c ∧ acc.length < sizeLine ∧ compT Gd g tt tk tv S0 R xs G5 (putW acc c v) else compT Gd g tt tk tv S0 R xs G3 acc
def tDictT (ti : TIW) (g : TGW) (tt : TWT) (tk tv : TW) (vs : List Nat) : TW := fun S G R => ti S G fun items Gd G1 => compT Gd g tt tk tv (wipeW S vs) (fun acc G2 => ∀ D, G2 D = none → R (.ref D) (updG G2 D (.dT acc))) items G1 []
section
variable {X : Cx} {Z : GH × Hp} {pos : Pos}
theorem lfDictT {K : PySem.W.Frag} {ti : TIW} {gh : TG} {g : TGW} {tt : TWT} {tk tv : TW} {vs : List Nat} (gok : GOk K Z gh g vs) (σ : L2.St) (H : Hp) (Q : VK) (h : Lf K Z (tDictT ti g tt tk tv vs) σ H Q) : tTd (LfI K Z ti) gh (LfT K Z tt) (Lf K Z tk) (Lf K Z tv) vs σ H Q := by
  obtain ⟨S, G, R, sr, t, k⟩ := h
  refine ⟨S, G, _, sr, t, fun items Gd G1 J H1 t1 f1 h1 wi D hD => ?_⟩
  have hz : ∀ o, Z.2 D = some o → Z.1 D ≠ none := fun o e g => by
    have := ((sr.next f1 h1).tk D o e g).1
    rw [hD] at this; cases this
  have hz2 : ∀ o, H D = some o → G D ≠ none := fun o e g => by
    have := (f1 D o e g).1
    rw [hD] at this; cases this
  have gD : G1 D = none := h1.free hD
  refine ⟨fun i m H' => m = items.length - i ∧ i ≤ items.length ∧ ∃ G' acc kvs, H' D = some (.dT kvs) ∧ RKV K H' kvs acc ∧ G' D = none ∧ SR K Z (L2.wipe σ vs) H' (wipeW S vs) G' ∧ FR G1 H1 G' H' ∧ compT Gd g tt tk tv (wipeW S vs) (fun acc G2 => ∀ D, G2 D = none → R (.ref D) (updG G2 D (.dT acc))) (items.drop i) G' acc,
    ⟨items.length, by simp, Nat.zero_le _, G1, [], [], upd_same, .nil, gD, ((sr.next f1 h1).next (.new hD) (h1.new hD)).wipe vs, .new hD, t1⟩, ?_⟩
  rintro i m H2 ⟨rfl, hi, G2, acc, kvs, hd, rs, g2, sr2, f2, t2⟩
  by_cases hlt : i < items.length
  · rw [List.drop_eq_getElem_cons hlt] at t2
    obtain ⟨gd, t2⟩ := t2
    refine .inr ⟨wi.go i G2 H2 f2 sr2.rh gd hlt, fun H' => ∃ G' acc kvs, H' D = some (.dT kvs) ∧ RKV K H' kvs acc ∧ G' D = none ∧ SR K Z (L2.wipe σ vs) H' (wipeW S vs) G' ∧ FR G1 H1 G' H' ∧ compT Gd g tt tk tv (wipeW S vs) (fun acc G2 => ∀ D, G2 D = none → R (.ref D) (updG G2 D (.dT acc))) (items.drop (i + 1)) G' acc, ?_, fun x H3 y => ?_⟩
    · rintro H' ⟨G', acc', kvs', q⟩
      exact ⟨items.length - (i + 1), by omega, rfl, hlt, G', acc', kvs', q⟩
    · obtain ⟨f3, r3, h3⟩ := wi.yld i G2 H2 x H3 items[i] f2 sr2.rh gd (by simp [hlt]) y
      have sr3 := sr2.next f3 h3
      have kp := fun Q' => gok.keeps x (L2.wipe σ vs) H3 Q'
      simp only [wipe_wipe vs fun _ h => h] at kp
      refine kp _ (gok.lift _ _ _ _ (LfG.go r3 sr3 t2 fun S4 G4 σ4 H4 t4 sr4 f4 => ?_))
      refine LfT.go sr4 t4 fun b G5 H5 t5 f5 h5 => ?_
      have f25 : FR G2 H2 G5 H5 := f3.trans (f4.trans f5)
      have d5 := f25 D _ hd g2
      cases b with
      | false => exact iteF ⟨G5, acc, kvs, d5.1, RKV.mono f25 sr2.rh rs, d5.2, sr2.next f25 h5, f2.trans f25, t5⟩
      | true =>
        refine iteT (Lf.go (sr4.next f5 h5) t5 fun w6 G6 v6 H6 t6 f6 r6 h6 => ?_)
        refine Lf.go ((sr4.next f5 h5).next f6 h6) t6 fun w7 G7 v7 H7 t7 f7 r7 h7 => ?_
        have f27 := (f25.trans f6).trans f7
        have d7 := f27 D _ hd g2
        obtain ⟨c, hk, room, t7⟩ := t7
        obtain ⟨b6, rfl, hb6⟩ := tkey_val r6 hk
        refine ⟨kvs, c, b6, rfl, (f7.tup h6 hb6), d7.1, by rw [RKV.length rs]; exact room, G7, putW acc c w7, putK kvs c v7, upd_same, ?_, d7.2, (sr2.next f27 h7).poke d7.1 trivial d7.2 hz, (f2.trans f27).poke (fun o e => by rw [hD] at e; cases e), t7⟩
        exact RKV.put (RKV.poke d7.1 trivial (RKV.mono f27 sr2.rh rs)) (RV.poke d7.1 trivial r7)
  · have e : i = items.length := by omega
    subst e
    rw [List.drop_length] at t2
    refine .inl ⟨wi.stop G2 H2 f2 sr2.rh t2.1, k _ _ _ _ (t2.2 D g2) (fun a o e g => ?_) (.ref D) (fun a o e => ?_)⟩
    · have ne : a ≠ D := fun z => by subst z; exact hz2 o e g
      obtain ⟨q1, q2⟩ := (f1.trans f2) a o e g
      exact ⟨q1, by rw [updG_ne ne]; exact q2⟩
    · by_cases z : a = D
      · subst z; rw [updG_same] at e; cases e; exact ⟨kvs, hd, rs⟩
      · rw [updG_ne z] at e; exact sr2.rh a o e
theorem we_dictT {kx vx tg iter : Expr} {ifs : List Expr} {scope : Scope} {own : List (Str × Nat)} {ti : TIW} {gh : TG} {g : TGW} {tt : TWT} {tk tv : TW} (hu : X.A.units < cLine) (hc : X.calm = true) (hN : X.N.Nodup) (hi : WI X Z tg iter ti) (ok : BlkOk X.N X.env.scope scope own) (gok : GOk X.K Z gh g (own.map (·.2)))
    (hg : ∀ (s : Shared) (H : Hp) (C : Addr) (cl : List (Str × Addr)) (fp : List Addr), PG (X.blk s H scope (compEnvC scope cl C X.env) fp) tg gh) (ht : ∀ (s : Shared) (H : Hp) (C : Addr) (cl : List (Str × Addr)) (fp : List Addr), PTsW (X.blk s H scope (compEnvC scope cl C X.env) fp) Z ifs tt)
    (hk : ∀ (s : Shared) (H : Hp) (C : Addr) (cl : List (Str × Addr)) (fp : List Addr), WE (X.blk s H scope (compEnvC scope cl C X.env) fp) Z kx tk) (he : ∀ (s : Shared) (H : Hp) (C : Addr) (cl : List (Str × Addr)) (fp : List Addr), WE (X.blk s H scope (compEnvC scope cl C X.env) fp) Z vx tv)
    (hs : ∀ x, foldedSetIterable iter X.env x = pure x := by intro _; rfl) : WE X Z (.DictComp kx vx [⟨tg, iter, ifs, 0⟩] scope pos) (tDictT ti g tt tk tv (own.map (·.2))) :=
  (pe_tupDict (tt := LfT X.K Z tt) (tk := Lf X.K Z tk) (tv := Lf X.K Z tv) hu hc hN hi ok hg ht hk he hs).weak (lfDictT gok)
end
section
variable {X : Cx} {Z : GH × Hp}
def lenQ : CW := fun ws G R => match ws with
  | [.tup xs] => R (.int xs.length) G
  | [.kt xs] => R (.int xs.length) G
  | [.fl xs] => R (.int xs.length) G
  | [.str x] => x.length ≤ sizeLine ∧ R (.int x.length) G
  | [.ref p] => match G p with
    | some (.lst xs) => R (.int xs.length) G
    | some (.dK kws) => R (.int kws.length) G
    | some (.dT kws) => R (.int kws.length) G
    | _ => False
  | _ => False
theorem call_lenQ : CallW X (.builtin "len") lenQ := by
  intro pins s σ H xs us Q I r h
  obtain ⟨ws, G, R, rs, rh, t, k⟩ := h
  have old : lenW ws G R → wpAny (model X.prog X.w) X.A (call (.builtin "len") us) (EP X pins σ Q) X.xe s := fun t => call_lenW pins s σ H xs us Q I r ⟨ws, G, R, rs, rh, t, k⟩
  match ws, t, rs, old with
  | [.tup ys], t, rs, old => exact old t
  | [.kt ys], t, rs, old => exact old t
  | [.fl ys], t, rs, old => exact old t
  | [.str x], t, rs, old => exact old t
  | [.ref p], t, rs, old =>
    unfold lenQ at t
    unfold lenW at old
    dsimp only at t old
    split at t
    · rename_i e
      rw [e] at old
      exact old t
    · rename_i e
      rw [e] at old
      exact old t
    · rename_i kws e
      obtain ⟨v, rfl, rv⟩ := rs.one
      cases rv
      obtain ⟨kvs, h1, rr⟩ := rh _ _ e
      exact call_len_dT pins s σ H _ us Q I r ⟨p, kvs, rfl, h1, by rw [RKV.length rr]; exact k.here t (.int _) rh⟩
    · exact t.elim
end
end WL
set_option Elab.async false
set_option linter.all false
set_option maxRecDepth 100000
set_option maxHeartbeats 4000000
namespace WS
open PySem PySem.Spec PyProof.Rows L2 WL
structure NsOk (ns : List Int) : Prop where
  bits : ∀ z ∈ ns, Builtin.Int.intBits z ≤ 1048576
  len : ns.length ≤ 63
structure Dr (ns : List Int) (d : Addr) (G : GH) : Prop where
  at_ : ∃ n : Int, G d = some (.lst [.fl (ns.map W.int), .int n]) ∧ 0 ≤ n
  ok : NsOk ns
theorem Dr.upd {ns : List Int} {G : GH} {d a : Addr} {o : GO} (s : Dr ns d G) (h1 : d ≠ a) : Dr ns d (updG G a o) := by
  obtain ⟨⟨n, h, h0⟩, r⟩ := s
  exact ⟨⟨n, by rw [updG_ne h1]; exact h, h0⟩, r⟩
theorem Dr.off {ns : List Int} {G : GH} {d a : Addr} (s : Dr ns d G) (h : G a = none) : d ≠ a := by
  obtain ⟨⟨n, hd, _⟩, r⟩ := s
  rintro rfl
  rw [hd] at h; cases h
theorem Dr.new {ns : List Int} {G : GH} {d a : Addr} {o : GO} (s : Dr ns d G) (h : G a = none) : Dr ns d (updG G a o) := s.upd (s.off h)
theorem Dr.ext {ns : List Int} {G G' : GH} {d : Addr} (s : Dr ns d G) (x : ExtG G G') : Dr ns d G' := by
  obtain ⟨⟨n, h, h0⟩, r⟩ := s
  exact ⟨⟨n, x _ _ h, h0⟩, r⟩
theorem Dr.ne {ns : List Int} {G : GH} {d a : Addr} {ws : List W} (s : Dr ns d G) (h : G a = some (.lst ws)) (hn : ∀ n, ws ≠ [.fl (ns.map W.int), .int n]) : a ≠ d := by
  rintro rfl
  obtain ⟨⟨n, hd, _⟩, _⟩ := s
  rw [h] at hd
  cases hd
  exact hn n rfl
theorem Dr.start {ns : List Int} {G : GH} {d : Addr} (O : NsOk ns) (h : G d = some (.lst [.fl (ns.map W.int), .int 0])) : Dr ns d G := ⟨⟨0, h, by decide⟩, O⟩
theorem compW_draw {α β : Type} {f : α → W} {g : β → W} {Pz : α → β → Prop} {Gd : GH → Prop} {gt : TGW} {te : TW} {S0 : WSt} {R : List W → GH → Prop} {ns : List Int} {d : Addr} {G : GH}
    (hg : ∀ G', KeepG d G G' → Gd G') : ∀ (xs : List α) (acc : List W) (G1 : GH), KeepG d G G1 → Dr ns d G1 → acc.length + xs.length ≤ sizeLine →
    (∀ x ∈ xs, ∀ (G2 : GH) (R' : KW), KeepG d G G2 → Dr ns d G2 → (∀ z G3, Pz x z → Dr ns d G3 → KeepG d G2 G3 → R' (g z) G3) → gt (f x) S0 G2 fun S2 G2 => te S2 G2 R') →
    (∀ zs G', Paired Pz xs zs → Dr ns d G' → KeepG d G G' → R (acc ++ zs.map g) G') → compW Gd gt tYesW te S0 R (xs.map f) G1 acc
  | [], acc, G1, k, D, _, _, r => ⟨hg _ k, by simpa using r [] G1 .nil D k⟩
  | x :: xs, acc, G1, k, D, hl, st, r => by
    rw [List.length_cons] at hl
    refine ⟨hg _ k, st x List.mem_cons_self G1 _ k D fun z G3 hz D3 k3 => ⟨by omega, ?_⟩⟩
    refine compW_draw hg xs (acc ++ [g z]) G3 (k.trans k3) D3 (by rw [List.length_append, List.length_singleton]; omega) (fun y hy => st y (List.mem_cons_of_mem _ hy)) fun zs G' hzs D' k' => ?_
    have := r (z :: zs) G' (.cons hz hzs) D' k'
    rw [List.map_cons] at this
    simpa using this
theorem Paired.all2 {α β : Type} {P : β → Prop} : ∀ {xs : List α} {zs : List β}, Paired (fun _ z => P z) xs zs → zs.length = xs.length ∧ ∀ z ∈ zs, P z
  | _, _, .nil => ⟨rfl, by simp⟩
  | _, _, .cons h t => by
    obtain ⟨h1, h2⟩ := Paired.all2 t
    refine ⟨by simp [h1], fun z hz => ?_⟩
    rcases List.mem_cons.mp hz with rfl | hz
    · exact h
    · exact h2 z hz
abbrev N__law_mixed : List Str := ["cell", "k", "mix"]
structure P__law_mixed (ws : List W) (G : GH) (R : KW) (RX : XW) : Prop where
  ex : ∃ (c k : Int), ws = [.int c, .int k] ∧ (Builtin.Int.intBits c ≤ 1048576) ∧ (0 ≤ k) ∧ (k ≤ 200) ∧ (∀ r, 0 ≤ r → r < 2147483399 → R (.int r) G)
theorem len__law_mixed : ∀ ws G R RX, P__law_mixed ws G R RX → ws.length = ["cell", "k"].length := by
  rintro ws G R RX ⟨⟨_, _, rfl, _, _, _, _⟩⟩; rfl
def T__law_mixed : TWS :=
  (sSeq (sSet 2 (tOpW modW (tOpW powW (tOpW modW (tOpW mulW (tOpW addW (tOpW addW (tOpW modW (tV 0) (tK (.int 2147483399))) (tOpW mulW (tK (.int 104729)) (tV 1))) (tK (.int 11))) (tK (.int 48271))) (tK (.int 2147483399))) (tK (.int 5))) (tK (.int 2147483399))))
    (sSeq (sIf (tTestW (tOpW ltW (tV 0) (tOpW powW (tK (.int 10)) (tK (.int 18))))) (sRet (tV 2)) sNext)
    (sRet (tOpW modW (tOpW addW (tV 2) (tOpW modW (tOpW fdivW (tV 0) (tOpW powW (tK (.int 10)) (tK (.int 18)))) (tOpW addW (tK (.int 1)) (tOpW mulW (tOpW addW (tV 1) (tK (.int 1))) (tK (.int 4014476939333036189094441199026045136645885247730)))))) (tK (.int 2147483399))))))
theorem pow18 : (10 : Int) ^ Int.toNat 18 = 1000000000000000000 := by decide
theorem cmul_r {a b : Int} (h1 : -(2 ^ 64) < b) (h2 : b < 2 ^ 64) : MulC a b := .inl (.inr ⟨h1, h2⟩)
theorem cmul_l {a b : Int} (h1 : -(2 ^ 64) < a) (h2 : a < 2 ^ 64) : MulC a b := .inl (.inl ⟨h1, h2⟩)
theorem rd__law_mixed (ws : List W) (G : GH) (R : KW) (RX : XW) (h : P__law_mixed ws G R RX) : T__law_mixed { nx := fun _ G' => fgt R .non G', rt := fgt R } (startW N__law_mixed ws) G := by
  obtain ⟨c, k, rfl, hc, hk0, hk, q⟩ := h
  have m1 := Int.emod_nonneg ((c % 2147483399 + 104729 * k + 11) * 48271) (show (2147483399 : Int) ≠ 0 by decide)
  have m2 := Int.emod_lt_of_pos ((c % 2147483399 + 104729 * k + 11) * 48271) (show (0 : Int) < 2147483399 by decide)
  conv => whnf
  refine ⟨(show (0 : Int) < 2147483399 by decide), ?_⟩
  conv => whnf
  refine ⟨cmul_l (by decide) (by decide), ?_⟩
  conv => whnf
  refine ⟨cmul_r (by decide) (by decide), ?_⟩
  conv => whnf
  refine ⟨(show (0 : Int) < 2147483399 by decide), ?_⟩
  conv => whnf
  refine ⟨⟨by decide, by decide, by omega⟩, ?_⟩
  conv => whnf
  refine ⟨(show (0 : Int) < 2147483399 by decide), ?_⟩
  conv => whnf
  refine ⟨⟨by decide, by decide, by decide⟩, ?_⟩
  conv => whnf
  by_cases hb : c < 10 ^ Int.toNat 18
  · rw [decide_eq_true hb]
    conv => whnf
    exact ret (q _ (Int.emod_nonneg _ (by decide)) (Int.emod_lt_of_pos _ (by decide)))
  · rw [decide_eq_false hb]
    conv => whnf
    refine ⟨⟨by decide, by decide, by decide⟩, ?_⟩
    conv => whnf
    refine ⟨?_, ?_⟩
    · rw [pow18]
      exact .inr ⟨by decide, by decide⟩
    conv => whnf
    refine ⟨cmul_l (by omega) (by omega), ?_⟩
    conv => whnf
    refine ⟨by omega, ?_⟩
    conv => whnf
    refine ⟨(show (0 : Int) < 2147483399 by decide), ?_⟩
    exact ret (q _ (Int.emod_nonneg _ (by decide)) (Int.emod_lt_of_pos _ (by decide)))
abbrev N__law_next : List Str := ["draw", "size", "at", "many", "cell"]
structure P__law_next (ws : List W) (G : GH) (R : KW) (RX : XW) : Prop where
  ex : ∃ (ns : List Int) (d : Addr) (size : Int), ws = [.ref d, .int size] ∧ (0 < size) ∧ (Dr ns d G) ∧ (∀ r G', 0 ≤ r → r < size → Dr ns d G' → KeepG d G G' → R (.int r) G')
theorem len__law_next : ∀ ws G R RX, P__law_next ws G R RX → ws.length = ["draw", "size"].length := by
  rintro ws G R RX ⟨⟨_, _, _, rfl, _, _, _⟩⟩; rfl
theorem p__law_next {ns : List Int} {d : Addr} {size : Int} {G : GH} {R : KW} {RX : XW} (hs : 0 < size) (D : Dr ns d G) (q : ∀ r G', 0 ≤ r → r < size → Dr ns d G' → KeepG d G G' → R (.int r) G') : P__law_next [.ref d, .int size] G R RX := ⟨ns, d, size, rfl, hs, D, q⟩
def T__law_next : TWS :=
  (sSeq (sSet 2 (tOpW ixW (tV 0) (tK (.int 1))))
    (sSeq (sAsg (tOpW addW (tV 2) (tK (.int 1))) (gSubW (tV 0) (tK (.int 1)) setQ))
    (sSeq (sSet 3 (tCW (mm2W fun i j => if j > i then j else i) (tCo (tK (.int 1)) (tCo (tCW lenQ (tCo (tOpW ixW (tV 0) (tK (.int 0))) tN)) tN))))
    (sSeq (sSet 4 (tK (.int 0)))
    (sSeq (sIf (tTestW (tOpW (eqQ true) (tOpW ixW (tV 0) (tK (.int 0))) (tFz (tLstW tN)))) (sSet 4 (tOpW ixW (tOpW ixW (tV 0) (tK (.int 0))) (tOpW modW (tV 2) (tV 3)))) sNext)
    (sRet (tOpW modW (tOpW fdivW (tCall0 P__law_mixed [] (tCo (tV 4) (tCo (tOpW modW (tOpW fdivW (tV 2) (tV 3)) (tK (.int 127))) tN))) (tK (.int 7))) (tV 1))))))))
theorem rd__law_next (ws : List W) (G : GH) (R : KW) (RX : XW) (h : P__law_next ws G R RX) : T__law_next { nx := fun _ G' => fgt R .non G', rt := fgt R } (startW N__law_next ws) G := by
  obtain ⟨ns, d, size, rfl, hs, D, q⟩ := h
  have O := D.ok
  obtain ⟨⟨n, hd, hn⟩, _⟩ := D
  have hmn : 0 ≤ n % (if (ns.length : Int) > 1 then (ns.length : Int) else 1) := Int.emod_nonneg _ (by split <;> omega)
  have hmm : ns ≠ [] → n % (if (ns.length : Int) > 1 then (ns.length : Int) else 1) < ns.length := fun h => by
    have := List.length_pos_iff.mpr h
    have e : (if (ns.length : Int) > 1 then (ns.length : Int) else 1) = ns.length := by split <;> omega
    rw [e]
    exact Int.emod_lt_of_pos _ (by omega)
  have hm0 : 0 < (if (ns.length : Int) > 1 then (ns.length : Int) else 1) := by split <;> omega
  have hml : (if (ns.length : Int) > 1 then (ns.length : Int) else 1) < 64 := by have := O.len; split <;> omega
  have h7 : DivC n (if (ns.length : Int) > 1 then (ns.length : Int) else 1) := .inl ⟨hm0, by omega⟩
  have hk0 := Int.emod_nonneg (n / (if (ns.length : Int) > 1 then (ns.length : Int) else 1)) (show (127 : Int) ≠ 0 by decide)
  have hk1 := Int.emod_lt_of_pos (n / (if (ns.length : Int) > 1 then (ns.length : Int) else 1)) (show (0 : Int) < 127 by decide)
  (try conv => whnf); (repeat (first | (rw [hd]; conv => whnf) | (rw [updG_same]; conv => whnf) | (rw [List.length_map]; conv => whnf) | (refine Exists.intro _ (And.intro rfl ?_); conv => whnf) | (refine And.intro rfl ?_; conv => whnf) | (refine frz_lst ?_; conv => whnf) | (refine frz_dK ?_; conv => whnf) | (refine frz_dT ?_; conv => whnf)))
  have D1 : Dr ns d (updG G d (.lst [(W.fl (ns.map W.int)), .int (n + 1)])) := ⟨⟨n + 1, updG_same, by omega⟩, O⟩
  have kp : KeepG d G (updG G d (.lst [(W.fl (ns.map W.int)), .int (n + 1)])) := KeepG.put
  refine ⟨Nat.zero_le _, frz_lst ?_⟩
  refine eqS_hd (n := true) (a := ns) (b := ([] : List Int)) hd_fl (hd_fl (xs := ([] : List Int))) (by decide) ?_
  conv => whnf
  by_cases hns : ns = []
  · rw [decide_eq_true hns]
    (try conv => whnf); (repeat (first | (rw [List.length_map]; conv => whnf) | (refine Exists.intro _ (And.intro rfl ?_); conv => whnf) | (refine And.intro rfl ?_; conv => whnf) | (refine frz_lst ?_; conv => whnf) | (refine frz_dK ?_; conv => whnf) | (refine frz_dT ?_; conv => whnf)))
    refine ⟨h7, (show (0 : Int) < 127 by decide), 0, _, rfl, by decide, hk0, by omega, fun r r0 r1 => ?_⟩
    conv => whnf
    exact ⟨.inl ⟨by decide, by decide⟩, hs, ret (q _ _ (Int.emod_nonneg _ (by omega)) (Int.emod_lt_of_pos _ hs) D1 kp)⟩
  · rw [decide_eq_false hns]
    obtain ⟨z, hz1, hz2, hz3⟩ := atI_map (f := W.int) hmn (hmm hns)
    (try conv => whnf); (repeat (first | (rw [List.length_map]; conv => whnf) | (rw [updG_same]; conv => whnf) | (rw [List.length_map]; conv => whnf) | (refine Exists.intro _ (And.intro rfl ?_); conv => whnf) | (refine And.intro rfl ?_; conv => whnf) | (refine frz_lst ?_; conv => whnf) | (refine frz_dK ?_; conv => whnf) | (refine frz_dT ?_; conv => whnf)))
    refine ⟨hm0, ?_⟩
    (try conv => whnf); (repeat (first | (rw [List.length_map]; conv => whnf) | (refine Exists.intro _ (And.intro rfl ?_); conv => whnf) | (refine And.intro rfl ?_; conv => whnf) | (refine frz_lst ?_; conv => whnf) | (refine frz_dK ?_; conv => whnf) | (refine frz_dT ?_; conv => whnf)))
    refine ⟨_, hz3, ?_⟩
    conv => whnf
    refine ⟨h7, (show (0 : Int) < 127 by decide), z, _, rfl, O.bits z hz2, hk0, by omega, fun r r0 r1 => ?_⟩
    conv => whnf
    exact ⟨.inl ⟨by decide, by decide⟩, hs, ret (q _ _ (Int.emod_nonneg _ (by omega)) (Int.emod_lt_of_pos _ hs) D1 kp)⟩
end WS
set_option Elab.async false
set_option linter.all false
set_option maxRecDepth 100000
set_option maxHeartbeats 4000000
namespace WS
open PySem PySem.Spec PyProof.Rows L2 WL
theorem goI_neg {ls : List Int} {l : Int} (h : 1 ≤ absI l) : goI ls (-l) = -goI ls l := by
  unfold absI at h
  unfold goI
  by_cases c : l > 0
  · rw [if_pos c, if_neg (by omega), Int.neg_neg]
  · rw [if_neg c, if_pos (by split at h <;> omega), Int.neg_neg]
end WS
namespace WL
open PySem PySem.Spec PyProof.Rows L2
theorem LetOf.neg {many l : Int} (h : LetOf many l) : LetOf many (-l) := by unfold LetOf; rw [absI_neg]; exact h
theorem LetOf.ofPos {many k : Int} (h0 : 1 ≤ k) (h1 : k ≤ many) : LetOf many k := by
  unfold LetOf absI; rw [if_neg (by omega)]; omega
theorem LetOf.ne {many l : Int} (h : LetOf many l) : l ≠ 0 := by
  unfold LetOf absI at h
  split at h <;> omega
theorem LetOf.cases {many l : Int} (h : LetOf many l) : (1 ≤ l ∧ l ≤ many) ∨ ∃ k, l = -k ∧ 1 ≤ k ∧ k ≤ many := by
  unfold LetOf absI at h
  split at h
  · exact .inr ⟨-l, by omega, h.1, h.2⟩
  · exact .inl h
end WL
namespace WS
open PySem PySem.Spec PyProof.Rows L2 WL
theorem goI_pos {ls : List Int} {k : Int} (h : 1 ≤ k) : goI ls k = ls.getD (k - 1).toNat 0 := by unfold goI; rw [if_pos (by omega)]
theorem goI_nat {ls : List Int} {i : Nat} : goI ls ((i : Int) + 1) = ls.getD i 0 := by rw [goI_pos (by omega)]; congr 1; omega
theorem absI_eq {a b : Int} (h : absI a = absI b) : a = b ∨ a = -b := by unfold absI at h; split at h <;> split at h <;> omega
theorem goI_inj {many : Int} {ls : List Int} (t : TurnOf many ls) {a b : Int} (ha : LetOf many a) (hb : LetOf many b) (e : goI ls a = goI ls b) : a = b := by
  rcases absI_eq (t.inj ha hb (by rw [e])) with h | h
  · exact h
  · subst h
    rw [goI_neg hb.1] at e
    have := (t.go hb).ne
    omega
theorem turn_ext {many : Int} {a b : List Int} (ta : TurnOf many a) (tb : TurnOf many b) (h : ∀ k, 1 ≤ k → k ≤ many → goI a k = goI b k) : a = b := by
  have la := ta.len
  have lb := tb.len
  refine List.ext_getElem (by omega) fun i h1 h2 => ?_
  have := h ((i : Int) + 1) (by omega) (by omega)
  rw [goI_nat, goI_nat, List.getD_eq_getElem?_getD, List.getD_eq_getElem?_getD, List.getElem?_eq_getElem h1, List.getElem?_eq_getElem h2] at this
  exact this
theorem turn_of_go {many : Int} {ls : List Int} (h0 : 1 ≤ many) (h4 : many ≤ 400) (hl : (ls.length : Int) = many) (hm : ∀ l ∈ ls, LetOf many l) (nd : (absL ls).Nodup) : TurnOf many ls := by
  refine ⟨?_, h0, h4⟩
  refine perm_of _ _ nd (fun a ha => ?_) ?_
  · obtain ⟨l, hl, rfl⟩ := List.mem_map.mp ha
    have := hm l hl
    exact rgI_mem.mpr ⟨this.1, by have := this.2; omega⟩
  · rw [rgI_length, List.length_map]; omega
def thenL (a b : List Int) : List Int := a.map (goI b)
theorem go_then {many : Int} {a b : List Int} (ta : TurnOf many a) {l : Int} (h : LetOf many l) : goI (thenL a b) l = goI b (goI a l) := by
  have la := ta.len
  have pos : ∀ k, 1 ≤ k → k ≤ many → goI (thenL a b) k = goI b (goI a k) := fun k h0 h1 => by
    rw [goI_pos h0, goI_pos h0]
    unfold thenL
    have : (k - 1).toNat < a.length := by omega
    rw [List.getD_eq_getElem?_getD, List.getD_eq_getElem?_getD, List.getElem?_map, List.getElem?_eq_getElem this]; rfl
  rcases h.cases with h | ⟨k, rfl, h0, h1⟩
  · exact pos _ h.1 h.2
  · have hk := LetOf.ofPos (many := many) h0 h1
    rw [goI_neg hk.1, goI_neg hk.1, pos _ h0 h1, goI_neg (ta.go hk).1]
theorem then_turn {many : Int} {a b : List Int} (ta : TurnOf many a) (tb : TurnOf many b) : TurnOf many (thenL a b) :=
  turn_of_go ta.h0 ta.h4 (by unfold thenL; rw [List.length_map]; exact ta.len) (fun l hl => by
    obtain ⟨x, hx, rfl⟩ := List.mem_map.mp hl
    exact tb.go (ta.mem hx)) (tb.go_nodup (fun p hp => ta.mem hp) ta.nodup)
theorem then_assoc {many : Int} {a b c : List Int} (ta : TurnOf many a) (tb : TurnOf many b) (tc : TurnOf many c) : thenL (thenL a b) c = thenL a (thenL b c) :=
  turn_ext (then_turn (then_turn ta tb) tc) (then_turn ta (then_turn tb tc)) fun k h0 h1 => by
    have hk := LetOf.ofPos h0 h1
    rw [go_then (then_turn ta tb) hk, go_then ta hk, go_then ta hk, go_then tb (ta.go hk)]
def stillL (many : Int) : List Int := rgI 1 (many + 1)
theorem rgI_get {a b : Int} {i : Nat} (h : i < (b - a).toNat) : (rgI a b)[i]? = some (a + i) := by
  unfold rgI
  rw [List.getElem?_map, List.getElem?_range h]; rfl
theorem go_still {many l : Int} (h : LetOf many l) : goI (stillL many) l = l := by
  have pos : ∀ k, 1 ≤ k → k ≤ many → goI (stillL many) k = k := fun k h0 h1 => by
    rw [goI_pos h0]
    unfold stillL
    rw [List.getD_eq_getElem?_getD, rgI_get (by omega)]
    show (1 : Int) + ((k - 1).toNat : Int) = k
    omega
  rcases h.cases with h | ⟨k, rfl, h0, h1⟩
  · exact pos _ h.1 h.2
  · rw [goI_neg (LetOf.ofPos (many := many) h0 h1).1, pos _ h0 h1]
theorem still_turn {many : Int} (h0 : 1 ≤ many) (h4 : many ≤ 400) : TurnOf many (stillL many) := by
  refine ⟨?_, h0, h4⟩
  unfold stillL
  rw [absL_rgI]
theorem then_still {many : Int} {a : List Int} (ta : TurnOf many a) : thenL a (stillL many) = a :=
  turn_ext (then_turn ta (still_turn ta.h0 ta.h4)) ta fun k h0 h1 => by rw [go_then ta (LetOf.ofPos h0 h1), go_still (ta.go (LetOf.ofPos h0 h1))]
theorem still_then {many : Int} {a : List Int} (ta : TurnOf many a) : thenL (stillL many) a = a :=
  turn_ext (then_turn (still_turn ta.h0 ta.h4) ta) ta fun k h0 h1 => by rw [go_then (still_turn ta.h0 ta.h4) (LetOf.ofPos h0 h1), go_still (LetOf.ofPos h0 h1)]
def backAt : List Int → Int → Int → Int
  | [], _, _ => 0
  | l :: ls, i, k => if absI l = k then (if l > 0 then i else -i) else backAt ls (i + 1) k
def backL (ls : List Int) : List Int := (rgI 1 ((ls.length : Int) + 1)).map (backAt ls 1)
theorem backAt_spec : ∀ (ls : List Int) (i k : Int), k ∈ absL ls → ∃ j : Nat, j < ls.length ∧ ((backAt ls i k = i + j ∧ ls[j]? = some k) ∨ (backAt ls i k = -(i + j) ∧ ls[j]? = some (-k)))
  | [], _, _, h => by cases h
  | l :: ls, i, k, h => by
    unfold backAt
    by_cases c : absI l = k
    · rw [if_pos c]
      refine ⟨0, by simp, ?_⟩
      by_cases d : l > 0
      · rw [if_pos d]
        refine .inl ⟨by simp, ?_⟩
        rw [← c]; unfold absI; rw [if_neg (by omega)]; rfl
      · rw [if_neg d]
        refine .inr ⟨by simp, ?_⟩
        rw [← c]; unfold absI
        by_cases e : l < 0
        · rw [if_pos e, Int.neg_neg]; rfl
        · rw [if_neg e, show l = 0 by omega]; rfl
    · rw [if_neg c]
      rcases List.mem_cons.mp h with e | h
      · exact absurd e.symm c
      · obtain ⟨j, hj, e⟩ := backAt_spec ls (i + 1) k h
        refine ⟨j + 1, by simp; omega, ?_⟩
        rcases e with ⟨e1, e2⟩ | ⟨e1, e2⟩
        · exact .inl ⟨by rw [e1]; push_cast; omega, by simpa using e2⟩
        · exact .inr ⟨by rw [e1]; push_cast; omega, by simpa using e2⟩
theorem go_backAt {many : Int} {ls : List Int} (t : TurnOf many ls) {k : Int} (h0 : 1 ≤ k) (h1 : k ≤ many) : LetOf many (backAt ls 1 k) ∧ goI ls (backAt ls 1 k) = k := by
  have hl := t.len
  obtain ⟨j, hj, e⟩ := backAt_spec ls 1 k (t.pm.mem_iff.mpr (rgI_mem.mpr ⟨h0, by omega⟩))
  rcases e with ⟨e1, e2⟩ | ⟨e1, e2⟩
  · rw [e1]
    refine ⟨LetOf.ofPos (by omega) (by omega), ?_⟩
    rw [show (1 : Int) + j = (j : Int) + 1 by omega, goI_nat, List.getD_eq_getElem?_getD, e2]; rfl
  · rw [e1]
    refine ⟨(LetOf.ofPos (many := many) (by omega) (by omega)).neg, ?_⟩
    rw [goI_neg (LetOf.ofPos (many := many) (by omega) (by omega)).1, show (1 : Int) + j = (j : Int) + 1 by omega, goI_nat, List.getD_eq_getElem?_getD, e2]
    show - -k = k
    omega
theorem goI_back_pos {many : Int} {ls : List Int} (t : TurnOf many ls) {k : Int} (h0 : 1 ≤ k) (h1 : k ≤ many) : goI (backL ls) k = backAt ls 1 k := by
  have hl := t.len
  rw [goI_pos h0]
  unfold backL
  rw [List.getD_eq_getElem?_getD, List.getElem?_map, rgI_get (by omega)]
  show backAt ls 1 (1 + ((k - 1).toNat : Int)) = _
  congr 1; omega
theorem go_back {many : Int} {ls : List Int} (t : TurnOf many ls) {l : Int} (h : LetOf many l) : LetOf many (goI (backL ls) l) ∧ goI ls (goI (backL ls) l) = l := by
  rcases h.cases with h | ⟨k, rfl, h0, h1⟩
  · rw [goI_back_pos t h.1 h.2]
    exact go_backAt t h.1 h.2
  · obtain ⟨u1, u2⟩ := go_backAt t h0 h1
    rw [goI_neg (LetOf.ofPos (many := many) h0 h1).1, goI_back_pos t h0 h1]
    exact ⟨u1.neg, by rw [goI_neg u1.1, u2]⟩
theorem back_turn {many : Int} {ls : List Int} (t : TurnOf many ls) : TurnOf many (backL ls) := by
  have hl := t.len
  refine turn_of_go t.h0 t.h4 (by unfold backL; rw [List.length_map, rgI_length]; have := t.h0; omega) (fun l hm => ?_) ?_
  · obtain ⟨k, hk, rfl⟩ := List.mem_map.mp hm
    have := rgI_mem.mp hk
    exact (go_backAt t this.1 (by omega)).1
  · unfold absL backL
    rw [List.map_map, List.Nodup, List.pairwise_map]
    refine List.Pairwise.imp_of_mem ?_ (rgI_nodup 1 ((ls.length : Int) + 1))
    intro a b ha hb ne e
    have ha := rgI_mem.mp ha
    have hb := rgI_mem.mp hb
    obtain ⟨a1, a2⟩ := go_backAt t ha.1 (by omega)
    obtain ⟨b1, b2⟩ := go_backAt t hb.1 (by omega)
    have e : absI (backAt ls 1 a) = absI (backAt ls 1 b) := e
    rcases absI_eq e with e | e
    · rw [e, b2] at a2; exact ne a2.symm
    · rw [e, goI_neg b1.1, b2] at a2; omega
theorem back_go {many : Int} {ls : List Int} (t : TurnOf many ls) {l : Int} (h : LetOf many l) : goI (backL ls) (goI ls l) = l := by
  obtain ⟨h1, h2⟩ := go_back t (t.go h)
  exact goI_inj t h1 h h2
theorem then_back {many : Int} {ls : List Int} (t : TurnOf many ls) : thenL ls (backL ls) = stillL many :=
  turn_ext (then_turn t (back_turn t)) (still_turn t.h0 t.h4) fun k h0 h1 => by
    have hk := LetOf.ofPos h0 h1
    rw [go_then t hk, go_still hk, back_go t hk]
theorem back_then {many : Int} {ls : List Int} (t : TurnOf many ls) : thenL (backL ls) ls = stillL many :=
  turn_ext (then_turn (back_turn t) t) (still_turn t.h0 t.h4) fun k h0 h1 => by
    have hk := LetOf.ofPos h0 h1
    rw [go_then (back_turn t) hk, go_still hk, (go_back t hk).2]
structure ClauseOf (many : Int) (c : List Int) : Prop where
  mem : ∀ l ∈ c, LetOf many l
  nd : (absL c).Nodup
  up : c.Pairwise fun a b => absI a ≤ absI b
theorem nodup_sub_len {α : Type} [BEq α] [LawfulBEq α] : ∀ (A L : List α), A.Nodup → (∀ a ∈ A, a ∈ L) → A.length ≤ L.length
  | [], _, _, _ => Nat.zero_le _
  | a :: A, L, nd, h => by
    rw [List.nodup_cons] at nd
    have ha := h a List.mem_cons_self
    have := nodup_sub_len A (L.erase a) nd.2 fun x hx => (List.mem_erase_of_ne (by rintro rfl; exact nd.1 hx)).mpr (h x (List.mem_cons_of_mem _ hx))
    rw [List.length_erase_of_mem ha] at this
    have := List.length_pos_of_mem ha
    rw [List.length_cons]; omega
theorem len_le_of_abs {many : Int} (h0 : 0 ≤ many) {c : List Int} (h : ∀ l ∈ c, LetOf many l) (nd : (absL c).Nodup) : (c.length : Int) ≤ many := by
  have : (absL c).length ≤ (rgI 1 (many + 1)).length := by
    refine nodup_sub_len _ _ nd fun a ha => ?_
    obtain ⟨l, hl, rfl⟩ := List.mem_map.mp ha
    have := h l hl
    exact rgI_mem.mpr ⟨this.1, by have := this.2; omega⟩
  rw [List.length_map, rgI_length] at this
  omega
theorem ClauseOf.len {many : Int} {c : List Int} (k : ClauseOf many c) (h0 : 0 ≤ many) : (c.length : Int) ≤ many := len_le_of_abs h0 k.mem k.nd
structure BitsOf (many : Int) (bs : List Int) : Prop where
  len : (bs.length : Int) = many
  bit : ∀ b ∈ bs, b = 0 ∨ b = 1
theorem BitsOf.get {many : Int} {bs : List Int} (B : BitsOf many bs) {l : Int} (h : LetOf many l) : bs.getD (absI l - 1).toNat 0 ∈ bs ∧ atI (bs.map W.int) (absI l - 1) = some (.int (bs.getD (absI l - 1).toNat 0)) := by
  have := B.len
  have := h.1
  have := h.2
  obtain ⟨z, z1, z2, z3⟩ := atI_map (f := W.int) (xs := bs) (i := absI l - 1) (by omega) (by omega)
  rw [List.getD_eq_getElem?_getD, z1]
  exact ⟨z2, z3⟩
end WS
set_option Elab.async false
set_option linter.all false
set_option maxRecDepth 100000
set_option maxHeartbeats 4000000
namespace WS
open PySem PySem.Spec PyProof.Rows L2 WL
def isInt : W → Bool
  | .int _ => true
  | _ => false
def letterB (many : Int) : W → Bool
  | .int i => decide (1 ≤ (if i < 0 then -i else i)) && decide ((if i < 0 then -i else i) ≤ many)
  | _ => false
def absK : W → Key
  | .int i => .inl (if i < 0 then -i else i)
  | _ => .inl 0
def turnB (many : Int) : W → Bool
  | .tup xs => decide ((xs.length : Int) = many) && (decide (1 ≤ (xs.length : Int)) && decide ((xs.length : Int) ≤ 400)) && ((xs.all (letterB many)) && decide (((ded [] (xs.map absK)).length : Int) = many))
  | _ => false
structure Ask (G : GH) (w : W) : Prop where
  ty : tyW w G ≠ none
  nk : ∀ xs, w ≠ .kt xs
  it : ∀ xs, w = .tup xs → xs.length ≤ 1000 ∧ ∀ x ∈ xs, Dat G x
theorem tyW_ne {w : W} {G G' : GH} (x : ExtG G G') (h : tyW w G ≠ none) : tyW w G' ≠ none := by
  cases e : tyW w G with
  | none => exact absurd e h
  | some t => rw [tyW_ext x e]; simp
theorem Ask.ext {G G' : GH} {w : W} (a : Ask G w) (x : ExtG G G') : Ask G' w := ⟨tyW_ne x a.ty, a.nk, fun xs e => ⟨(a.it xs e).1, fun y hy => ((a.it xs e).2 y hy).ext x⟩⟩
theorem isiW_of {T : Ty} {w : W} {G : GH} {t : Ty} {R : KW} (h : tyW w G = some t) (k : R (.bl (isaT t T)) G) : isiW T w G R := by
  unfold isiW
  rw [h]
  exact k
theorem turn_yes {many : Int} {ls : List Int} (t : TurnOf many ls) : turnB many (.tup (ls.map W.int)) = true := by
  have h0 := t.h0
  have h4 := t.h4
  have hl := t.len
  have e1 : (ls.map W.int).map absK = (absL ls).map Sum.inl := by unfold absL; rw [List.map_map, List.map_map]; rfl
  have e2 : (ls.map W.int).all (letterB many) = true := List.all_eq_true.mpr fun x hx => by
    obtain ⟨l, hl, rfl⟩ := List.mem_map.mp hx
    have := t.mem hl
    unfold absI at this
    unfold letterB
    dsimp only
    rw [decide_eq_true this.1, decide_eq_true this.2]; rfl
  have nk : ((absL ls).map Sum.inl : List Key).Nodup := by
    rw [List.Nodup, List.pairwise_map]
    exact t.nodup.imp fun hne e => hne (Sum.inl.inj e)
  have e3 := (ded_nodup _).mpr nk
  rw [List.length_map, List.length_map] at e3
  unfold turnB
  dsimp only
  rw [e1, e2, e3, List.length_map, hl, decide_eq_true rfl, decide_eq_true h0, decide_eq_true h4]; rfl
theorem ask_ints (ls : List Int) (G : GH) (h : ls.length ≤ 1000) : Ask G (.tup (ls.map W.int)) := ⟨by simp [tyW], fun ys z => (by cases z), fun ys z => (by
  cases z
  refine ⟨by simpa using h, fun x hx => ?_⟩
  obtain ⟨n, _, rfl⟩ := List.mem_map.mp hx
  exact dat_int n)⟩
theorem paired_abs : ∀ {ls zs : List Int}, Paired (fun y z => absI z = absI y) ls zs → absL zs = absL ls
  | _, _, .nil => rfl
  | _, _, .cons h t => by
    unfold absL
    rw [List.map_cons, List.map_cons, h]
    congr 1
    exact paired_abs t
def dedA : List Int → List Int → List Int
  | acc, [] => acc
  | acc, n :: ns => dedA (if n ∈ acc then acc else acc ++ [n]) ns
def dedI (ns : List Int) : List Int := dedA [] ns
theorem dedA_mem : ∀ (ns acc : List Int) (x : Int), x ∈ dedA acc ns ↔ x ∈ acc ∨ x ∈ ns
  | [], acc, x => by simp [dedA]
  | n :: ns, acc, x => by
    unfold dedA
    rw [dedA_mem]
    by_cases h : n ∈ acc
    · rw [if_pos h]
      constructor
      · rintro (h | h)
        · exact .inl h
        · exact .inr (List.mem_cons_of_mem _ h)
      · rintro (h2 | h2)
        · exact .inl h2
        · rcases List.mem_cons.mp h2 with rfl | h2
          · exact .inl h
          · exact .inr h2
    · rw [if_neg h]
      simp only [List.mem_append, List.mem_singleton, List.mem_cons, List.not_mem_nil, or_false, or_assoc]
theorem dedA_nodup : ∀ (ns acc : List Int), acc.Nodup → (dedA acc ns).Nodup
  | [], acc, h => h
  | n :: ns, acc, h => by
    unfold dedA
    refine dedA_nodup ns _ ?_
    by_cases e : n ∈ acc
    · rw [if_pos e]; exact h
    · rw [if_neg e, List.nodup_append]
      exact ⟨h, by simp, fun a ha b hb => by rw [List.mem_singleton.mp hb]; rintro rfl; exact e ha⟩
theorem dedA_self : ∀ (ns acc : List Int), (acc ++ ns).Nodup → dedA acc ns = acc ++ ns
  | [], acc, _ => by simp [dedA]
  | n :: ns, acc, h => by
    unfold dedA
    rw [if_neg (fun e => (List.nodup_append.mp h).2.2 n e n List.mem_cons_self rfl), dedA_self ns _ (by simpa using h)]
    simp
theorem dedI_mem {ns : List Int} {x : Int} : x ∈ dedI ns ↔ x ∈ ns := by unfold dedI; rw [dedA_mem]; simp
theorem dedI_nodup (ns : List Int) : (dedI ns).Nodup := dedA_nodup ns [] .nil
theorem dedI_self {ns : List Int} (h : ns.Nodup) : dedI ns = ns := by unfold dedI; rw [dedA_self ns [] (by simpa using h)]; rfl
theorem dedA_len : ∀ (ns acc : List Int), (dedA acc ns).length ≤ acc.length + ns.length
  | [], acc => by simp [dedA]
  | n :: ns, acc => by
    unfold dedA
    have := dedA_len ns (if n ∈ acc then acc else acc ++ [n])
    have : (if n ∈ acc then acc else acc ++ [n]).length ≤ acc.length + 1 := by split <;> simp
    rw [List.length_cons]; omega
theorem dedI_len (ns : List Int) : (dedI ns).length ≤ ns.length := by show (dedA [] ns).length ≤ _; have := dedA_len ns []; simpa using this
theorem merge_dedA {c : W} : ∀ (ns acc : List Int), mergeW (acc.map fun n => ((Sum.inl n : Key), c)) (ns.map fun n => ((Sum.inl n : Key), c)) = (dedA acc ns).map fun n => ((Sum.inl n : Key), c)
  | [], acc => rfl
  | n :: ns, acc => by
    unfold dedA
    rw [List.map_cons]
    unfold mergeW
    have e : putW (acc.map fun n => ((Sum.inl n : Key), c)) (Sum.inl n) c = (if n ∈ acc then acc else acc ++ [n]).map fun n => ((Sum.inl n : Key), c) := by
      unfold putW
      have ea : ((acc.map fun n => ((Sum.inl n : Key), c)).any fun kv => decide (kv.1 = Sum.inl n)) = decide (n ∈ acc) := by
        rw [Bool.eq_iff_iff, List.any_eq_true, decide_eq_true_iff]
        constructor
        · rintro ⟨x, hx, e⟩
          obtain ⟨m, hm, rfl⟩ := List.mem_map.mp hx
          have := Sum.inl.inj (of_decide_eq_true e)
          exact this ▸ hm
        · intro h
          exact ⟨_, List.mem_map_of_mem h, decide_eq_true rfl⟩
      rw [ea]
      by_cases h : n ∈ acc
      · rw [decide_eq_true h, if_pos rfl, if_pos h]
        conv => rhs; rw [← List.map_id (List.map _ acc)]
        refine List.map_congr_left fun x hx => ?_
        obtain ⟨m, hm, rfl⟩ := List.mem_map.mp hx
        split
        · rename_i q; rw [Sum.inl.inj q]; rfl
        · rfl
      · rw [decide_eq_false h, if_neg (by decide), if_neg h, List.map_append]; rfl
    rw [e]
    exact merge_dedA ns _
theorem merge_dedI {c : W} (ns : List Int) : mergeW [] (ns.map fun n => ((Sum.inl n : Key), c)) = (dedI ns).map fun n => ((Sum.inl n : Key), c) := merge_dedA ns []
theorem enum_snd {α : Type} : ∀ (k : Int) (xs : List α), (enumI k xs).map (·.2) = xs
  | _, [] => rfl
  | k, x :: xs => by
    show x :: (enumI (k + 1) xs).map (·.2) = _
    rw [enum_snd]
theorem merge_enum {ls : List Int} {vf : Int × Int → W} {k : Int} (nd : (absL ls).Nodup) : mergeW [] ((enumI k ls).map fun p => ((Sum.inl (absI p.2) : Key), vf p)) = (enumI k ls).map fun p => ((Sum.inl (absI p.2) : Key), vf p) := by
  rw [mergeW_nodup _ _ ?_, List.nil_append]
  rw [List.map_nil, List.nil_append, List.map_map]
  have e : (enumI k ls).map ((·.1) ∘ fun p : Int × Int => ((Sum.inl (absI p.2) : Key), vf p)) = (absL ls).map Sum.inl := by
    conv => rhs; rw [← enum_snd k ls]
    unfold absL
    rw [List.map_map, List.map_map]; rfl
  rw [e, List.Nodup, List.pairwise_map]
  exact nd.imp fun hne e => hne (Sum.inl.inj e)
theorem val_backAt : ∀ (ls : List Int) (i k : Int), k ∈ absL ls → valW ((enumI i ls).map fun p => ((Sum.inl (absI p.2) : Key), W.int (if p.2 > 0 then p.1 else -p.1))) (Sum.inl k) = some (.int (backAt ls i k))
  | [], _, k, h => by cases h
  | l :: ls, i, k, h => by
    unfold backAt valW
    show (List.find? _ (((Sum.inl (absI l) : Key), W.int (if l > 0 then i else -i)) :: (enumI (i + 1) ls).map _)).map _ = _
    rw [List.find?_cons]
    by_cases c : absI l = k
    · rw [if_pos c]
      dsimp only
      rw [decide_eq_true (show (Sum.inl (absI l) : Key) = Sum.inl k by rw [c])]; rfl
    · rw [if_neg c]
      dsimp only
      rw [decide_eq_false (show ¬ (Sum.inl (absI l) : Key) = Sum.inl k from fun z => c (Sum.inl.inj z))]
      rcases List.mem_cons.mp h with e | h
      · exact absurd e.symm c
      · exact val_backAt ls (i + 1) k h
abbrev N_is_number : List Str := ["thing"]
structure P_is_number (ws : List W) (G : GH) (R : KW) (RX : XW) : Prop where
  ex : ∃ (w : W), ws = [w] ∧ (tyW w G ≠ none) ∧ (R (.bl (isInt w)) G)
theorem len_is_number : ∀ ws G R RX, P_is_number ws G R RX → ws.length = ["thing"].length := by
  rintro ws G R RX ⟨⟨_, rfl, _, _⟩⟩; rfl
theorem p_is_number {w : W} {G : GH} {R : KW} {RX : XW} (ty : tyW w G ≠ none) (q : R (.bl (isInt w)) G) : P_is_number [w] G R RX := ⟨w, rfl, ty, q⟩
def T_is_number : TWS :=
  (sRet (tAndE (tCW (isiC .it) (tCo (tV 0) (tCo (tK (.ty "int")) tN))) (tNotE (tCW (isiC .bo) (tCo (tV 0) (tCo (tK (.ty "bool")) tN))))))
theorem rd_is_number (ws : List W) (G : GH) (R : KW) (RX : XW) (h : P_is_number ws G R RX) : T_is_number { nx := fun _ G' => fgt R .non G', rt := fgt R } (startW N_is_number ws) G := by
  obtain ⟨w, rfl, ty, q⟩ := h
  conv => whnf
  refine ⟨rfl, ?_⟩
  cases e : tyW w G with
  | none => exact absurd e ty
  | some t =>
    refine isiW_of e ?_
    cases w with
    | int i => cases e; (conv => whnf); exact ⟨rfl, ret q⟩
    | bl i => cases e; (conv => whnf); exact ⟨rfl, ret q⟩
    | ref p =>
      have ht : isaT t .it = false := by
        unfold tyW at e
        dsimp only at e
        split at e <;> cases e <;> rfl
      rw [ht]
      exact ret q
    | ty n => cases e
    | _ => cases e <;> exact ret q
abbrev N_is_letter : List Str := ["thing", "many"]
structure P_is_letter (ws : List W) (G : GH) (R : KW) (RX : XW) : Prop where
  ex : ∃ (w : W) (many : Int), ws = [w, .int many] ∧ (tyW w G ≠ none) ∧ (R (.bl (letterB many w)) G)
theorem len_is_letter : ∀ ws G R RX, P_is_letter ws G R RX → ws.length = ["thing", "many"].length := by
  rintro ws G R RX ⟨⟨_, _, rfl, _, _⟩⟩; rfl
theorem p_is_letter {w : W} {many : Int} {G : GH} {R : KW} {RX : XW} (ty : tyW w G ≠ none) (q : R (.bl (letterB many w)) G) : P_is_letter [w, .int many] G R RX := ⟨w, many, rfl, ty, q⟩
def T_is_letter : TWS :=
  (sRet (tAndE (tCall0 P_is_number [] (tCo (tV 0) tN)) (tChainW leW leW (tK (.int 1)) (tCW absW (tCo (tV 0) tN)) (tV 1))))
theorem rd_is_letter (ws : List W) (G : GH) (R : KW) (RX : XW) (h : P_is_letter ws G R RX) : T_is_letter { nx := fun _ G' => fgt R .non G', rt := fgt R } (startW N_is_letter ws) G := by
  obtain ⟨w, many, rfl, ty, q⟩ := h
  conv => whnf
  refine ⟨w, rfl, ty, ?_⟩
  cases w with
  | int i =>
    conv => whnf
    by_cases h1 : 1 ≤ (if i < 0 then -i else i)
    · rw [decide_eq_true h1]
      conv => whnf
      rw [show letterB many (.int i) = decide ((if i < 0 then -i else i) ≤ many) by unfold letterB; dsimp only; rw [decide_eq_true h1]; rfl] at q
      exact ret q
    · rw [decide_eq_false h1]
      conv => whnf
      rw [show letterB many (.int i) = false by unfold letterB; dsimp only; rw [decide_eq_false h1]; rfl] at q
      exact ret q
  | _ => exact ret q
theorem items_cases {w : W} {G : GH} {xs : List W} (h : itemsW w G = some xs) : w = .tup xs ∨ w = .kt xs ∨ w = .fl xs ∨ ∃ p, w = .ref p ∧ G p = some (.lst xs) := by
  unfold itemsW at h
  split at h
  · cases h; exact .inl rfl
  · cases h; exact .inr (.inl rfl)
  · cases h; exact .inr (.inr (.inl rfl))
  · split at h
    · rename_i e
      cases h; exact .inr (.inr (.inr ⟨_, rfl, e⟩))
    · cases h
  · cases h
abbrev N_is_turn : List Str := ["thing", "many", "letter"]
structure P_is_turn (ws : List W) (G : GH) (R : KW) (RX : XW) : Prop where
  ex : ∃ (w : W) (many : Int), ws = [w, .int many] ∧ (Ask G w) ∧ (R (.bl (turnB many w)) G)
theorem len_is_turn : ∀ ws G R RX, P_is_turn ws G R RX → ws.length = ["thing", "many"].length := by
  rintro ws G R RX ⟨⟨_, _, rfl, _, _⟩⟩; rfl
theorem p_is_turn {w : W} {many : Int} {G : GH} {R : KW} {RX : XW} (ask : Ask G w) (q : R (.bl (turnB many w)) G) : P_is_turn [w, .int many] G R RX := ⟨w, many, rfl, ask, q⟩
def T_is_turn : TWS :=
  (sSeq (sIf (tOrW (tNotW (tTruW (tCW (isiC .tu) (tCo (tV 0) (tCo (tK (.ty "tuple")) tN))))) (tOrW (tTestW (tOpW (eqQ true) (tCW lenQ (tCo (tV 0) tN)) (tV 1))) (tNotW (tTestW (tChainW leW leW (tK (.int 1)) (tCW lenQ (tCo (tV 0) tN)) (tK (.int 400))))))) (sRet (tK (.bl false))) sNext)
    (sRet (tAndE (tCF (fBols fun bs => bs.all fun b => b) (tCompI (tISeq (tV 0)) (gN 2) tYesW (tCall0 P_is_letter [] (tCo (tV 2) (tCo (tV 1) tN))) [2])) (tOpW (eqQ false) (tLenSC (tISeq (tV 0)) (gN 2) tYesW (tCW absW (tCo (tV 2) tN)) [2]) (tV 1)))))
theorem notTup {w : W} {many : Int} (h : ∀ xs, w ≠ .tup xs) : turnB many w = false := by
  cases w with
  | tup xs => exact absurd rfl (h xs)
  | _ => rfl
theorem tyTup {w : W} {G : GH} {t : Ty} (e : tyW w G = some t) (nk : ∀ xs, w ≠ .kt xs) : isaT t .tu = true ↔ ∃ xs, w = .tup xs := by
  cases w with
  | tup xs => cases e; exact ⟨fun _ => ⟨_, rfl⟩, fun _ => rfl⟩
  | kt xs => exact absurd rfl (nk xs)
  | ref p =>
    have ht : isaT t .tu = false := by
      unfold tyW at e
      dsimp only at e
      split at e <;> cases e <;> rfl
    rw [ht]
    exact ⟨fun z => (by cases z), fun ⟨_, z⟩ => (by cases z)⟩
  | ty n => cases e
  | _ => cases e <;> exact ⟨fun z => (by cases z), fun ⟨_, z⟩ => (by cases z)⟩
theorem rd_is_turn (ws : List W) (G : GH) (R : KW) (RX : XW) (h : P_is_turn ws G R RX) : T_is_turn { nx := fun _ G' => fgt R .non G', rt := fgt R } (startW N_is_turn ws) G := by
  obtain ⟨w, many, rfl, ask, q⟩ := h
  conv => whnf
  refine ⟨rfl, ?_⟩
  cases e : tyW w G with
  | none => exact absurd e ask.ty
  | some t =>
    refine isiW_of e ?_
    by_cases ht : isaT t .tu = true
    · rw [ht]
      obtain ⟨xs, rfl⟩ := (tyTup e ask.nk).mp ht
      obtain ⟨hl, hx⟩ := ask.it xs rfl
      conv => whnf
      by_cases hlen : (xs.length : Int) = many
      · rw [decide_eq_true hlen]
        conv => whnf
        by_cases h1 : 1 ≤ (xs.length : Int)
        · rw [decide_eq_true h1]
          conv => whnf
          by_cases h4 : (xs.length : Int) ≤ 400
          · rw [decide_eq_true h4]
            conv => whnf
            have tb : turnB many (.tup xs) = ((xs.all (letterB many)) && decide (((ded [] (xs.map absK)).length : Int) = many)) := by
              unfold turnB; dsimp only; rw [decide_eq_true hlen, decide_eq_true h1, decide_eq_true h4]; rfl
            rw [tb] at q
            refine compW_pureW (v := fun x => W.bl (letterB many x)) trivial (by rw [sizeLine_eq]; omega) (fun x hm R' q' => ⟨x, many, rfl, let ⟨_, pd, _⟩ := hx x hm; pd.ty, q'⟩) ?_
            rw [show (xs.map fun x => W.bl (letterB many x)) = (xs.map (letterB many)).map W.bl by rw [List.map_map]; rfl]
            unfold fBols
            rw [blsOf_map]
            dsimp only
            rw [show ((xs.map (letterB many)).all fun b => b) = xs.all (letterB many) by rw [List.all_map]; rfl]
            by_cases hall : xs.all (letterB many) = true
            · rw [hall] at q ⊢
              conv => whnf
              refine compK_pureW (v := absK) trivial (by omega) (fun x hm R' q' => ?_) ?_
              · have hlx := List.all_eq_true.mp hall x hm
                cases x with
                | int i => exact q' _ rfl
                | _ => cases hlx
              · conv => whnf
                rw [Bool.true_and] at q
                have fb : ∀ b, (false != b) = b := fun b => by cases b <;> rfl
                rw [fb]
                exact ret q
            · rw [show xs.all (letterB many) = false by simpa using hall] at q ⊢
              exact ret q
          · rw [decide_eq_false h4]
            conv => whnf
            rw [show turnB many (.tup xs) = false by unfold turnB; dsimp only; rw [decide_eq_true hlen, decide_eq_true h1, decide_eq_false h4]; rfl] at q
            exact ret q
        · rw [decide_eq_false h1]
          conv => whnf
          rw [show turnB many (.tup xs) = false by unfold turnB; dsimp only; rw [decide_eq_true hlen, decide_eq_false h1]; rfl] at q
          exact ret q
      · rw [decide_eq_false hlen]
        conv => whnf
        rw [show turnB many (.tup xs) = false by unfold turnB; dsimp only; rw [decide_eq_false hlen]; rfl] at q
        exact ret q
    · rw [show isaT t .tu = false by simpa using ht]
      rw [notTup fun xs z => ht ((tyTup e ask.nk).mpr ⟨xs, z⟩)] at q
      exact ret q
abbrev N_still : List Str := ["many"]
structure P_still (ws : List W) (G : GH) (R : KW) (RX : XW) : Prop where
  ex : ∃ (many : Int), ws = [.int many] ∧ (0 ≤ many) ∧ (many ≤ 1000) ∧ (R (.tup ((stillL many).map W.int)) G)
theorem len_still : ∀ ws G R RX, P_still ws G R RX → ws.length = ["many"].length := by
  rintro ws G R RX ⟨⟨_, rfl, _, _, _⟩⟩; rfl
theorem p_still {many : Int} {G : GH} {R : KW} {RX : XW} (h0 : 0 ≤ many) (h1 : many ≤ 1000) (q : R (.tup ((stillL many).map W.int)) G) : P_still [.int many] G R RX := ⟨many, rfl, h0, h1, q⟩
def T_still : TWS :=
  (sRet (tTupleRg (tRg2W (tK (.int 1)) (tOpW addW (tV 0) (tK (.int 1))))))
theorem rd_still (ws : List W) (G : GH) (R : KW) (RX : XW) (h : P_still ws G R RX) : T_still { nx := fun _ G' => fgt R .non G', rt := fgt R } (startW N_still ws) G := by
  obtain ⟨many, rfl, h0, h1, q⟩ := h
  conv => whnf
  exact ⟨.of_le (by decide) (by omega) (by decide) (by omega), ret q⟩
abbrev N_led : List Str := ["turn", "letter"]
structure P_led (ws : List W) (G : GH) (R : KW) (RX : XW) : Prop where
  ex : ∃ (many : Int) (ls : List Int) (l : Int), ws = [.tup (ls.map W.int), .int l] ∧ (TurnOf many ls) ∧ (LetOf many l) ∧ (R (.int (goI ls l)) G)
theorem len_led : ∀ ws G R RX, P_led ws G R RX → ws.length = ["turn", "letter"].length := by
  rintro ws G R RX ⟨⟨_, _, _, rfl, _, _, _⟩⟩; rfl
theorem p_led {many : Int} {ls : List Int} {l : Int} {G : GH} {R : KW} {RX : XW} (t : TurnOf many ls) (hl : LetOf many l) (q : R (.int (goI ls l)) G) : P_led [.tup (ls.map W.int), .int l] G R RX := ⟨many, ls, l, rfl, t, hl, q⟩
def T_led : TWS :=
  (sRet (tIfE (tTestW (tOpW gtW (tV 1) (tK (.int 0)))) (tOpW ixW (tV 0) (tOpW subW (tV 1) (tK (.int 1)))) (tNegW (tOpW ixW (tV 0) (tOpW subW (tNegW (tV 1)) (tK (.int 1)))))))
theorem rd_led (ws : List W) (G : GH) (R : KW) (RX : XW) (h : P_led ws G R RX) : T_led { nx := fun _ G' => fgt R .non G', rt := fgt R } (startW N_led ws) G := by
  obtain ⟨many, ls, l, rfl, t, hl, q⟩ := h
  unfold LetOf absI at hl
  unfold goI at q
  conv => whnf
  by_cases c : l > 0
  · rw [if_pos c] at q
    rw [if_neg (by omega)] at hl
    rw [decide_eq_true c]
    conv => whnf
    exact ⟨_, (t.get hl.1 hl.2).2, ret q⟩
  · rw [if_neg c] at q
    rw [if_pos (show l < 0 by split at hl <;> omega)] at hl
    rw [decide_eq_false c]
    conv => whnf
    exact ⟨_, (t.get hl.1 hl.2).2, ret q⟩
abbrev N__law_turn : List Str := ["draw", "many", "sort", "one", "other", "found", "pool", "k", "truth"]
structure P__law_turn (ws : List W) (G : GH) (R : KW) (RX : XW) : Prop where
  ex : ∃ (ns : List Int) (d : Addr) (many : Int), ws = [.ref d, .int many] ∧ (1 ≤ many) ∧ (many ≤ 400) ∧ (Dr ns d G) ∧ (∀ (ls : List Int) G', TurnOf many ls → Dr ns d G' → KeepG d G G' → R (.tup (ls.map W.int)) G')
theorem len__law_turn : ∀ ws G R RX, P__law_turn ws G R RX → ws.length = ["draw", "many"].length := by
  rintro ws G R RX ⟨⟨_, _, _, rfl, _, _, _, _⟩⟩; rfl
theorem p__law_turn {ns : List Int} {d : Addr} {many : Int} {G : GH} {R : KW} {RX : XW} (h0 : 1 ≤ many) (h1 : many ≤ 400) (D : Dr ns d G) (q : ∀ (ls : List Int) G', TurnOf many ls → Dr ns d G' → KeepG d G G' → R (.tup (ls.map W.int)) G') : P__law_turn [.ref d, .int many] G R RX := ⟨ns, d, many, rfl, h0, h1, D, q⟩
def T__law_turn : TWS :=
  (sSeq (sPar3 2 3 4 (tCo (tCall0 P__law_next [] (tCo (tV 0) (tCo (tK (.int 5)) tN))) (tCo (tCall0 P__law_next [] (tCo (tV 0) (tCo (tV 1) tN))) (tCo (tCall0 P__law_next [] (tCo (tV 0) (tCo (tV 1) tN))) tN))))
    (sSeq (sSet 5 (tListRg (tRg2W (tK (.int 1)) (tOpW addW (tV 1) (tK (.int 1))))))
    (sSeq (sIf (tTestW (tOpW (eqQ false) (tV 2) (tK (.int 0)))) (sAsg (tTupW (tCo (tOpW ixW (tV 5) (tV 4)) (tCo (tOpW ixW (tV 5) (tV 3)) tN))) (gU 2 (gsC (gSubW (tV 5) (tV 3) setQ) (gsC (gSubW (tV 5) (tV 4) setQ) gsN)))) (sIf (tTestW (tOpW (eqQ false) (tV 2) (tK (.int 1)))) (sAsg (tNegW (tOpW ixW (tV 5) (tV 3))) (gSubW (tV 5) (tV 3) setQ)) (sIf (tTestW (tOpW (eqQ false) (tV 2) (tK (.int 2)))) (sAsg (tTupW (tCo (tNegW (tOpW ixW (tV 5) (tV 4))) (tCo (tNegW (tOpW ixW (tV 5) (tV 3))) tN))) (gU 2 (gsC (gSubW (tV 5) (tV 3) setQ) (gsC (gSubW (tV 5) (tV 4) setQ) gsN)))) (sIf (tTestW (tOpW (eqQ false) (tV 2) (tK (.int 3)))) (sSet 5 (tOpW addW (tFz (tSliceW (tV 5) (tP (tV 3)) tNoP)) (tFz (tSliceW (tV 5) tNoP (tP (tV 3)))))) (sSeq (sSet 6 (tCW toListDW (tCo (tV 5) tN)))
    (sSeq (sSet 5 (tComp (tIRng1 (tCo (tV 1) tN)) (gN 7) tYesW (tMetL popW (tV 6) (tCo (tCall0 P__law_next [] (tCo (tV 0) (tCo (tCW lenQ (tCo (tV 6) tN)) tN))) tN)) [7]))
    (sSet 5 (tComp (tISeq (tV 5)) (gN 8) tYesW (tOpW ixW (tFz (tLstW (tCo (tV 8) (tCo (tNegW (tV 8)) tN)))) (tCall0 P__law_next [] (tCo (tV 0) (tCo (tK (.int 2)) tN)))) [8]))))))))
    (sRet (tCW toTupW (tCo (tV 5) tN))))))
theorem rd__law_turn (ws : List W) (G : GH) (R : KW) (RX : XW) (h : P__law_turn ws G R RX) : T__law_turn { nx := fun _ G' => fgt R .non G', rt := fgt R } (startW N__law_turn ws) G := by
  obtain ⟨ns, d, many, rfl, h0, h1, D, q⟩ := h
  conv => whnf
  refine p__law_next (by decide) D fun sort G1 s0 s1 D1 k1 => ?_
  conv => whnf
  refine p__law_next (by omega) D1 fun one G2 o0 o1 D2 k2 => ?_
  conv => whnf
  refine p__law_next (by omega) D2 fun other G3 t0 t1 D3 k3 => ?_
  conv => whnf
  refine ⟨.of_le (by decide) (by omega) (by decide) (by omega), fun f hf => ?_⟩
  have df := (D3.off hf).symm
  have D4 := D3.new (o := .lst ((rgI 1 (many + 1)).map W.int)) hf
  have k4 : KeepG d G _ := ((k1.trans k2).trans k3).trans (ExtG.new (o := .lst ((rgI 1 (many + 1)).map W.int)) hf).keep
  have hlR : (rgI 1 (many + 1)).length = many.toNat := by rw [rgI_length]; congr 1; omega
  have hpR : (absL (rgI 1 (many + 1))).Perm (rgI 1 (many + 1)) := by rw [absL_rgI]
  generalize hL : rgI 1 (many + 1) = L at D4 k4 hlR hpR
  have lenL : (L.length : Int) = many := by omega
  obtain ⟨zo, go, zom, hzo⟩ := atI_map (f := W.int) (xs := L) o0 (by omega)
  obtain ⟨zt, gt, ztm, hzt⟩ := atI_map (f := W.int) (xs := L) t0 (by omega)
  have io : ixN (L.map W.int).length one = some one.toNat := by rw [List.length_map]; exact ixN_nat o0 (by omega)
  have two : ∀ (a b : Int) (i j : Nat), ((L.map W.int).set i (.int a)).set j (.int b) = ((L.set i a).set j b).map W.int := fun a b i j => by rw [List.map_set, List.map_set]
  have fin : ∀ (ls : List Int) (G' : GH), (absL ls).Perm L → Dr ns d G' → KeepG d G G' → R (.tup (ls.map W.int)) G' := fun ls G' e1 e3 e4 => q ls G' ⟨by rw [hL]; exact e1, h0, h1⟩ e3 e4
  have ret_fin : ∀ (ls : List Int) (G' : GH), (absL ls).Perm L → Dr ns d G' → KeepG d G G' → fgt R (.tup (ls.map W.int)) G' := fun ls G' e1 e3 e4 => ret (fin ls G' e1 e3 e4)
  have one1 : ∀ (a : Int) (i : Nat), (L.map W.int).set i (.int a) = (L.set i a).map W.int := fun a i => by rw [List.map_set]
  have hG : G f = none := by
    cases e : G f with
    | none => rfl
    | some o => have := ((k1.trans k2).trans k3) f o df e; rw [this] at hf; cases hf
  conv => whnf
  by_cases c0 : sort = 0
  · rw [decide_eq_true c0]
    (try conv => whnf); (repeat (first | (rw [updG_same]; conv => whnf) | (refine Exists.intro _ (And.intro rfl ?_); conv => whnf) | (refine And.intro rfl ?_; conv => whnf) | (refine frz_lst ?_; conv => whnf) | (refine frz_dK ?_; conv => whnf) | (refine frz_dT ?_; conv => whnf)))
    refine ⟨_, hzt, ?_⟩
    (try conv => whnf); (repeat (first | (rw [updG_same]; conv => whnf) | (refine Exists.intro _ (And.intro rfl ?_); conv => whnf) | (refine And.intro rfl ?_; conv => whnf) | (refine frz_lst ?_; conv => whnf) | (refine frz_dK ?_; conv => whnf) | (refine frz_dT ?_; conv => whnf)))
    refine ⟨_, hzo, ?_⟩
    conv => whnf
    refine ⟨by simp [sizeLine_eq], ?_⟩
    (try conv => whnf); (repeat (first | (rw [updG_same]; conv => whnf) | (refine Exists.intro _ (And.intro rfl ?_); conv => whnf) | (refine And.intro rfl ?_; conv => whnf) | (refine frz_lst ?_; conv => whnf) | (refine frz_dK ?_; conv => whnf) | (refine frz_dT ?_; conv => whnf)))
    refine ⟨_, io, ?_⟩
    (try conv => whnf); (repeat (first | (rw [updG_same]; conv => whnf) | (refine Exists.intro _ (And.intro rfl ?_); conv => whnf) | (refine And.intro rfl ?_; conv => whnf) | (refine frz_lst ?_; conv => whnf) | (refine frz_dK ?_; conv => whnf) | (refine frz_dT ?_; conv => whnf)))
    refine ⟨other.toNat, by rw [List.length_set, List.length_map]; exact ixN_nat t0 (by omega), ?_⟩
    (try conv => whnf); (repeat (first | (rw [updG_same]; conv => whnf) | (refine Exists.intro _ (And.intro rfl ?_); conv => whnf) | (refine And.intro rfl ?_; conv => whnf) | (refine frz_lst ?_; conv => whnf) | (refine frz_dK ?_; conv => whnf) | (refine frz_dT ?_; conv => whnf)))
    rw [two]
    refine ret_fin _ _ ((absL_two go gt rfl rfl).trans hpR) ?_ ?_
    · exact (D4.upd df.symm).upd df.symm
    · exact (k4.putNew hG).putNew hG
  · rw [decide_eq_false c0]
    conv => whnf
    by_cases c1 : sort = 1
    · rw [decide_eq_true c1]
      (try conv => whnf); (repeat (first | (rw [updG_same]; conv => whnf) | (refine Exists.intro _ (And.intro rfl ?_); conv => whnf) | (refine And.intro rfl ?_; conv => whnf) | (refine frz_lst ?_; conv => whnf) | (refine frz_dK ?_; conv => whnf) | (refine frz_dT ?_; conv => whnf)))
      refine ⟨_, hzo, ?_⟩
      (try conv => whnf); (repeat (first | (rw [updG_same]; conv => whnf) | (refine Exists.intro _ (And.intro rfl ?_); conv => whnf) | (refine And.intro rfl ?_; conv => whnf) | (refine frz_lst ?_; conv => whnf) | (refine frz_dK ?_; conv => whnf) | (refine frz_dT ?_; conv => whnf)))
      refine ⟨_, io, ?_⟩
      (try conv => whnf); (repeat (first | (rw [updG_same]; conv => whnf) | (refine Exists.intro _ (And.intro rfl ?_); conv => whnf) | (refine And.intro rfl ?_; conv => whnf) | (refine frz_lst ?_; conv => whnf) | (refine frz_dK ?_; conv => whnf) | (refine frz_dT ?_; conv => whnf)))
      rw [one1]
      exact ret_fin _ _ (by rw [absL_one go (absI_neg zo)]; exact hpR) (D4.upd df.symm) (k4.putNew hG)
    · rw [decide_eq_false c1]
      conv => whnf
      by_cases c2 : sort = 2
      · rw [decide_eq_true c2]
        (try conv => whnf); (repeat (first | (rw [updG_same]; conv => whnf) | (refine Exists.intro _ (And.intro rfl ?_); conv => whnf) | (refine And.intro rfl ?_; conv => whnf) | (refine frz_lst ?_; conv => whnf) | (refine frz_dK ?_; conv => whnf) | (refine frz_dT ?_; conv => whnf)))
        refine ⟨_, hzt, ?_⟩
        (try conv => whnf); (repeat (first | (rw [updG_same]; conv => whnf) | (refine Exists.intro _ (And.intro rfl ?_); conv => whnf) | (refine And.intro rfl ?_; conv => whnf) | (refine frz_lst ?_; conv => whnf) | (refine frz_dK ?_; conv => whnf) | (refine frz_dT ?_; conv => whnf)))
        refine ⟨_, hzo, ?_⟩
        conv => whnf
        refine ⟨by simp [sizeLine_eq], ?_⟩
        (try conv => whnf); (repeat (first | (rw [updG_same]; conv => whnf) | (refine Exists.intro _ (And.intro rfl ?_); conv => whnf) | (refine And.intro rfl ?_; conv => whnf) | (refine frz_lst ?_; conv => whnf) | (refine frz_dK ?_; conv => whnf) | (refine frz_dT ?_; conv => whnf)))
        refine ⟨_, io, ?_⟩
        (try conv => whnf); (repeat (first | (rw [updG_same]; conv => whnf) | (refine Exists.intro _ (And.intro rfl ?_); conv => whnf) | (refine And.intro rfl ?_; conv => whnf) | (refine frz_lst ?_; conv => whnf) | (refine frz_dK ?_; conv => whnf) | (refine frz_dT ?_; conv => whnf)))
        refine ⟨other.toNat, by rw [List.length_set, List.length_map]; exact ixN_nat t0 (by omega), ?_⟩
        (try conv => whnf); (repeat (first | (rw [updG_same]; conv => whnf) | (refine Exists.intro _ (And.intro rfl ?_); conv => whnf) | (refine And.intro rfl ?_; conv => whnf) | (refine frz_lst ?_; conv => whnf) | (refine frz_dK ?_; conv => whnf) | (refine frz_dT ?_; conv => whnf)))
        rw [two]
        exact ret_fin _ _ ((absL_two go gt (absI_neg _) (absI_neg _)).trans hpR) ((D4.upd df.symm).upd df.symm) ((k4.putNew hG).putNew hG)
      · rw [decide_eq_false c2]
        conv => whnf
        by_cases c3 : sort = 3
        · rw [decide_eq_true c3]
          (try conv => whnf); (repeat (first | (rw [updG_same]; conv => whnf) | (refine Exists.intro _ (And.intro rfl ?_); conv => whnf) | (refine And.intro rfl ?_; conv => whnf) | (refine frz_lst ?_; conv => whnf) | (refine frz_dK ?_; conv => whnf) | (refine frz_dT ?_; conv => whnf)))
          rw [cutG_lo o0 (by omega), cutG_hi o0 (by omega)]
          refine ⟨by rw [List.length_map, List.length_map, List.length_drop, List.length_take, sizeLine_eq]; omega, fun p3 hp3 => ?_⟩
          have e3 := ExtG.new (o := .lst ((L.drop one.toNat).map W.int ++ (L.take one.toNat).map W.int)) hp3
          (try conv => whnf); (repeat (first | (rw [updG_same]; conv => whnf) | (refine Exists.intro _ (And.intro rfl ?_); conv => whnf) | (refine And.intro rfl ?_; conv => whnf) | (refine frz_lst ?_; conv => whnf) | (refine frz_dK ?_; conv => whnf) | (refine frz_dT ?_; conv => whnf)))
          rw [← List.map_append] at e3 ⊢
          exact ret_fin _ _ (((rot_perm L one.toNat).map absI).trans hpR) (D4.ext e3) (k4.ext e3)
        · rw [decide_eq_false c3]
          (try conv => whnf); (repeat (first | (rw [keysIn_lst updG_same]; conv => whnf) | (rw [itemsW_lst updG_same]; conv => whnf) | (refine Exists.intro _ (And.intro rfl ?_); conv => whnf) | (refine And.intro rfl ?_; conv => whnf) | (refine frz_lst ?_; conv => whnf) | (refine frz_dK ?_; conv => whnf) | (refine frz_dT ?_; conv => whnf)))
          intro p hp
          have e1 := ExtG.new (o := .lst (L.map W.int)) hp
          have D5 := D4.new (o := .lst (L.map W.int)) hp
          have dp := (D4.off hp).symm
          have hGp : G p = none := by
            cases e : G p with
            | none => rfl
            | some o => have := k4 p o dp e; rw [this] at hp; cases hp
          conv => whnf
          refine ⟨by omega, by omega, ?_⟩
          refine compW_map (f := fun i : Nat => W.int (0 + (i : Int))) (I := fun xs G' acc => ∃ ps ls : List Int, acc = ls.map W.int ∧ G' p = some (.lst (ps.map W.int)) ∧ (ls ++ ps).Perm L ∧ ps.length = xs.length ∧ Dr ns d G' ∧ KeepG d G G') ?_ ?_ _ _ _ ?_
          · rintro y ys G6 acc ⟨ps, ls, rfl, gp, e5, e6, D6, k6⟩ N' hN'
            rw [List.length_cons] at e6
            have e5l := e5.length_eq
            rw [List.length_append] at e5l
            refine ⟨trivial, ?_⟩
            conv => whnf
            refine ⟨recL_lst gp, ?_⟩
            conv => whnf
            rw [gp]
            conv => whnf
            rw [List.length_map]
            refine p__law_next (by omega) D6 fun r G7 r0 r1 D7 k7 => ?_
            have gp7 := k7 _ _ dp gp
            conv => whnf
            rw [gp7]
            conv => whnf
            have hk : r.toNat < ps.length := by omega
            refine ⟨by omega, by omega, r.toNat, .int ps[r.toNat], by rw [List.length_map]; exact seqIndex_nat r0 r1, by simp [hk], ?_⟩
            have er : (ps.map W.int).eraseIdx r.toNat = (ps.eraseIdx r.toNat).map W.int := erase_map _ _
            rw [er]
            refine ⟨by rw [List.length_map, sizeLine_eq]; omega, ?_⟩
            refine hN' _ _ ⟨ps.eraseIdx r.toNat, ls ++ [ps[r.toNat]], by rw [List.map_append]; rfl, updG_same, pool_perm hk e5, ?_, D7.upd dp.symm, (k6.trans k7).putNew hGp⟩
            · rw [List.length_eraseIdx_of_lt hk]; omega
          · rintro G6 acc ⟨ps, ls, rfl, gp, e5, e6, D6, k6⟩
            have e6 : ps = [] := List.length_eq_zero_iff.mp e6
            subst e6
            rw [List.append_nil] at e5
            have e5l := e5.length_eq
            refine ⟨trivial, fun c hc => ?_⟩
            have D7 := D6.new (o := .lst (ls.map W.int)) hc
            have dc := (D6.off hc).symm
            have k7 := k6.ext (ExtG.new (o := .lst (ls.map W.int)) hc)
            conv => whnf
            rw [updG_same]
            conv => whnf
            refine compW_draw (f := W.int) (g := W.int) (Pz := fun y z => absI z = absI y) (fun G' k => k _ _ dc updG_same) ls [] _ (.refl) D7 (by rw [sizeLine_eq]; simp; omega) (fun y hy G8 R' k8 D8 q' => ?_) fun zs G8 hz D8 k8 => ?_
            · conv => whnf
              refine ⟨by simp [sizeLine_eq], frz_lst ?_⟩
              conv => whnf
              refine p__law_next (by decide) D8 fun r8 G9 r80 r81 D9 k9 => ?_
              rcases (show r8 = 0 ∨ r8 = 1 by omega) with rfl | rfl
              · exact ⟨_, rfl, q' y G9 rfl D9 k9⟩
              · exact ⟨_, rfl, q' (-y) G9 (absI_neg y) D9 k9⟩
            · intro c2 hc2
              (try conv => whnf); (repeat (first | (rw [updG_same]; conv => whnf) | (refine Exists.intro _ (And.intro rfl ?_); conv => whnf) | (refine And.intro rfl ?_; conv => whnf) | (refine frz_lst ?_; conv => whnf) | (refine frz_dK ?_; conv => whnf) | (refine frz_dT ?_; conv => whnf)))
              exact ret_fin _ _ (by rw [paired_abs hz]; exact (e5.map absI).trans hpR) (D8.new hc2) ((k7.trans k8).ext (ExtG.new hc2))
          · exact ⟨L, [], rfl, updG_same, .refl _, by rw [List.length_range]; exact hlR, D5, k4.ext e1⟩
abbrev N__law_goes : List Str := ["turn", "letter"]
structure P__law_goes (ws : List W) (G : GH) (R : KW) (RX : XW) : Prop where
  ex : ∃ (many : Int) (ls : List Int) (l : Int), ws = [.tup (ls.map W.int), .int l] ∧ (TurnOf many ls) ∧ (LetOf many l) ∧ (R (.int (goI ls l)) G)
theorem len__law_goes : ∀ ws G R RX, P__law_goes ws G R RX → ws.length = ["turn", "letter"].length := by
  rintro ws G R RX ⟨⟨_, _, _, rfl, _, _, _⟩⟩; rfl
theorem p__law_goes {many : Int} {ls : List Int} {l : Int} {G : GH} {R : KW} {RX : XW} (t : TurnOf many ls) (hl : LetOf many l) (q : R (.int (goI ls l)) G) : P__law_goes [.tup (ls.map W.int), .int l] G R RX := ⟨many, ls, l, rfl, t, hl, q⟩
def T__law_goes : TWS :=
  (sRet (tIfE (tTestW (tOpW gtW (tV 1) (tK (.int 0)))) (tOpW ixW (tV 0) (tOpW subW (tV 1) (tK (.int 1)))) (tNegW (tOpW ixW (tV 0) (tOpW subW (tNegW (tV 1)) (tK (.int 1)))))))
theorem rd__law_goes (ws : List W) (G : GH) (R : KW) (RX : XW) (h : P__law_goes ws G R RX) : T__law_goes { nx := fun _ G' => fgt R .non G', rt := fgt R } (startW N__law_goes ws) G := by
  obtain ⟨many, ls, l, rfl, t, hl, q⟩ := h
  unfold LetOf absI at hl
  unfold goI at q
  conv => whnf
  by_cases c : l > 0
  · rw [if_pos c] at q
    rw [if_neg (by omega)] at hl
    rw [decide_eq_true c]
    conv => whnf
    exact ⟨_, (t.get hl.1 hl.2).2, ret q⟩
  · rw [if_neg c] at q
    rw [if_pos (show l < 0 by split at hl <;> omega)] at hl
    rw [decide_eq_false c]
    conv => whnf
    exact ⟨_, (t.get hl.1 hl.2).2, ret q⟩
end WS
set_option Elab.async false
set_option linter.all false
set_option maxRecDepth 100000
set_option maxHeartbeats 4000000
namespace WS
open PySem PySem.Spec PyProof.Rows L2 WL
theorem pool_pop {i j : Nat} {S : WSt} {d p : Addr} {ns ps : List Int} {G G2 : GH} {R' : KW} (h0 : S[j]? = some (some (.ref d))) (hi : S[i]? = some (some (.ref p))) (gp : G2 p = some (.lst (ps.map W.int))) (ne : 0 < ps.length) (hl : ps.length ≤ 1000000)
    (D : Dr ns d G2) (hG : G p = none) (k : KeepG d G G2) (q : ∀ (r : Nat) (hr : r < ps.length) G3, G3 p = some (.lst ((ps.eraseIdx r).map W.int)) → Dr ns d G3 → KeepG d G G3 → R' (.int ps[r]) G3) :
    tMetL popW (tV i) (tCo (tCall0 P__law_next [] (tCo (tV j) (tCo (tCW lenQ (tCo (tV i) tN)) tN))) tN) S G2 R' := by
  have dp : p ≠ d := D.ne gp fun n e => by
    have := congrArg (List.map fun w : W => w.isN) e
    cases ps with
    | nil => simp at ne
    | cons a ps => cases e
  simp only [tMetL, tV, tCo, tCall0, tCW, tN, h0, hi, lenQ, gp, List.append_nil, List.length_map]
  refine ⟨recL_lst gp, ?_⟩
  refine p__law_next (by omega) D fun r G3 r0 r1 D3 k3 => ?_
  have gp3 := k3 _ _ dp gp
  unfold popW
  dsimp only
  rw [gp3]
  have hk : r.toNat < ps.length := by omega
  refine ⟨by omega, by omega, r.toNat, .int ps[r.toNat], by rw [List.length_map]; exact seqIndex_nat r0 (by omega), by simp [hk], ?_⟩
  have er : (ps.map W.int).eraseIdx r.toNat = (ps.eraseIdx r.toNat).map W.int := erase_map _ _
  rw [er]
  exact q r.toNat hk _ updG_same (D3.upd dp.symm) ((k.trans k3).putNew hG)
theorem comp_pool {α : Type} {f : α → W} {Gd : GH → Prop} {i j m : Nat} {S0 : WSt} {R : List W → GH → Prop} {d p : Addr} {ns : List Int} {G : GH} (hG : G p = none) (hg : ∀ G', Gd G') (h0 : S0[j]? = some (some (.ref d))) (hi : S0[i]? = some (some (.ref p))) (mj : m ≠ j) (mi : m ≠ i) :
    ∀ (xs : List α) (ls ps : List Int) (G1 : GH), G1 p = some (.lst (ps.map W.int)) → KeepG d G G1 → Dr ns d G1 → xs.length ≤ ps.length → ls.length + ps.length ≤ 1000000 →
    (∀ (ls' ps' : List Int) G', (ls' ++ ps').Perm (ls ++ ps) → ls'.length = ls.length + xs.length → G' p = some (.lst (ps'.map W.int)) → Dr ns d G' → KeepG d G G' → R (ls'.map W.int) G') →
    compW Gd (gN m) tYesW (tMetL popW (tV i) (tCo (tCall0 P__law_next [] (tCo (tV j) (tCo (tCW lenQ (tCo (tV i) tN)) tN))) tN)) S0 R (xs.map f) G1 (ls.map W.int)
  | [], ls, ps, G1, gp, k, D, _, _, q => ⟨hg _, q ls ps G1 (.refl _) (by simp) gp D k⟩
  | x :: xs, ls, ps, G1, gp, k, D, hx, hl, q => by
    rw [List.length_cons] at hx
    refine ⟨hg _, ?_⟩
    refine pool_pop (S := S0.set m (some (f x))) (by rw [List.getElem?_set_ne mj]; exact h0) (by rw [List.getElem?_set_ne mi]; exact hi) gp (by omega) (by omega) D hG k fun r hr G3 gp3 D3 k3 => ?_
    refine ⟨by rw [List.length_map, sizeLine_eq]; omega, ?_⟩
    have e : ls.map W.int ++ [.int ps[r]] = (ls ++ [ps[r]]).map W.int := by rw [List.map_append]; rfl
    rw [e]
    refine comp_pool hG hg h0 hi mj mi xs _ _ G3 gp3 k3 D3 (by rw [List.length_eraseIdx_of_lt hr]; omega) (by rw [List.length_eraseIdx_of_lt hr, List.length_append, List.length_singleton]; omega) fun ls' ps' G' pm hl' g' D' k' => ?_
    refine q ls' ps' G' (pm.trans ?_) (by rw [hl', List.length_append, List.length_singleton, List.length_cons]; omega) g' D' k'
    exact pool_perm hr (.refl _)
theorem sign_draw {i j : Nat} {S : WSt} {d : Addr} {ns : List Int} {y : Int} {G2 : GH} {R' : KW} (h0 : S[j]? = some (some (.ref d))) (hi : S[i]? = some (some (.int y))) (D : Dr ns d G2) (q : ∀ z G3, absI z = absI y → Dr ns d G3 → KeepG d G2 G3 → R' (.int z) G3) :
    tOpW ixW (tFz (tLstW (tCo (tV i) (tCo (tNegW (tV i)) tN)))) (tCall0 P__law_next [] (tCo (tV j) (tCo (tK (.int 2)) tN))) S G2 R' := by
  simp only [tOpW, tFz, tLstW, tCo, tV, hi, h0, tNegW, negW, tN, tCall0, tK, List.append_nil]
  refine ⟨by simp [sizeLine_eq], frz_lst ?_⟩
  refine p__law_next (by decide) D fun r8 G9 r80 r81 D9 k9 => ?_
  rcases (show r8 = 0 ∨ r8 = 1 by omega) with rfl | rfl
  · exact ⟨_, rfl, q y G9 rfl D9 k9⟩
  · exact ⟨_, rfl, q (-y) G9 (absI_neg y) D9 k9⟩
theorem comp_signs {Gd : GH → Prop} {i j : Nat} {S0 : WSt} {R : List W → GH → Prop} {d : Addr} {ns : List Int} {G : GH} (hg : ∀ G', KeepG d G G' → Gd G') (h0 : S0[j]? = some (some (.ref d))) (ij : i ≠ j) (hi : S0[i]?.isSome = true) {ls : List Int} (D : Dr ns d G) (hl : ls.length ≤ 1000000)
    (q : ∀ zs G', absL zs = absL ls → Dr ns d G' → KeepG d G G' → R (zs.map W.int) G') :
    compW Gd (gN i) tYesW (tOpW ixW (tFz (tLstW (tCo (tV i) (tCo (tNegW (tV i)) tN)))) (tCall0 P__law_next [] (tCo (tV j) (tCo (tK (.int 2)) tN)))) S0 R (ls.map W.int) G [] :=
  compW_draw (f := W.int) (g := W.int) (Pz := fun y z => absI z = absI y) hg ls [] G .refl D (by rw [sizeLine_eq]; simp; omega)
    (fun y _ G2 R' k2 D2 q' => sign_draw (S := S0.set i (some (.int y))) (by rw [List.getElem?_set_ne ij]; exact h0) (List.getElem?_set_self (by rw [Option.isSome_iff_exists] at hi; obtain ⟨_, e⟩ := hi; exact (List.getElem?_eq_some_iff.mp e).1)) D2 q')
    fun zs G' hz D' k' => q zs G' (paired_abs hz) D' k'
abbrev N__law_joined : List Str := ["one", "other", "letter"]
structure P__law_joined (ws : List W) (G : GH) (R : KW) (RX : XW) : Prop where
  ex : ∃ (many : Int) (a c : List Int), ws = [.tup (a.map W.int), .tup (c.map W.int)] ∧ (TurnOf many a) ∧ (TurnOf many c) ∧ (R (.tup ((thenL a c).map W.int)) G)
theorem len__law_joined : ∀ ws G R RX, P__law_joined ws G R RX → ws.length = ["one", "other"].length := by
  rintro ws G R RX ⟨⟨_, _, _, rfl, _, _, _⟩⟩; rfl
theorem p__law_joined {many : Int} {a c : List Int} {G : GH} {R : KW} {RX : XW} (ta : TurnOf many a) (tc : TurnOf many c) (q : R (.tup ((thenL a c).map W.int)) G) : P__law_joined [.tup (a.map W.int), .tup (c.map W.int)] G R RX := ⟨many, a, c, rfl, ta, tc, q⟩
def T__law_joined : TWS :=
  (sRet (tCF fTup (tCompI (tISeq (tV 0)) (gN 2) tYesW (tCall0 P__law_goes [] (tCo (tV 1) (tCo (tV 2) tN))) [2])))
theorem rd__law_joined (ws : List W) (G : GH) (R : KW) (RX : XW) (h : P__law_joined ws G R RX) : T__law_joined { nx := fun _ G' => fgt R .non G', rt := fgt R } (startW N__law_joined ws) G := by
  obtain ⟨many, a, c, rfl, ta, tc, q⟩ := h
  have la := ta.len
  have h4 := ta.h4
  conv => whnf
  refine compW_pure (f := W.int) (v := fun l => W.int (goI c l)) trivial a [] (by rw [sizeLine_eq]; simp; omega) (fun l hm R' q' => ?_) ?_
  · exact p__law_goes tc (ta.mem hm) q'
  · rw [List.nil_append, show (a.map fun l => W.int (goI c l)) = (thenL a c).map W.int by unfold thenL; rw [List.map_map]; rfl]
    exact ret q
end WS
set_option Elab.async false
set_option linter.all false
set_option maxRecDepth 100000
set_option maxHeartbeats 4000000
namespace WL
open PySem PySem.Spec PyProof.Rows L2 PySem.W
section
variable {X : Cx} {Z : GH × Hp} {pos : Pos}
theorem updG_upd {G : GH} {D : Addr} {a b : GO} : updG (updG G D a) D b = updG G D b := by
  funext x
  by_cases e : x = D
  · subst e; rw [updG_same, updG_same]
  · rw [updG_ne e, updG_ne e, updG_ne e]
end
end WL
set_option Elab.async false
set_option linter.all false
set_option maxRecDepth 100000
set_option maxHeartbeats 4000000
namespace WL
open PySem PySem.Spec PyProof PyProof.Rows L2 PySem.W
def tupKey (b : List Int) : PyData := .tuple (b.map .int)
def byTup (bs : List (List Int)) : List (List Int) := bs.mergeSort (dataLe false tupKey)
theorem byTup_perm (bs : List (List Int)) : (byTup bs).Perm bs := List.mergeSort_perm bs _
section
variable {prog : Program} {w : World} {A : Around} {E : Value → Shared → Prop} {s : Shared}
def FstsO (h : Heap) : List Value → List (Option Value) → Prop
  | [], [] => True
  | v :: vs, f :: fs => (∃ a o xs n, v = .ref a ∧ h.get? a = some o ∧ o.cls = .type "tuple" ∧ o.data = .seq xs n ∧ xs[0]? = f) ∧ FstsO h vs fs
  | _, _ => False
theorem fsts_run {M : Model} : ∀ (vs : List Value) (fs : List (Option Value)) {Q : List (Option Value) → Shared → Prop}, FstsO s.heap vs fs → Q fs s → wpAny M A (vs.mapM firstOfTuple') Q E s
  | [], [], _, _, h => by rw [List.mapM_nil]; exact wpAny_pure h
  | [], _ :: _, _, t, _ => t.elim
  | _ :: _, [], _, t, _ => t.elim
  | v :: vs, f :: fs, Q, t, h => by
    obtain ⟨⟨a, o, xs, n, rfl, ho, hc, hd, hf⟩, t⟩ := t
    rw [List.mapM_cons]
    refine wpAny_bind ?_
    rw [kas_first_eq]
    refine wpAny_bind (Looks.here (show Looks M s.heap (typeOf (.ref a)) o.cls from (Looks.ld ho).andThen .now) ?_)
    rw [hc, if_neg (by first | decide | simp)]
    refine wpAny_bind (listItems_at ho hd (wpAny_pure ?_))
    rw [hf]
    exact wpAny_bind (fsts_run vs fs (Q := fun bs s' => wpAny M A (pure (f :: bs)) Q E s') t (wpAny_pure h))
theorem fsts_of {h : Heap} : ∀ {vs : List Value} {ds : List PyData}, EachIs (fun v d => ∃ as, Reads h v d as) vs ds → (∀ d ∈ ds, ∃ xs, d = .tuple xs) → ∃ fs, FstsO h vs fs ∧ ((∃ d ∈ ds, d = .tuple []) → fs.toArray.all (fun x => x.isSome) = false)
  | _, _, .nil, _ => ⟨[], trivial, fun ⟨d, hd, _⟩ => absurd hd (by simp)⟩
  | _, _, .cons (b := d) ⟨as, r⟩ t, ht => by
    obtain ⟨fs, h1, h2⟩ := fsts_of t fun d hd => ht d (List.mem_cons_of_mem _ hd)
    obtain ⟨ys, rfl⟩ := ht d List.mem_cons_self
    cases r with
    | @tuple a o xs n _ _ ho hc hd hr =>
      refine ⟨xs[0]? :: fs, ⟨⟨a, o, xs, n, rfl, ho, hc, hd, rfl⟩, h1⟩, fun ⟨d', hd', e'⟩ => ?_⟩
      simp only [List.all_toArray, List.all_cons] at h2 ⊢
      rcases List.mem_cons.mp hd' with rfl | hd'
      · injection e' with e'
        subst e'
        have e0 : xs.toList = [] := by
          generalize xs.toList = l at hr
          cases hr; rfl
        have : xs[0]? = none := by rw [← Array.getElem?_toList, e0]; rfl
        rw [this]; rfl
      · rw [h2 ⟨d', hd', e'⟩, Bool.and_false]
theorem call_tuple_lt {Q : Value → Shared → Prop} {l b : Addr} {items items2 : Array Value} {e r : Nat → Bool} (hl : s.heap.IsTuple l items) (hb : s.heap.IsTuple b items2)
    (he : ∀ j (h1 : j < items.size) (h2 : j < items2.size), SeqAt.EqAt A.in1 s items[j] items2[j] (e j)) (hr : ∀ j (h1 : j < items.size) (h2 : j < items2.size), e j = false → SeqAt.RcLt A.in1 s items[j] items2[j] (r j))
    (h : Q (.bool (SeqAt.firstLt e r (decide (items.size < items2.size)) (List.range (min items.size items2.size)))) s) : wpAny (model prog w) A (call (.builtin "tuple.__lt__") [.ref l, .ref b]) Q E s := by
  obtain ⟨⟨cls, dd, data, sl⟩, ho, hc, n, hd⟩ := id hl
  obtain ⟨⟨cls2, dd2, data2, sl2⟩, ho2, hc2, n2, hd2⟩ := id hb
  simp only at hc hd hc2 hd2
  subst hc hd hc2 hd2
  exact call_meets F.slot_tuple_lt ⟨_, ho, rfl⟩ F.entry_tuple_lt (F.args_tuple_lt_2 _ _) (SeqAt.tuple_ltAt l b items items2 n n2 dd dd2 sl sl2 e r) ⟨ho, ho2, he, hr, h⟩
theorem oneLt_tups {f : Bool} {xs ys : List PyData} {a b : Value} {as bs : List Addr} {Q : Bool → Shared → Prop} (ra : Reads s.heap a (.tuple xs) as) (rb : Reads s.heap b (.tuple ys) bs) (h : alike (.tuple xs) (.tuple ys) = true)
    (hu : A.units + min (PyData.tuple xs).depth (PyData.tuple ys).depth < cLine) (hq : Q (dataLt (.tuple xs) (.tuple ys)) s) : wpAny (model prog w) A (oneLt' f a b) Q E s := by
  cases f with
  | false => exact oneLt_alike (fun z => absurd z (by decide)) ra rb h (by simp) hu hq
  | true =>
    have hal : alikeAll xs ys = true := by simpa [alike] using h
    cases ra with
    | @tuple l o vs n _ as₁ h1 h2 h3 h4 =>
      cases rb with
      | @tuple l' o' vs' n' _ bs₁ k1 k2 k3 k4 =>
        have n1 : vs.size = xs.length := by simpa using SeqAt.ReadsAll.length _ _ _ h4
        have n2 : vs'.size = ys.length := by simpa using SeqAt.ReadsAll.length _ _ _ k4
        rw [dataLt_tuple, ← firstLt_toks xs ys hal, ← n1, ← n2] at hq
        rw [oneLt'_eq]
        simp only [if_true]
        refine wpAny_bind (wpAny_cRoomFor (SeqAt.room_here hu) ?_)
        refine wpAny_bind (wpAny_callSpecialIfBound?_slot (T := "tuple") ⟨_, h1, h2⟩ F.slot_tuple_lt (call_tuple_lt (e := SeqAt.pairEq xs ys) (r := fun j => dataLt (xs.getD j .none) (ys.getD j .none)) ⟨_, h1, h2, _, h3⟩ ⟨_, k1, k2, _, k3⟩ (fun j j1 j2 => ?_) (fun j j1 j2 hj => ?_) ?_))
        · have := eqAt_alikeAll xs ys A.in1 s vs.toList vs'.toList _ _ h4 k4 hal (SeqAt.room_in hu) j (by simpa using j1) (by simpa using j2)
          simpa using this
        · have := rcLt_alikeAll xs ys A.in1 s vs.toList vs'.toList _ _ h4 k4 hal (SeqAt.room_in hu) j (by simpa using j1) (by simpa using j2) hj
          simpa using this
        · exact wpAny_truthy_bool hq
theorem sorts_tups {vs : List Value} {ds : List PyData} (e : EachIs (fun v d => ∃ as, Reads s.heap v d as) vs ds) (hal : AllAlike ds) (ht : ∀ d ∈ ds, ∃ xs, d = .tuple xs) (hu : ∀ d, d ∈ ds → A.units + d.depth < cLine) : SortsAt prog w A s (dataKind s.heap ds) vs := by
  by_cases hn : ∃ d ∈ ds, d = .tuple []
  · have room : ∀ {d d' : PyData}, d ∈ ds → A.units + min d.depth d'.depth < cLine := fun {d d'} hd => Nat.lt_of_le_of_lt (Nat.add_le_add_left (Nat.min_le_left _ _) _) (hu d hd)
    refine ⟨fun v hv => ?_, ?_⟩
    · obtain ⟨d, hd, as, r⟩ := e.left v hv
      exact ⟨_, dataKind_some hal hd r⟩
    obtain ⟨fs, t1, t2⟩ := fsts_of e ht
    have lt : ∀ f : Bool, ∀ (E : Value → Shared → Prop) (x y : Value) (a b : _) (Q : Bool → Shared → Prop), (dataKind s.heap ds).keyOf x = some a → (dataKind s.heap ds).keyOf y = some b → Q ((dataKind s.heap ds).blt a b) s → wpAny (model prog w) A (oneLt' f x y) Q E s := by
      intro f E x y a b Q ha hb hq
      obtain ⟨d, as, hd, ra, rfl⟩ := dataKind_inv ha
      obtain ⟨d', as', hd', rb, rfl⟩ := dataKind_inv hb
      obtain ⟨x1, rfl⟩ := ht d hd
      obtain ⟨x2, rfl⟩ := ht d' hd'
      exact oneLt_tups ra rb (hal _ hd _ hd') (room hd) hq
    by_cases hf : ((fs.toArray[0]?).bind id).isSome = true
    · refine ⟨general', fun E x y a b Q ha hb hq => lt false E x y a b Q ha hb hq, fun h2 E Q hq => ?_⟩
      rw [kat_kind_eq, List.mapM_toArray, map_eq_pure_bind]
      refine wpAny_bind (wpAny_bind (fsts_run vs _ t1 (wpAny_pure ?_)))
      rw [if_neg (by rw [t2 hn]; simp), if_pos hf]
      exact wpAny_pure hq
    · refine ⟨oneType', fun E x y a b Q ha hb hq => lt true E x y a b Q ha hb hq, fun h2 E Q hq => ?_⟩
      rw [kat_kind_eq, List.mapM_toArray, map_eq_pure_bind]
      refine wpAny_bind (wpAny_bind (fsts_run vs _ t1 (wpAny_pure ?_)))
      rw [if_neg (by rw [t2 hn]; simp), if_neg hf]
      rw [oneTypeOnly'_eq, List.mapM_toArray, map_eq_pure_bind]
      refine wpAny_bind (wpAny_bind (wpAny_bind (kas_mapM (r := Value.type "tuple") _ (fun v hv Q' hq => (?_ : wpAny _ _ _ _ _ _)) (wpAny_pure ?_))))
      · obtain ⟨d, hd, as, r⟩ := e.left v hv
        obtain ⟨ys, rfl⟩ := ht d hd
        exact (looks_reads r).here hq
      · have hall : ((List.map (fun _ => Value.type "tuple") vs).toArray.all fun x => x == Value.type "tuple") = true := by
          simp only [List.all_toArray, List.all_map, List.all_eq_true]
          intro _ _; rfl
        have h0 : (List.map (fun _ => Value.type "tuple") vs).toArray[0]? = some (Value.type "tuple") := by
          cases vs with
          | nil => simp at h2
          | cons v vs => simp
        rw [h0]
        simp only [hall, if_true]
        exact wpAny_pure (wpAny_pure hq)
  · refine SortsAt.data e hal (.inl fun d hd => ?_) hu
    obtain ⟨xs, rfl⟩ := ht d hd
    cases xs with
    | nil => exact absurd ⟨_, hd, rfl⟩ hn
    | cons x r => exact ⟨x, r, rfl⟩
theorem list_sort_tupsD {β : Type} {R : Value → β → Prop} {enc : β → PyData} {bs : List β} {a : Addr} {vs : List Value} {n : Nat} {Q : Value → Shared → Prop} (ho : s.heap.get? a = some (seqObj "list" vs.toArray n)) (e : EachIs R vs bs) (er : EachIs (fun v b => ∃ as, Reads s.heap v (enc b) as ∧ a ∉ as) vs bs) (hal : AllAlike (bs.map enc)) (ht : ∀ b, ∃ xs, enc b = .tuple xs) (hL : bs.length ≤ sizeLine)
    (hu : ∀ b, b ∈ bs → A.units + 1 + (enc b).depth < cLine) (h : ∀ out, out.length = bs.length → EachIs R out (bs.mergeSort (dataLe false enc)) → Q .none { s with heap := sortedHeap s.heap a vs (List.toArray out) }) :
    wpAny (model prog w) A (call (.builtin "list.sort") [.ref a]) Q E s := by
  have er' : EachIs (fun v b => ∃ as, Reads (sortingHeap s.heap a vs) v (enc b) as) vs bs := each_keepBut (h' := sortingHeap s.heap a vs) (fun _ _ hb q => sortingHeap_old hb q) (fun o q => by rw [ho] at q; rw [← Option.some.inj q]) hal er
  refine wpAny_call_entry slot_list_sort ⟨_, ho, rfl⟩ entry_list_sort (list_sort_vals (κ := dataKind (sortingHeap s.heap a vs) (bs.map enc)) ho (sorts_tups (s := { s with heap := sortingHeap s.heap a vs }) (each_map (R := fun v d => ∃ as, Reads (sortingHeap s.heap a vs) v d as) enc er') hal (fun d hd => by obtain ⟨b, _, rfl⟩ := List.mem_map.mp hd; exact ht b) (bound_map hu)) (by rw [e.length]; exact hL) ⟨.none, rfl, ?_⟩) (args_list_sort _)
  exact h _ (by rw [sortVals_length false rfl]; exact e.length) (sortVals_data false e er' hal)
end
section
variable {X : Cx}
def rSortT (K : PySem.W.Frag) : List V → Hp → VK → Prop := fun vs H Q => ∃ a bs, vs = [.ref a] ∧ TupsAt K H a bs ∧ (∀ b ∈ bs, b.length ≤ sizeLine) ∧
  ∀ q ps, H q = none → Paired (TupAt H) ps (byTup bs) → Q (.ref q) (upd H q (.lst (ps.map V.ref)))
theorem tup_reads {P : Program} {w : World} {H : Hp} {h : Heap} {p : Addr} {b : List Int} (hok : HOk P w H h) (hp : TupAt H p b) : Reads h (.ref p) (tupKey b) [] := by
  obtain ⟨zb, its, rv, ist⟩ := hok p _ hp
  obtain ⟨o4, g4, c4, n4, d4⟩ := ist
  refine .tuple g4 c4 d4 ?_
  have : ∀ {vs : List Int} {us : List Value}, Vals (vs.map V.int) us → ReadsAll h us (vs.map .int) [] := by
    intro vs
    induction vs with
    | nil => intro us r; cases r; exact .nil
    | cons x vs ih =>
      intro us r
      cases r with
      | cons r rs =>
        obtain ⟨t, rfl⟩ := r
        exact .cons (as := []) (.int x t) (ih rs)
  simpa using this rv
theorem cr_sortedT (hc : X.calm = true) (hu : X.A.units + 20 < cLine) : CallR X (.builtin "sorted") (rSortT X.K) := by
  intro pins s σ H xs us Q I r h
  obtain ⟨a, bs, rfl, hi, hbl, q⟩ := h
  obtain rfl := Vals.ref1 r
  obtain ⟨hz, coll⟩ := tups_collect I (I.ok.hd hc) hi
  refine Calls.call_function_entry kind_sorted plain_sorted entry_sorted (args_sorted1 _) ?_
  unfold Builtin.«sorted»
  refine wpAny_bind (m := checkCount "sorted" 1 1 _) (wpAny_pure ?_)
  refine wpAny_bind (coll _ fun us g1 tk kp hei => ?_)
  have hul : us.length ≤ sizeLine := by rw [hei.length]; exact hz
  have J1 : Inv X pins σ H { s with heap := g1, toks := tk } := I.kept kp
  refine wpAny_bind (wpAny_newList ?_ hul)
  refine wpAny_bind (wpAny_holding ?_)
  have hok2 : HOk X.prog X.w H (g1.push { cls := .type "list", data := .seq us.toArray }) := J1.hok.kept fun b o e => Heap.get?_push_of_some _ e
  refine list_sort_tupsD (β := List Int) (enc := tupKey) (Heap.get?_push_size _ rfl) hei (hei.mono fun v b ⟨p, ev, hp⟩ => ⟨[], by subst ev; exact tup_reads hok2 hp, by simp⟩) (AllAlike.of fun a b => by unfold tupKey; simp only [alike, alike_ints]) (fun b => ⟨_, rfl⟩) hz (fun b hb => ?_) fun out len each => ?_
  · have : (tupKey b).depth ≤ 1 := by
      unfold tupKey
      rw [PyData.depth]
      simp only [WL.depthAll_ints]
      omega
    show X.A.units + 1 + 1 + _ < cLine
    omega
  · obtain ⟨ps, hv, hp⟩ := refs_each each
    refine wpAny_pure ?_
    obtain ⟨c, hat⟩ := sortedHeap_at (h := g1.push { cls := .type "list", data := .seq us.toArray }) (a := g1.objs.size) (vs := us) (n := 0) (out := out.toArray) (Heap.get?_push_size _ rfl)
    have k2 : ∀ b o, g1.get? b = some o → (sortedHeap (g1.push { cls := .type "list", data := .seq us.toArray }) g1.objs.size us out.toArray).get? b = some o := fun b o e => by
      rw [sortedHeap_old (Nat.ne_of_lt (Heap.lt_size e)) (Heap.lt_size (Heap.get?_push_of_some _ e))]
      exact Heap.get?_push_of_some _ e
    have hl : (ps.map V.ref).length ≤ sizeLine := by
      rw [List.length_map, Paired.length hp]
      show (byTup bs).length ≤ sizeLine
      rw [(byTup_perm bs).length_eq]; exact hz
    exact ⟨_, rfl, .ref g1.objs.size, upd H g1.objs.size (.lst (ps.map V.ref)), J1.laid (t' := tk) k2 (Nat.le_refl _) ⟨hl, out, c, hv, hat⟩, rfl, q _ ps (J1.hok.fresh (Nat.le_refl _)) hp⟩
def sortedT : CW := fun ws G R => match ws with
  | [w] => match tupsIn w G with
    | some bs => (∀ b ∈ bs, b.length ≤ sizeLine) ∧ ∀ p, G p = none → R (.ref p) (updG G p (.lst ((byTup bs).map fun b => .tup (b.map W.int))))
    | none => False
  | _ => False
theorem call_sortedT (hc : X.calm = true) (hu : X.A.units + 20 < cLine) : CallW X (.builtin "sorted") sortedT := by
  intro pins s σ H xs us Q I r h
  obtain ⟨ws, G, R, rs, rh, t, k⟩ := h
  unfold sortedT at t
  split at t
  · split at t
    · rename_i w bs e
      obtain ⟨v, rfl, rv⟩ := rs.one
      obtain ⟨a, rfl, hi⟩ := tups_at e rv rh
      exact cr_sortedT hc hu pins s σ H _ us Q I r ⟨a, bs, rfl, hi, t.1, fun q ps hq hp => k _ _ _ _ (t.2 q (rh.free hq)) (.newG hq) (.ref _) (rh.newG hq ⟨_, upd_same, (tups_rvs hp).mono (.new hq) rh⟩)⟩
    · exact t.elim
  · exact t.elim
end
end WL
set_option Elab.async false
set_option linter.all false
set_option maxRecDepth 100000
set_option maxHeartbeats 4000000
namespace WL
open PySem PySem.Spec PyProof PyProof.Rows L2 PySem.W
def mergeT (acc : List (List Key × W)) : List (List Key × W) → List (List Key × W)
  | [] => acc
  | kv :: r => mergeT (putW acc kv.1 kv.2) r
section
variable {X : Cx}
theorem call_listDT (hcalm : X.calm = true) : CallR X (.type "list") (fun xs H Q => ∃ (a : Addr) (kvs : List (List Key × V)), xs = [.ref a] ∧ Rd H a (.dT kvs) ∧ ∀ p ps, H p = none → Paired (fun q kv => H q = some (.tup (kv.1.map kV))) ps kvs → Q (.ref p) (upd H p (.lst (ps.map V.ref)))) := by
  intro pins s σ H xs us Q I r q
  obtain ⟨a, kvs, rfl, hd, q⟩ := q
  obtain rfl := Vals.ref1 r
  obtain ⟨z, hs, o, es, ep, ho, hx, hdt, hsz, ent⟩ := dt_rd I.hok hd
  refine PySem.W.kdl_call (kdl_raw hs hx hdt) (I.ok.hd hcalm) ho (by omega) fun h' tk acc c' hk hD hacc => ?_
  have e1 : acc.toList.length = kvs.length := by rw [Array.length_toList, hacc.1, hsz]
  have each : ∃ ps : List Addr, Vals (ps.map V.ref) acc.toList ∧ Paired (fun q kv => H q = some (.tup (kv.1.map kV))) ps kvs := by
    have go : ∀ {us : List Value} {ks : List (List Key × V)}, us.length = ks.length → (∀ (j : Nat) (v : Value), us[j]? = some v → ∃ kv q, ks[j]? = some kv ∧ v = .ref q ∧ H q = some (.tup (kv.1.map kV))) → ∃ ps : List Addr, Vals (ps.map V.ref) us ∧ Paired (fun q kv => H q = some (.tup (kv.1.map kV))) ps ks := by
      intro us
      induction us with
      | nil =>
        intro ks hl h
        cases ks with
        | nil => exact ⟨[], .nil, .nil⟩
        | cons k ks => cases hl
      | cons u us ih =>
        intro ks hl h
        cases ks with
        | nil => cases hl
        | cons k ks =>
          obtain ⟨kv, qq, e2, e3, e4⟩ := h 0 u rfl
          cases e2
          obtain ⟨ps, h1, h2⟩ := ih (by simpa using hl) fun j v e => h (j + 1) v e
          exact ⟨qq :: ps, .cons e3 h1, .cons e4 h2⟩
    refine go e1 fun j v e => ?_
    obtain ⟨en, h1, rfl⟩ := hacc.2 j v (by rw [← Array.getElem?_toList]; exact e)
    have hj : j < kvs.length := by rw [← hsz]; exact (Array.getElem?_eq_some_iff.mp h1).1
    obtain ⟨en', qq, h2, h3, h4⟩ := ent j (kvs[j]).1 (kvs[j]).2 (List.getElem?_eq_getElem hj)
    rw [h1] at h2
    cases h2
    exact ⟨kvs[j], qq, List.getElem?_eq_getElem hj, h3, h4⟩
  obtain ⟨ps, hv, hp⟩ := each
  have lp : ps.length = kvs.length := Paired.length hp
  refine ⟨.ref s.heap.objs.size, upd H s.heap.objs.size (.lst (ps.map V.ref)), I.laid (t' := tk) hk (Nat.le_refl _)
    (show ObjOk X.prog X.w _ _ _ (.lst (ps.map V.ref)) from ⟨by rw [List.length_map, lp]; exact z, acc.toList, c', hv, by rw [Array.toArray_toList]; exact hD⟩), rfl, q _ ps (I.hok.fresh (Nat.le_refl _)) hp⟩
def keysTIn (w : W) (G : GH) : Option (List W) := match w with
  | .ref p => match G p with
    | some (.dT kws) => some (kws.map fun kw => ktup kw.1)
    | _ => none
  | .fdT kws => some (kws.map fun kw => ktup kw.1)
  | _ => none
def toListTW : CW := fun ws G R => match ws with
  | [w] => match keysTIn w G with
    | some xs => ∀ p, G p = none → R (.ref p) (updG G p (.lst xs))
    | none => toListDW [w] G R
  | _ => False
theorem rvs_keyst {K : PySem.W.Frag} {H : Hp} : ∀ {ks : List (List Key)} {kvs : List (List Key × V)} {ps : List Addr}, kvs.map (·.1) = ks → Paired (fun q kv => H q = some (.tup (kv.1.map kV))) ps kvs → RVs K H (ps.map V.ref) (ks.map ktup)
  | _, [], _, e, .nil => by subst e; exact .nil
  | _, kv :: kvs, q :: ps, e, .cons h t => by
    subst e
    rw [List.map_cons, List.map_cons, List.map_cons]
    exact .cons (.tup h (rvs_keys _)) (rvs_keyst rfl t)
theorem call_listTW (hc : X.calm = true) : CallW X (.type "list") toListTW := by
  intro pins s σ H xs us Q I r h
  obtain ⟨ws, G, R, rs, rh, t, k⟩ := h
  match ws, t, rs with
  | [w], t, rs =>
    unfold toListTW at t
    dsimp only at t
    split at t
    · rename_i ys e
      obtain ⟨v, rfl, rv⟩ := rs.one
      unfold keysTIn at e
      cases w with
      | ref p =>
        cases rv
        dsimp only at e
        split at e
        · rename_i kws eg
          cases e
          obtain ⟨kvs, hv, rr⟩ := rh _ _ eg
          refine call_listDT hc pins s σ H _ us Q I r ⟨_, kvs, rfl, .inl hv, fun l ps hl hp => k _ _ _ _ (t l (rh.free hl)) (.newG hl) (.ref l) (rh.newG hl ⟨_, upd_same, ?_⟩)⟩
          have e2 : (kws.map fun kw => ktup kw.1) = (kws.map (·.1)).map ktup := by rw [List.map_map]; rfl
          rw [e2, ← RKV.keys rr]
          exact (rvs_keyst rfl hp).mono (.newG (G := G) (o := .lst []) hl) rh
        · cases e
      | fdT kws =>
        cases e
        cases rv with
        | @fdT a ob kvs _ hv ek rr =>
          refine call_listDT hc pins s σ H _ us Q I r ⟨_, kvs, rfl, .inr ⟨ob, hv⟩, fun l ps hl hp => k _ _ _ _ (t l (rh.free hl)) (.newG hl) (.ref l) (rh.newG hl ⟨_, upd_same, ?_⟩)⟩
          have e2 : (kws.map fun kw => ktup kw.1) = (kws.map (·.1)).map ktup := by rw [List.map_map]; rfl
          rw [e2, ← ek]
          exact (rvs_keyst rfl hp).mono (.newG (G := G) (o := .lst []) hl) rh
      | _ => cases e
    · exact call_listDW hc pins s σ H xs us Q I r ⟨[w], G, R, rs, rh, t, k⟩
end
end WL
set_option Elab.async false
set_option linter.all false
set_option maxRecDepth 100000
set_option maxHeartbeats 4000000
namespace WS
open PySem PySem.Spec PyProof.Rows L2 WL
def addX {α : Type} [DecidableEq α] (acc : List α) (n : α) : List α := if n ∈ acc then acc else acc ++ [n]
def dedX {α : Type} [DecidableEq α] : List α → List α → List α
  | acc, [] => acc
  | acc, n :: ns => dedX (addX acc n) ns
theorem dedX_mem {α : Type} [DecidableEq α] : ∀ (ns acc : List α) (x : α), x ∈ dedX acc ns ↔ x ∈ acc ∨ x ∈ ns
  | [], acc, x => by simp [dedX]
  | n :: ns, acc, x => by
    unfold dedX addX
    rw [dedX_mem]
    by_cases h : n ∈ acc
    · rw [if_pos h]
      constructor
      · rintro (h | h)
        · exact .inl h
        · exact .inr (List.mem_cons_of_mem _ h)
      · rintro (h2 | h2)
        · exact .inl h2
        · rcases List.mem_cons.mp h2 with rfl | h2
          · exact .inl h
          · exact .inr h2
    · rw [if_neg h]
      simp only [List.mem_append, List.mem_singleton, List.mem_cons, List.not_mem_nil, or_false, or_assoc]
theorem dedX_nodup {α : Type} [DecidableEq α] : ∀ (ns acc : List α), acc.Nodup → (dedX acc ns).Nodup
  | [], acc, h => h
  | n :: ns, acc, h => by
    unfold dedX addX
    refine dedX_nodup ns _ ?_
    by_cases e : n ∈ acc
    · rw [if_pos e]; exact h
    · rw [if_neg e, List.nodup_append]
      exact ⟨h, by simp, fun a ha b hb => by rw [List.mem_singleton.mp hb]; rintro rfl; exact e ha⟩
theorem dedX_len {α : Type} [DecidableEq α] : ∀ (ns acc : List α), (dedX acc ns).length ≤ acc.length + ns.length
  | [], acc => by simp [dedX]
  | n :: ns, acc => by
    unfold dedX addX
    have := dedX_len ns (if n ∈ acc then acc else acc ++ [n])
    have : (if n ∈ acc then acc else acc ++ [n]).length ≤ acc.length + 1 := by split <;> simp
    rw [List.length_cons]; omega
theorem put_ded {α κ : Type} [DecidableEq α] [DecidableEq κ] {k : α → κ} (inj : ∀ a b, k a = k b → a = b) {c : W} (acc : List α) (n : α) : putW (acc.map fun n => (k n, c)) (k n) c = (addX acc n).map fun n => (k n, c) := by
  unfold putW addX
  have ea : ((acc.map fun n => (k n, c)).any fun kv => decide (kv.1 = k n)) = decide (n ∈ acc) := by
    rw [Bool.eq_iff_iff, List.any_eq_true, decide_eq_true_iff]
    constructor
    · rintro ⟨x, hx, e⟩
      obtain ⟨m, hm, rfl⟩ := List.mem_map.mp hx
      have := inj _ _ (of_decide_eq_true e)
      exact this ▸ hm
    · intro h
      exact ⟨_, List.mem_map_of_mem h, decide_eq_true rfl⟩
  rw [ea]
  by_cases h : n ∈ acc
  · rw [decide_eq_true h, if_pos rfl, if_pos h]
    conv => rhs; rw [← List.map_id (List.map _ acc)]
    refine List.map_congr_left fun x hx => ?_
    obtain ⟨m, hm, rfl⟩ := List.mem_map.mp hx
    split
    · rename_i q; rw [inj _ _ q]; rfl
    · rfl
  · rw [decide_eq_false h, if_neg (by decide), if_neg h, List.map_append]; rfl
theorem ki_inj : ∀ (a b : List Int), (a.map Sum.inl : List Key) = b.map Sum.inl → a = b
  | [], [], _ => rfl
  | [], _ :: _, h => by cases h
  | _ :: _, [], h => by cases h
  | x :: a, y :: b, h => by
    rw [List.map_cons, List.map_cons] at h
    injection h with h1 h2
    rw [Sum.inl.inj h1, ki_inj a b h2]
abbrev cTup (c : List Int) : W := .tup (c.map W.int)
abbrev kI (c : List Int) : List Key := c.map Sum.inl
abbrev cDict (cs : List (List Int)) : List (List Key × W) := cs.map fun c => (kI c, W.bl true)
theorem ktup_kI (c : List Int) : ktup (kI c) = cTup c := by
  show W.tup ((c.map Sum.inl).map kW) = _
  rw [List.map_map]; rfl
structure TellOf (many : Int) (c : List Int) : Prop where
  mem : ∀ l ∈ c, LetOf many l
  one : ∀ l ∈ c, -l ∉ c
  len : c.length ≤ 2000
theorem TellOf.rev {many : Int} {c : List Int} (t : TellOf many c) : TellOf many c.reverse := ⟨fun l hl => t.mem l (List.mem_reverse.mp hl), fun l hl hn => t.one l (List.mem_reverse.mp hl) (List.mem_reverse.mp hn), by rw [List.length_reverse]; exact t.len⟩
end WS
set_option Elab.async false
set_option linter.all false
set_option maxRecDepth 100000
set_option maxHeartbeats 4000000
namespace WS
open PySem PySem.Spec PyProof.Rows L2 WL PySem.W
theorem map_tup (cs : List (List Int)) : cs.map cTup = (cs.map fun c => (⟨c⟩ : PySem.W.Tup Int)).map DW.w := by
  rw [List.map_map]; rfl
theorem tup_mem {a : List Int} {cs : List (List Int)} : decide ((⟨a⟩ : PySem.W.Tup Int) ∈ cs.map fun c => (⟨c⟩ : PySem.W.Tup Int)) = decide (a ∈ cs) := by
  have : ((⟨a⟩ : PySem.W.Tup Int) ∈ cs.map fun c => (⟨c⟩ : PySem.W.Tup Int)) ↔ a ∈ cs := by
    rw [List.mem_map]
    exact ⟨fun ⟨c, h, e⟩ => by injection e with e; exact e ▸ h, fun h => ⟨a, h, rfl⟩⟩
  exact decide_eq_decide.mpr this
section
variable {n : Bool} {a : List Int} {as cs : List (List Int)} {G : GH} {R : KW}
theorem in_fTups (k : R (.bl (n != decide (a ∈ cs))) G) : InS n (cTup a) (.fl (cs.map cTup)) G R := by
  show InS n (DW.w (⟨a⟩ : PySem.W.Tup Int)) (.fl (cs.map cTup)) G R
  rw [map_tup]
  exact inS_fl (by decide) (by rw [tup_mem]; exact k)
theorem eq_fTups (k : R (.bl (n != decide (as = cs))) G) : EqS n (.fl (as.map cTup)) (.fl (cs.map cTup)) G R := by
  refine eqS_hd (n := n) (a := as.map fun c => (⟨c⟩ : PySem.W.Tup Int)) (b := cs.map fun c => (⟨c⟩ : PySem.W.Tup Int)) ?_ ?_ (by decide) ?_
  · rw [map_tup]; exact hd_fl
  · rw [map_tup]; exact hd_fl
  · have e : decide ((as.map fun c => (⟨c⟩ : PySem.W.Tup Int)) = cs.map fun c => (⟨c⟩ : PySem.W.Tup Int)) = decide (as = cs) := by
      refine decide_eq_decide.mpr ⟨fun h => ?_, fun h => by rw [h]⟩
      have := congrArg (List.map PySem.W.Tup.items) h
      rwa [List.map_map, List.map_map, show (PySem.W.Tup.items ∘ fun c : List Int => (⟨c⟩ : PySem.W.Tup Int)) = id from rfl, List.map_id, List.map_id] at this
    rw [e]; exact k
end
theorem valW_cd (a : List Int) : ∀ cs : List (List Int), (valW (cDict cs) (kI a)).isSome = decide (a ∈ cs)
  | [] => rfl
  | c :: cs => by
    have ih := valW_cd a cs
    unfold valW at ih ⊢
    rw [show cDict (c :: cs) = (kI c, W.bl true) :: cDict cs from rfl, List.find?_cons]
    by_cases h : kI c = kI a
    · have e := ki_inj _ _ h
      subst e
      rw [decide_eq_true rfl]
      simp
    · rw [decide_eq_false h]
      dsimp only
      rw [ih]
      refine decide_eq_decide.mpr ⟨List.mem_cons_of_mem _, fun z => ?_⟩
      rcases List.mem_cons.mp z with rfl | z
      · exact absurd rfl h
      · exact z
section
variable {n : Bool} {a : List Int} {cs : List (List Int)} {G : GH} {R : KW}
theorem in_rDict {p : Addr} (hp : G p = some (.dT (cDict cs))) (k : R (.bl (n != decide (a ∈ cs))) G) : InS n (cTup a) (.ref p) G R := ⟨by
  unfold inW
  dsimp only
  rw [hp]
  exact ⟨valW (cDict cs) (kI a), by unfold dgetW; dsimp only; rw [hp]; dsimp only; rw [keysOf_ints], by rw [valW_cd]; exact k⟩⟩
end
theorem sz0 : ([] : List W).length ≤ sizeLine := by rw [sizeLine_eq]; decide
theorem sz1 (a : W) : [a].length ≤ sizeLine := by rw [sizeLine_eq]; show 1 ≤ 16777216; decide
theorem sz2 (a b : W) : [a, b].length ≤ sizeLine := by rw [sizeLine_eq]; show 2 ≤ 16777216; decide
theorem atI_hd {α : Type} (w : α) (ws : List α) : L2.atI (w :: ws) 0 = some w := by
  unfold L2.atI ixN
  rw [if_pos (by decide), if_pos (by rw [List.length_cons]; omega)]; rfl
theorem dataLe_tups : dataLe false tupKey = fun p q => decide (p ≤ q) := by
  have := dataLe_rows (fun p : List Int => p)
  rw [← this]
  funext p q
  show (!dataLt (.tuple (q.map .int)) (.tuple (p.map .int))) = !dataLt (.list (q.map .int)) (.list (p.map .int))
  rw [dataLt_tuple, dataLt_list]
theorem tups_uniq : ∀ {l m : List (List Int)}, l.Perm m → l.Pairwise (· ≤ ·) → m.Pairwise (· ≤ ·) → l = m
  | [], m, pm, _, _ => (List.nil_perm.mp pm).symm
  | a :: l, [], pm, _, _ => absurd pm.length_eq (by simp)
  | a :: l, b :: m, pm, p1, p2 => by
    rw [List.pairwise_cons] at p1 p2
    have e : a = b := by
      rcases List.mem_cons.mp (pm.mem_iff.mp List.mem_cons_self) with h | h
      · exact h
      · rcases List.mem_cons.mp (pm.mem_iff.mpr List.mem_cons_self) with h2 | h2
        · exact h2.symm
        · exact List.le_antisymm (p1.1 b h2) (p2.1 a h)
    subst e
    rw [tups_uniq ((List.perm_cons a).mp pm) p1.2 p2.2]
theorem byTup_pw (bs : List (List Int)) : (byTup bs).Pairwise (· ≤ ·) := by
  unfold byTup
  rw [dataLe_tups]
  have := List.pairwise_mergeSort (le := fun p q : List Int => decide (p ≤ q)) (fun a b c h1 h2 => decide_eq_true (List.le_trans (of_decide_eq_true h1) (of_decide_eq_true h2))) (fun a b => by
    rw [Bool.or_eq_true, decide_eq_true_iff, decide_eq_true_iff]
    exact List.le_total a b) bs
  exact this.imp fun h => of_decide_eq_true h
section
variable {G : GH} {d l : Addr} {fs ls fs' ls' : List (List Int)}
end
end WS
set_option Elab.async false
set_option linter.all false
set_option maxRecDepth 100000
set_option maxHeartbeats 4000000
namespace WS
open PySem PySem.Spec PyProof.Rows L2 WL
theorem turn_of_yes {many : Int} {w : W} (h : turnB many w = true) : ∃ ls, w = .tup (ls.map W.int) ∧ TurnOf many ls := by
  cases w with
  | tup xs =>
    unfold turnB at h
    dsimp only at h
    rw [Bool.and_eq_true, Bool.and_eq_true, Bool.and_eq_true, Bool.and_eq_true, decide_eq_true_iff, decide_eq_true_iff, decide_eq_true_iff, decide_eq_true_iff] at h
    obtain ⟨⟨h1, h2, h3⟩, h4, h5⟩ := h
    have hx : ∀ {ys : List W}, ys.all (letterB many) = true → ∃ ls, ys = ls.map W.int ∧ (∀ l ∈ ls, LetOf many l) ∧ ys.map absK = (absL ls).map Sum.inl := by
      intro ys
      induction ys with
      | nil => intro _; exact ⟨[], rfl, fun l h => (by cases h), rfl⟩
      | cons y ys ih =>
        intro h
        rw [List.all_cons, Bool.and_eq_true] at h
        obtain ⟨ls, rfl, e2, e3⟩ := ih h.2
        have hy := h.1
        cases y with
        | int i =>
          unfold letterB at hy
          dsimp only at hy
          rw [Bool.and_eq_true, decide_eq_true_iff, decide_eq_true_iff] at hy
          refine ⟨i :: ls, rfl, fun l hl => ?_, ?_⟩
          · rcases List.mem_cons.mp hl with rfl | hl
            · exact hy
            · exact e2 l hl
          · rw [List.map_cons, e3]; rfl
        | _ => cases hy
    obtain ⟨ls, rfl, e2, e3⟩ := hx h4
    rw [List.length_map] at h1 h2 h3
    refine ⟨ls, rfl, turn_of_go (by omega) (by omega) h1 e2 ?_⟩
    rw [e3] at h5
    have : (ded [] ((absL ls).map Sum.inl)).length = ((absL ls).map Sum.inl : List Key).length := by
      rw [List.length_map, List.length_map]; omega
    have nk := (ded_nodup _).mp this
    rw [List.Nodup, List.pairwise_map] at nk
    exact nk.imp fun hne e => hne (by rw [e])
  | _ => cases h
theorem compT_pure {α : Type} {f : α → W} {kf : α → List Key} {v : W} {Gd : GH → Prop} {g : TGW} {tk tv : TW} {S0 : WSt} {R : List (List Key × W) → GH → Prop} {G : GH} (hg : Gd G) : ∀ (xs : List α) (acc : List (List Key × W)), acc.length + xs.length ≤ sizeLine →
    (∀ x ∈ xs, ∀ R' : W → W → GH → Prop, (∀ k, tkey k = some (kf x) → R' k v G) → g (f x) S0 G fun S2 G2 => tk S2 G2 fun k G4 => tv S2 G4 fun v G5 => R' k v G5) →
    R (mergeT acc (xs.map fun x => (kf x, v))) G → compT Gd g tYesW tk tv S0 R (xs.map f) G acc
  | [], acc, _, _, r => ⟨hg, r⟩
  | x :: xs, acc, hl, st, r => by
    rw [List.length_cons] at hl
    refine ⟨hg, ?_⟩
    refine st x List.mem_cons_self (fun k v G5 => ∃ c, tkey k = some c ∧ acc.length < sizeLine ∧ compT Gd g tYesW tk tv S0 R (xs.map f) G5 (putW acc c v)) fun k hk => ?_
    have := putW_len acc (kf x) v
    exact ⟨_, hk, by omega, compT_pure hg xs _ (by omega) (fun y hy => st y (List.mem_cons_of_mem _ hy)) r⟩
theorem mergeT_dedA : ∀ (cs acc : List (List Int)), mergeT (cDict acc) (cs.map fun c => (kI c, W.bl true)) = cDict (dedX acc cs)
  | [], acc => rfl
  | c :: cs, acc => by
    show mergeT (putW (acc.map fun n => (kI n, W.bl true)) (kI c) (W.bl true)) _ = cDict (dedX (addX acc c) cs)
    rw [put_ded (k := kI) ki_inj]
    exact mergeT_dedA cs _
theorem mergeT_ded (cs : List (List Int)) : mergeT [] (cs.map fun c => (kI c, W.bl true)) = cDict (dedX [] cs) := mergeT_dedA cs []
end WS
set_option Elab.async false
set_option linter.all false
set_option maxRecDepth 100000
set_option maxHeartbeats 4000000
namespace WS
open PySem PySem.Spec PyProof.Rows L2 WL
structure Fl where
  letter : Int
  ways : List (Int × List Int)
  pushers : List (List Int)
def restL : List Fl → List Int → List Int
  | [], t => t
  | f :: fs, t => match f.ways.lookup (goI t f.letter) with
    | none => t
    | some w => restL fs (thenL t (backL w))
inductive Gen (n : Int) (S : List (List Int)) : List Int → Prop
  | one : Gen n S (stillL n)
  | mul {a p : List Int} : Gen n S a → p ∈ S → Gen n S (thenL a p)
def Fx (ah : List Int) (t : List Int) : Prop := ∀ l ∈ ah, goI t l = l
section
variable {n : Int} {S S' : List (List Int)} {a b p t u : List Int} {ah : List Int}
theorem Gen.turn (h0 : 1 ≤ n) (h4 : n ≤ 400) (hS : ∀ p ∈ S, TurnOf n p) (g : Gen n S t) : TurnOf n t := by
  induction g with
  | one => exact still_turn h0 h4
  | mul g hp ih => exact then_turn ih (hS _ hp)
theorem Gen.then (h0 : 1 ≤ n) (h4 : n ≤ 400) (hS : ∀ p ∈ S, TurnOf n p) (ga : Gen n S a) (gb : Gen n S b) : Gen n S (thenL a b) := by
  induction gb with
  | one => rw [then_still (ga.turn h0 h4 hS)]; exact ga
  | mul g hp ih => rw [← then_assoc (ga.turn h0 h4 hS) (g.turn h0 h4 hS) (hS _ hp)]; exact .mul ih hp
theorem Gen.mem (hS : ∀ p ∈ S, TurnOf n p) (hp : p ∈ S) : Gen n S p := by
  have := Gen.mul (n := n) (S := S) .one hp
  rwa [still_then (hS p hp)] at this
theorem Gen.sub (h0 : 1 ≤ n) (h4 : n ≤ 400) (hS : ∀ p ∈ S', TurnOf n p) (h : ∀ p ∈ S, Gen n S' p) (g : Gen n S t) : Gen n S' t := by
  induction g with
  | one => exact .one
  | mul g hp ih => exact ih.then h0 h4 hS (h _ hp)
theorem Gen.mono (h : ∀ p ∈ S, p ∈ S') (g : Gen n S t) : Gen n S' t := by
  induction g with
  | one => exact .one
  | mul g hp ih => exact .mul ih (h _ hp)
theorem Fx.then (ta : TurnOf n a) (hl : ∀ l ∈ ah, LetOf n l) (fa : Fx ah a) (fb : Fx ah b) : Fx ah (thenL a b) := fun l h => by
  rw [go_then ta (hl l h), fa l h, fb l h]
theorem Fx.back (ta : TurnOf n a) (hl : ∀ l ∈ ah, LetOf n l) (fa : Fx ah a) : Fx ah (backL a) := fun l h => by
  have := back_go ta (hl l h)
  rwa [fa l h] at this
theorem Fx.still (hl : ∀ l ∈ ah, LetOf n l) : Fx ah (stillL n) := fun l h => go_still (hl l h)
theorem Gen.fx (h0 : 1 ≤ n) (h4 : n ≤ 400) (hl : ∀ l ∈ ah, LetOf n l) (hS : ∀ p ∈ S, TurnOf n p ∧ Fx ah p) (g : Gen n S t) : Fx ah t := by
  induction g with
  | one => exact Fx.still hl
  | mul g hp ih => exact Fx.then (g.turn h0 h4 fun p h => (hS p h).1) hl ih (hS _ hp).2
def allL (al : List Int) : Nat → List (List Int)
  | 0 => [[]]
  | k + 1 => (allL al k).flatMap fun t => al.map fun l => l :: t
theorem allL_mem {al : List Int} : ∀ {t : List Int}, (∀ l ∈ t, l ∈ al) → t ∈ allL al t.length
  | [], _ => List.mem_singleton.mpr rfl
  | l :: t, h => List.mem_flatMap.mpr ⟨t, allL_mem fun x hx => h x (List.mem_cons_of_mem _ hx), List.mem_map.mpr ⟨l, h l List.mem_cons_self, rfl⟩⟩
def lettersOf (n : Int) : List Int := rgI 1 (n + 1) ++ (rgI 1 (n + 1)).map fun k => -k
theorem lettersOf_mem {l : Int} (h : LetOf n l) : l ∈ lettersOf n := by
  rcases h.cases with h | ⟨k, rfl, h0, h1⟩
  · exact List.mem_append.mpr (.inl (rgI_mem.mpr ⟨h.1, by omega⟩))
  · exact List.mem_append.mpr (.inr (List.mem_map.mpr ⟨k, rgI_mem.mpr ⟨h0, by omega⟩, rfl⟩))
theorem lettersOf_len (h0 : 0 ≤ n) : (lettersOf n).length = 2 * n.toNat := by
  unfold lettersOf
  rw [List.length_append, List.length_map, rgI_length]; omega
def pwL (n : Int) (t : List Int) : Nat → List Int
  | 0 => stillL n
  | k + 1 => thenL (pwL n t k) t
theorem pw_turn (tt : TurnOf n t) : ∀ k, TurnOf n (pwL n t k)
  | 0 => still_turn tt.h0 tt.h4
  | k + 1 => then_turn (pw_turn tt k) tt
theorem pw_gen (g : Gen n S t) (h0 : 1 ≤ n) (h4 : n ≤ 400) (hS : ∀ p ∈ S, TurnOf n p) : ∀ k, Gen n S (pwL n t k)
  | 0 => .one
  | k + 1 => (pw_gen g h0 h4 hS k).then h0 h4 hS g
theorem then_cancel (ta : TurnOf n a) (tb : TurnOf n b) (tt : TurnOf n t) (e : thenL a t = thenL b t) : a = b := by
  have := congrArg (fun x => thenL x (backL t)) e
  rwa [then_assoc ta tt (back_turn tt), then_assoc tb tt (back_turn tt), then_back tt, then_still ta, then_still tb] at this
theorem pw_diff (tt : TurnOf n t) : ∀ (i d : Nat), pwL n t i = pwL n t (i + d) → pwL n t d = stillL n
  | 0, d, e => by rw [Nat.zero_add] at e; exact e.symm
  | i + 1, d, e => by
    refine pw_diff tt i d (then_cancel (pw_turn tt i) (pw_turn tt _) tt ?_)
    have e2 : i + 1 + d = (i + d) + 1 := by omega
    rw [e2] at e
    exact e
theorem pw_still (tt : TurnOf n t) : ∃ d, pwL n t (d + 1) = stillL n := by
  refine Classical.byContradiction fun no => ?_
  have nd : ∀ i j, i < j → pwL n t i ≠ pwL n t j := fun i j hij e => by
    obtain ⟨d, rfl⟩ : ∃ d, j = i + (d + 1) := ⟨j - i - 1, by omega⟩
    exact no ⟨d, pw_diff tt i (d + 1) e⟩
  have key := nodup_sub_len ((List.range ((allL (lettersOf n) n.toNat).length + 1)).map (pwL n t)) (allL (lettersOf n) n.toNat) ?_ fun x hx => ?_
  · rw [List.length_map, List.length_range] at key; omega
  · unfold List.Nodup
    rw [List.pairwise_map]
    exact List.Pairwise.imp (fun {a b} h => nd a b h) List.pairwise_lt_range
  · obtain ⟨k, _, rfl⟩ := List.mem_map.mp hx
    have tk := pw_turn tt k
    have := allL_mem (al := lettersOf n) (t := pwL n t k) fun l hl => lettersOf_mem (tk.mem hl)
    have hl := tk.len
    rwa [show (pwL n t k).length = n.toNat by omega] at this
theorem back_uniq (tt : TurnOf n t) (tu : TurnOf n u) (e : thenL u t = stillL n) : u = backL t :=
  then_cancel tu (back_turn tt) tt (by rw [e, back_then tt])
theorem Gen.back (h0 : 1 ≤ n) (h4 : n ≤ 400) (hS : ∀ p ∈ S, TurnOf n p) (g : Gen n S t) : Gen n S (backL t) := by
  have tt := g.turn h0 h4 hS
  obtain ⟨d, e⟩ := pw_still tt
  rw [← back_uniq tt (pw_turn tt d) e]
  exact pw_gen g h0 h4 hS d
theorem back_still (h0 : 1 ≤ n) (h4 : n ≤ 400) : backL (stillL n) = stillL n :=
  (back_uniq (still_turn h0 h4) (still_turn h0 h4) (then_still (still_turn h0 h4))).symm
end
theorem lookup_mem {β : Type} : ∀ {l : List (Int × β)} {k : Int} {w : β}, l.lookup k = some w → (k, w) ∈ l
  | [], _, _, h => by cases h
  | (a, b) :: l, k, w, h => by
    rw [List.lookup_cons] at h
    cases e : (k == a) with
    | true => rw [e] at h; cases h; rw [eq_of_beq e]; exact List.mem_cons_self
    | false => rw [e] at h; exact List.mem_cons_of_mem _ (lookup_mem h)
theorem mem_lookup {β : Type} : ∀ {l : List (Int × β)} {k : Int} {w : β}, (l.map (·.1)).Nodup → (k, w) ∈ l → l.lookup k = some w
  | [], _, _, _, h => by cases h
  | (a, b) :: l, k, w, nd, h => by
    rw [List.map_cons, List.nodup_cons] at nd
    rw [List.lookup_cons]
    rcases List.mem_cons.mp h with h | h
    · cases h; rw [beq_self_eq_true]
    · have : (k == a) = false := by
        cases e : (k == a) with
        | false => rfl
        | true => rw [← eq_of_beq e] at nd; exact absurd (List.mem_map.mpr ⟨_, h, rfl⟩) nd.1
      rw [this]; exact mem_lookup nd.2 h
theorem lookup_none {β : Type} : ∀ {l : List (Int × β)} {k : Int}, l.lookup k = none ↔ k ∉ l.map (·.1)
  | [], _ => ⟨fun _ h => (by cases h), fun _ => rfl⟩
  | (a, b) :: l, k => by
    rw [List.lookup_cons, List.map_cons, List.mem_cons]
    cases e : (k == a) with
    | true => exact ⟨fun h => (by cases h), fun h => absurd (.inl (eq_of_beq e)) h⟩
    | false =>
      have ne : k ≠ a := fun z => by subst z; rw [beq_self_eq_true] at e; cases e
      show l.lookup k = none ↔ _
      rw [lookup_none]
      exact ⟨fun h z => z.elim ne h, fun h z => h (.inr z)⟩
theorem lookup_app {β : Type} : ∀ {l m : List (Int × β)} {k : Int} {w : β}, l.lookup k = some w → (l ++ m).lookup k = some w
  | [], _, _, _, h => by cases h
  | (a, b) :: l, m, k, w, h => by
    rw [List.cons_append, List.lookup_cons]
    rw [List.lookup_cons] at h
    cases e : (k == a) with
    | true => rw [e] at h; exact h
    | false => rw [e] at h; exact lookup_app h
theorem lookup_app2 {β : Type} : ∀ {l m : List (Int × β)} {k : Int}, l.lookup k = none → (l ++ m).lookup k = m.lookup k
  | [], _, _, _ => rfl
  | (a, b) :: l, m, k, h => by
    rw [List.cons_append, List.lookup_cons]
    rw [List.lookup_cons] at h
    cases e : (k == a) with
    | true => rw [e] at h; cases h
    | false => rw [e] at h; exact lookup_app2 h
def Rep (n : Int) (fs : List Fl) (t : List Int) : Prop := restL fs t = stillL n
structure FlOk (n : Int) (ah : List Int) (f : Fl) : Prop where
  h0 : 1 ≤ n
  h4 : n ≤ 400
  lt : LetOf n f.letter
  al : ∀ l ∈ ah, LetOf n l
  nd : (f.ways.map (·.1)).Nodup
  own : f.ways.lookup f.letter = some (stillL n)
  way : ∀ k w, (k, w) ∈ f.ways → TurnOf n w ∧ goI w f.letter = k ∧ Fx ah w ∧ Gen n f.pushers w
  psh : ∀ p ∈ f.pushers, TurnOf n p ∧ Fx ah p
def nextP : List Fl → List (List Int)
  | [] => []
  | f :: _ => f.pushers
def Closed1 (n : Int) (f : Fl) (fs : List Fl) : Prop := ∀ k w, (k, w) ∈ f.ways → ∀ p ∈ f.pushers, ∃ w', f.ways.lookup (goI p k) = some w' ∧ Rep n fs (thenL (thenL w p) (backL w'))
def Comp (n : Int) : List Int → List Fl → Prop
  | ah, [] => ∀ t, TurnOf n t → Fx ah t → t = stillL n
  | ah, f :: fs => FlOk n ah f ∧ Closed1 n f fs ∧ (∀ p ∈ nextP fs, Gen n f.pushers p) ∧ Comp n (f.letter :: ah) fs
section
variable {n : Int} {ah : List Int} {f f' : Fl} {fs fs' : List Fl} {t u : List Int}
theorem FlOk.get (F : FlOk n ah f) {k : Int} {w : List Int} (h : f.ways.lookup k = some w) : TurnOf n w ∧ goI w f.letter = k ∧ Fx ah w ∧ Gen n f.pushers w := F.way k w (lookup_mem h)
theorem Comp.still : ∀ {fs : List Fl} {ah : List Int}, (h0 : 1 ≤ n) → (h4 : n ≤ 400) → Comp n ah fs → Rep n fs (stillL n)
  | [], _, _, _, _ => rfl
  | f :: fs, ah, h0, h4, C => by
    unfold Rep restL
    rw [go_still C.1.lt, C.1.own]
    show restL fs (thenL (stillL n) (backL (stillL n))) = _
    rw [then_back (still_turn h0 h4)]
    exact Comp.still h0 h4 C.2.2.2
theorem rep_cons (F : FlOk n ah f) : Rep n (f :: fs) t ↔ ∃ w, f.ways.lookup (goI t f.letter) = some w ∧ Rep n fs (thenL t (backL w)) := by
  unfold Rep
  constructor
  · intro h
    unfold restL at h
    split at h
    · rename_i e
      subst h
      rw [go_still F.lt, F.own] at e; cases e
    · rename_i w e
      exact ⟨w, e, h⟩
  · rintro ⟨w, e, h⟩
    unfold restL
    rw [e]; exact h
theorem Comp.psh : ∀ {fs : List Fl} {ah : List Int}, Comp n ah fs → ∀ p ∈ nextP fs, TurnOf n p ∧ Fx ah p
  | [], _, _ => fun p h => by cases h
  | f :: fs, ah, C => C.1.psh
theorem rep_gen : ∀ {fs : List Fl} {ah : List Int} {t : List Int}, (h0 : 1 ≤ n) → (h4 : n ≤ 400) → Comp n ah fs → TurnOf n t → (Rep n fs t ↔ Gen n (nextP fs) t)
  | [], ah, t, h0, h4, C, tt => ⟨fun h => (by rw [show t = stillL n from h]; exact .one), fun h => (by
      cases h with
      | one => rfl
      | mul _ h => cases h)⟩
  | f :: fs, ah, t, h0, h4, C, tt => by
    have F := C.1
    have C2 := C.2.2.2
    have hS : ∀ p ∈ f.pushers, TurnOf n p := fun p h => (F.psh p h).1
    have hN : ∀ p ∈ nextP fs, TurnOf n p := fun p h => (C2.psh p h).1
    constructor
    · intro h
      obtain ⟨w, e, r⟩ := (rep_cons F).mp h
      obtain ⟨tw, _, _, gw⟩ := F.get e
      have tu : TurnOf n (thenL t (backL w)) := then_turn tt (back_turn tw)
      have gu := ((rep_gen h0 h4 C2 tu).mp r).sub h0 h4 hS C.2.2.1
      have := gu.then h0 h4 hS gw
      rwa [then_assoc tt (back_turn tw) tw, back_then tw, then_still tt] at this
    · intro g
      induction g with
      | one => exact Comp.still h0 h4 C
      | @mul a p g hp ih =>
        have ta := g.turn h0 h4 hS
        have tp := hS p hp
        obtain ⟨w, e, r⟩ := (rep_cons F).mp (ih ta)
        obtain ⟨tw, hw, _, _⟩ := F.get e
        obtain ⟨w', e', r'⟩ := C.2.1 _ _ (lookup_mem e) p hp
        obtain ⟨tw', _, _, _⟩ := F.get e'
        refine (rep_cons F).mpr ⟨w', by rw [go_then ta F.lt]; exact e', ?_⟩
        have tu : TurnOf n (thenL a (backL w)) := then_turn ta (back_turn tw)
        have ts : TurnOf n (thenL (thenL w p) (backL w')) := then_turn (then_turn tw tp) (back_turn tw')
        have := ((rep_gen h0 h4 C2 tu).mp r).then h0 h4 hN ((rep_gen h0 h4 C2 ts).mp r')
        have e2 : thenL (thenL a (backL w)) (thenL (thenL w p) (backL w')) = thenL (thenL a p) (backL w') := by
          rw [← then_assoc tu (then_turn tw tp) (back_turn tw'), ← then_assoc tu tw tp, then_assoc ta (back_turn tw) tw, back_then tw, then_still ta]
        rw [e2] at this
        exact (rep_gen h0 h4 C2 (then_turn (then_turn ta tp) (back_turn tw'))).mpr this
structure Grow (f f' : Fl) : Prop where
  lt : f'.letter = f.letter
  wy : ∃ ex, f'.ways = f.ways ++ ex
def GrowL : List Fl → List Fl → Prop
  | [], [] => True
  | f :: fs, f' :: fs' => Grow f f' ∧ GrowL fs fs'
  | _, _ => False
theorem GrowL.refl : ∀ fs : List Fl, GrowL fs fs
  | [] => trivial
  | f :: fs => ⟨⟨rfl, [], by rw [List.append_nil]⟩, GrowL.refl fs⟩
theorem Grow.trans {a b c : Fl} (h : Grow a b) (k : Grow b c) : Grow a c := by
  obtain ⟨x, hx⟩ := h.wy
  obtain ⟨y, hy⟩ := k.wy
  exact ⟨k.lt.trans h.lt, x ++ y, by rw [hy, hx, List.append_assoc]⟩
theorem GrowL.trans : ∀ {a b c : List Fl}, GrowL a b → GrowL b c → GrowL a c
  | [], [], [], _, _ => trivial
  | _ :: _, _ :: _, _ :: _, h, k => ⟨h.1.trans k.1, GrowL.trans h.2 k.2⟩
  | [], [], _ :: _, _, k => k.elim
  | [], _ :: _, _, h, _ => h.elim
  | _ :: _, [], _, h, _ => h.elim
  | _ :: _, _ :: _, [], _, k => k.elim
theorem GrowL.len : ∀ {a b : List Fl}, GrowL a b → b.length = a.length
  | [], [], _ => rfl
  | _ :: _, _ :: _, h => congrArg (· + 1) h.2.len
  | [], _ :: _, h => h.elim
  | _ :: _, [], h => h.elim
def Owned (n : Int) (fs : List Fl) : Prop := ∀ f ∈ fs, LetOf n f.letter ∧ f.ways.lookup f.letter = some (stillL n)
theorem Comp.owned : ∀ {fs : List Fl} {ah : List Int}, Comp n ah fs → Owned n fs
  | [], _, _ => fun f h => by cases h
  | f :: fs, ah, C => fun g h => by
    rcases List.mem_cons.mp h with rfl | h
    · exact ⟨C.1.lt, C.1.own⟩
    · exact C.2.2.2.owned g h
theorem rep_grow : ∀ {fs fs' : List Fl} {t : List Int}, Owned n fs → GrowL fs fs' → Rep n fs t → Rep n fs' t
  | [], [], t, _, _, h => h
  | f :: fs, f' :: fs', t, O, g, h => by
    unfold Rep restL at h ⊢
    obtain ⟨ex, e⟩ := g.1.wy
    rw [g.1.lt]
    split at h
    · rename_i q
      subst h
      obtain ⟨o1, o2⟩ := O f List.mem_cons_self
      rw [go_still o1, o2] at q; cases q
    · rename_i w q
      rw [e, lookup_app q]
      exact rep_grow (fun g h => O g (List.mem_cons_of_mem _ h)) g.2 h
  | [], _ :: _, _, _, g, _ => g.elim
  | _ :: _, [], _, _, g, _ => g.elim
def MW (fs : List Fl) : Nat := (fs.map fun f => f.ways.length).sum
theorem GrowL.mw : ∀ {a b : List Fl}, GrowL a b → MW a ≤ MW b ∧ (MW b = MW a → ∀ t, restL b t = restL a t)
  | [], [], _ => ⟨Nat.le_refl _, fun _ _ => rfl⟩
  | f :: a, f' :: b, h => by
    obtain ⟨i1, i2⟩ := h.2.mw
    obtain ⟨ex, e⟩ := h.1.wy
    have l : f'.ways.length = f.ways.length + ex.length := by rw [e, List.length_append]
    have m1 : MW (f :: a) = f.ways.length + MW a := by unfold MW; rw [List.map_cons, List.sum_cons]
    have m2 : MW (f' :: b) = f'.ways.length + MW b := by unfold MW; rw [List.map_cons, List.sum_cons]
    refine ⟨by omega, fun q t => ?_⟩
    have hx : ex = [] := List.eq_nil_of_length_eq_zero (by omega)
    have hm : MW b = MW a := by omega
    unfold restL
    rw [e, hx, List.append_nil, h.1.lt]
    cases f.ways.lookup (goI t f.letter) with
    | none => rfl
    | some w => exact i2 hm _
  | [], _ :: _, h => h.elim
  | _ :: _, [], h => h.elim
structure Lp (n : Int) (ah : List Int) (b : Int) (ps : List (List Int)) (W : List (Int × List Int)) (fs : List Fl) (line : List (Int × List Int)) : Prop where
  ok : FlOk n ah ⟨b, W, ps⟩
  nx : ∀ p ∈ nextP fs, Gen n ps p
  cp : Comp n (b :: ah) fs
  li : ∀ z ∈ line, (∃ w, W.lookup z.1 = some w) ∧ z.2 ∈ ps
  cl : ∀ k w, (k, w) ∈ W → ∀ p ∈ ps, (k, p) ∈ line ∨ ∃ w', W.lookup (goI p k) = some w' ∧ Rep n fs (thenL (thenL w p) (backL w'))
theorem Lp.start (C : Comp n ah (f :: fs)) (tt : TurnOf n t) (fx : Fx ah t) : Lp n ah f.letter (f.pushers ++ [t]) f.ways fs (f.ways.map fun z => (z.1, t)) where
  ok := { C.1 with
    way := fun k w h => let ⟨a, b, c, d⟩ := C.1.way k w h; ⟨a, b, c, d.mono fun p hp => List.mem_append.mpr (.inl hp)⟩
    psh := fun p hp => by
      rcases List.mem_append.mp hp with hp | hp
      · exact C.1.psh p hp
      · rw [List.mem_singleton.mp hp]; exact ⟨tt, fx⟩ }
  nx := fun p hp => (C.2.2.1 p hp).mono fun p hp => List.mem_append.mpr (.inl hp)
  cp := C.2.2.2
  li := fun z hz => by
    obtain ⟨y, hy, rfl⟩ := List.mem_map.mp hz
    exact ⟨⟨y.2, mem_lookup C.1.nd hy⟩, List.mem_append.mpr (.inr List.mem_cons_self)⟩
  cl := fun k w h p hp => by
    rcases List.mem_append.mp hp with hp | hp
    · exact .inr (C.2.1 k w h p hp)
    · rw [List.mem_singleton.mp hp]; exact .inl (List.mem_map.mpr ⟨(k, w), h, rfl⟩)
variable {b k : Int} {ps : List (List Int)} {W : List (Int × List Int)} {line : List (Int × List Int)} {p w w' : List Int}
theorem Lp.top (L : Lp n ah b ps W fs (line ++ [(k, p)])) (e : W.lookup k = some w) : TurnOf n (thenL w p) ∧ goI (thenL w p) b = goI p k ∧ Fx ah (thenL w p) ∧ Gen n ps (thenL w p) ∧ LetOf n k := by
  have F := L.ok
  have hp : p ∈ ps := (L.li (k, p) (List.mem_append.mpr (.inr List.mem_cons_self))).2
  obtain ⟨tw, gw, fw, nw⟩ := F.get (k := k) (w := w) e
  have gw : goI w b = k := gw
  have tp := F.psh p hp
  exact ⟨then_turn tw tp.1, by rw [go_then tw F.lt]; rw [gw], Fx.then tw F.al fw tp.2, .mul nw hp, by rw [← gw]; exact tw.go F.lt⟩
theorem Lp.below (L : Lp n ah b ps W fs (line ++ [(k, p)])) (e : W.lookup k = some w) (e' : W.lookup (goI p k) = some w') :
    TurnOf n (thenL (thenL w p) (backL w')) ∧ Fx (b :: ah) (thenL (thenL w p) (backL w')) ∧ Gen n ps (thenL (thenL w p) (backL w')) := by
  have F := L.ok
  obtain ⟨tv, gv, fv, nv, _⟩ := L.top e
  obtain ⟨tw', gw', fw', nw'⟩ := F.get (k := goI p k) (w := w') e'
  have gw' : goI w' b = goI p k := gw'
  refine ⟨then_turn tv (back_turn tw'), fun l hl => ?_, nv.then F.h0 F.h4 (fun p h => (F.psh p h).1) (nw'.back F.h0 F.h4 fun p h => (F.psh p h).1)⟩
  rcases List.mem_cons.mp hl with rfl | hl
  · rw [go_then tv F.lt, gv, ← gw', back_go tw' F.lt]
  · exact (Fx.then tv F.al fv (fw'.back tw' F.al)) l hl
theorem Lp.skip (L : Lp n ah b ps W fs (line ++ [(k, p)])) (e : W.lookup k = some w) (e' : W.lookup (goI p k) = some w')
    (C : Comp n (b :: ah) fs') (g : GrowL fs fs') (r : Rep n fs' (thenL (thenL w p) (backL w'))) (hn : ∀ q ∈ nextP fs', q ∈ nextP fs ∨ q = thenL (thenL w p) (backL w')) : Lp n ah b ps W fs' line where
  ok := L.ok
  nx := fun q hq => by
    rcases hn q hq with h | h
    · exact L.nx q h
    · rw [h]; exact (L.below e e').2.2
  cp := C
  li := fun z hz => L.li z (List.mem_append.mpr (.inl hz))
  cl := fun k2 w2 h p2 hp2 => by
    rcases L.cl k2 w2 h p2 hp2 with q | ⟨v, q1, q2⟩
    · rcases List.mem_append.mp q with q | q
      · exact .inl q
      · obtain ⟨rfl, rfl⟩ := Prod.mk.inj (List.mem_singleton.mp q)
        have := mem_lookup L.ok.nd h
        rw [show W.lookup k2 = some w from e] at this
        cases this
        exact .inr ⟨w', e', r⟩
    · exact .inr ⟨v, q1, rep_grow L.cp.owned g q2⟩
theorem Lp.lay (L : Lp n ah b ps W fs (line ++ [(k, p)])) (e : W.lookup k = some w) (e' : W.lookup (goI p k) = none) :
    Lp n ah b ps (W ++ [(goI p k, thenL w p)]) fs (line ++ ps.map fun q => (goI p k, q)) where
  ok := { L.ok with
    nd := by
      show ((W ++ [(goI p k, thenL w p)]).map (·.1)).Nodup
      rw [List.map_append]
      refine List.nodup_append.mpr ⟨L.ok.nd, by simp, fun x hx y hy => ?_⟩
      have : y = goI p k := by simpa using hy
      subst this
      intro z; subst z
      exact lookup_none.mp e' hx
    own := lookup_app L.ok.own
    way := fun k2 w2 h => by
      rcases List.mem_append.mp h with h | h
      · exact L.ok.way k2 w2 h
      · obtain ⟨rfl, rfl⟩ := Prod.mk.inj (List.mem_singleton.mp h)
        obtain ⟨a, b, c, d, _⟩ := L.top e
        exact ⟨a, b, c, d⟩ }
  nx := L.nx
  cp := L.cp
  li := fun z hz => by
    rcases List.mem_append.mp hz with h | h
    · obtain ⟨⟨w2, h1⟩, h2⟩ := L.li z (List.mem_append.mpr (.inl h))
      exact ⟨⟨w2, lookup_app h1⟩, h2⟩
    · obtain ⟨q, hq, rfl⟩ := List.mem_map.mp h
      refine ⟨⟨thenL w p, ?_⟩, hq⟩
      rw [lookup_app2 e', List.lookup_cons, beq_self_eq_true]
  cl := fun k2 w2 h0 p2 hp2 => by
    rcases List.mem_append.mp h0 with h | h
    · rcases L.cl k2 w2 h p2 hp2 with q | ⟨v, q1, q2⟩
      · rcases List.mem_append.mp q with q | q
        · exact .inl (List.mem_append.mpr (.inl q))
        · obtain ⟨rfl, rfl⟩ := Prod.mk.inj (List.mem_singleton.mp q)
          have := mem_lookup L.ok.nd h
          rw [show W.lookup k2 = some w from e] at this
          cases this
          refine .inr ⟨thenL w p2, by rw [lookup_app2 e', List.lookup_cons, beq_self_eq_true], ?_⟩
          rw [then_back (L.top e).1]
          exact Comp.still L.ok.h0 L.ok.h4 L.cp
      · exact .inr ⟨v, lookup_app q1, q2⟩
    · obtain ⟨rfl, rfl⟩ := Prod.mk.inj (List.mem_singleton.mp h)
      exact .inl (List.mem_append.mpr (.inr (List.mem_map.mpr ⟨p2, hp2, rfl⟩)))
theorem Lp.done (L : Lp n ah b ps W fs []) : Comp n ah (⟨b, W, ps⟩ :: fs) :=
  ⟨L.ok, fun k w h p hp => (L.cl k w h p hp).resolve_left fun z => (by cases z), L.nx, L.cp⟩
theorem FlOk.len (F : FlOk n ah f) : f.ways.length ≤ 2 * n.toNat := by
  rw [← lettersOf_len (n := n) (by have := F.h0; omega), ← List.length_map (f := Prod.fst) (as := f.ways)]
  refine nodup_sub_len _ _ F.nd fun k hk => ?_
  obtain ⟨⟨k, w⟩, h, rfl⟩ := List.mem_map.mp hk
  obtain ⟨tw, gw, _⟩ := F.way k w h
  show k ∈ lettersOf n
  rw [← gw]
  exact lettersOf_mem (tw.go F.lt)
def Bd : List Fl → Prop
  | [] => True
  | f :: fs => f.pushers.length + (f :: fs).length ≤ MW (f :: fs) ∧ Bd fs
theorem Bd.cons (B : Bd (f :: fs)) (C : Comp n ah (f' :: fs')) (hl : f'.pushers.length ≤ f.pushers.length + 1) (g : GrowL (f :: fs) (f' :: fs')) (no : ¬ Rep n (f :: fs) t) (yes : Rep n (f' :: fs') t) (B' : Bd fs') : Bd (f' :: fs') := by
  refine ⟨?_, B'⟩
  obtain ⟨m1, m2⟩ := g.mw
  have := B.1
  have hlen := g.len
  have : MW (f' :: fs') ≠ MW (f :: fs) := fun e => no (by unfold Rep; rw [← m2 e]; exact yes)
  omega
theorem MW_le : ∀ {fs : List Fl} {ah : List Int}, Comp n ah fs → MW fs ≤ fs.length * (2 * n.toNat)
  | [], _, _ => Nat.zero_le _
  | f :: fs, ah, C => by
    have h1 := C.1.len
    have h2 := MW_le C.2.2.2
    have m1 : MW (f :: fs) = f.ways.length + MW fs := by unfold MW; rw [List.map_cons, List.sum_cons]
    rw [m1, List.length_cons, Nat.add_mul]
    omega
def elemsL (n : Int) : List Fl → List (List Int)
  | [] => [stillL n]
  | f :: fs => (elemsL n fs).flatMap fun u => f.ways.map fun z => thenL u z.2
theorem elems_mem : ∀ {fs : List Fl} {ah : List Int} {t : List Int}, (h0 : 1 ≤ n) → (h4 : n ≤ 400) → Comp n ah fs → (t ∈ elemsL n fs ↔ TurnOf n t ∧ Rep n fs t)
  | [], ah, t, h0, h4, C => by
    unfold elemsL
    rw [List.mem_singleton]
    exact ⟨fun h => (by rw [h]; exact ⟨still_turn h0 h4, rfl⟩), fun h => h.2⟩
  | f :: fs, ah, t, h0, h4, C => by
    have F := C.1
    have C2 := C.2.2.2
    have al2 : ∀ l ∈ f.letter :: ah, LetOf n l := fun l hl => by
      rcases List.mem_cons.mp hl with rfl | hl
      · exact F.lt
      · exact F.al l hl
    unfold elemsL
    rw [List.mem_flatMap]
    constructor
    · rintro ⟨u, hu, h⟩
      obtain ⟨⟨k, w⟩, hz, rfl⟩ := List.mem_map.mp h
      obtain ⟨tu, ru⟩ := (elems_mem h0 h4 C2).mp hu
      obtain ⟨tw, gw, _⟩ := F.way k w hz
      have fu := ((rep_gen h0 h4 C2 tu).mp ru).fx h0 h4 al2 C2.psh
      refine ⟨then_turn tu tw, (rep_cons F).mpr ⟨w, ?_, ?_⟩⟩
      · rw [go_then tu F.lt, fu _ List.mem_cons_self, gw]; exact mem_lookup F.nd hz
      · show Rep n fs (thenL (thenL u w) (backL w))
        rw [then_assoc tu tw (back_turn tw), then_back tw, then_still tu]; exact ru
    · rintro ⟨tt, r⟩
      obtain ⟨w, e, r⟩ := (rep_cons F).mp r
      obtain ⟨tw, _⟩ := F.get e
      refine ⟨thenL t (backL w), (elems_mem h0 h4 C2).mpr ⟨then_turn tt (back_turn tw), r⟩, List.mem_map.mpr ⟨_, lookup_mem e, ?_⟩⟩
      show thenL (thenL t (backL w)) w = t
      rw [then_assoc tt (back_turn tw) tw, back_then tw, then_still tt]
theorem nodup_flatMap' {α β : Type} (g : α → List β) : ∀ {l : List α}, l.Nodup → (∀ a ∈ l, (g a).Nodup) → (∀ a ∈ l, ∀ b ∈ l, ∀ x, x ∈ g a → x ∈ g b → a = b) → (l.flatMap g).Nodup
  | [], _, _, _ => .nil
  | a :: l, nd, h1, h2 => by
    rw [List.nodup_cons] at nd
    rw [List.flatMap_cons]
    refine List.nodup_append.mpr ⟨h1 a List.mem_cons_self, nodup_flatMap' g nd.2 (fun b hb => h1 b (List.mem_cons_of_mem _ hb)) (fun b hb c hc => h2 b (List.mem_cons_of_mem _ hb) c (List.mem_cons_of_mem _ hc)), fun x hx y hy e => ?_⟩
    subst e
    obtain ⟨b, hb, hx2⟩ := List.mem_flatMap.mp hy
    have := h2 a List.mem_cons_self b (List.mem_cons_of_mem _ hb) x hx hx2
    subst this
    exact nd.1 hb
theorem elems_nodup : ∀ {fs : List Fl} {ah : List Int}, (h0 : 1 ≤ n) → (h4 : n ≤ 400) → Comp n ah fs → (elemsL n fs).Nodup
  | [], ah, h0, h4, C => by unfold elemsL; simp
  | f :: fs, ah, h0, h4, C => by
    have F := C.1
    have C2 := C.2.2.2
    have al2 : ∀ l ∈ f.letter :: ah, LetOf n l := fun l hl => by
      rcases List.mem_cons.mp hl with rfl | hl
      · exact F.lt
      · exact F.al l hl
    have info : ∀ u ∈ elemsL n fs, TurnOf n u ∧ goI u f.letter = f.letter := fun u hu => by
      obtain ⟨tu, ru⟩ := (elems_mem h0 h4 C2).mp hu
      exact ⟨tu, (((rep_gen h0 h4 C2 tu).mp ru).fx h0 h4 al2 C2.psh) _ List.mem_cons_self⟩
    have same : ∀ u ∈ elemsL n fs, ∀ v ∈ elemsL n fs, ∀ y ∈ f.ways, ∀ z ∈ f.ways, thenL u y.2 = thenL v z.2 → y = z := fun u hu v hv y hy z hz e => by
      obtain ⟨tu, fu⟩ := info u hu
      obtain ⟨tv, fv⟩ := info v hv
      obtain ⟨k, w⟩ := y
      obtain ⟨k2, w2⟩ := z
      obtain ⟨tw, gw, _⟩ := F.way k w hy
      obtain ⟨tw2, gw2, _⟩ := F.way k2 w2 hz
      have := congrArg (fun t => goI t f.letter) e
      dsimp only at this
      rw [go_then tu F.lt, go_then tv F.lt, fu, fv, gw, gw2] at this
      subst this
      have h1 := mem_lookup F.nd hy
      have h2 := mem_lookup F.nd hz
      rw [h1] at h2; cases h2; rfl
    refine nodup_flatMap' _ (elems_nodup h0 h4 C2) (fun u hu => ?_) fun u hu v hv x hx hx2 => ?_
    · unfold List.Nodup
      rw [List.pairwise_map]
      have nd : f.ways.Nodup := List.Pairwise.imp (fun {a b} h e => h (by rw [e])) (List.pairwise_map.mp F.nd)
      refine List.Pairwise.imp_of_mem ?_ nd
      intro y z hy hz ne e
      exact ne (same u hu u hu y hy z hz e)
    · obtain ⟨y, hy, rfl⟩ := List.mem_map.mp hx
      obtain ⟨z, hz, e⟩ := List.mem_map.mp hx2
      have := same u hu v hv y hy z hz e.symm
      subst this
      obtain ⟨tw, _⟩ := F.way y.1 y.2 hy
      exact then_cancel (info u hu).1 (info v hv).1 tw e.symm
def sizeL (fs : List Fl) : Nat := fs.foldl (fun c f => c * f.ways.length) 1
theorem sizeL_acc : ∀ (fs : List Fl) (c : Nat), fs.foldl (fun c f => c * f.ways.length) c = c * sizeL fs
  | [], c => (Nat.mul_one c).symm
  | f :: fs, c => by
    show fs.foldl _ (c * f.ways.length) = c * fs.foldl _ (1 * f.ways.length)
    rw [sizeL_acc fs, sizeL_acc fs (1 * f.ways.length), Nat.one_mul, Nat.mul_assoc]
theorem elems_len : ∀ fs : List Fl, (elemsL n fs).length = sizeL fs
  | [] => rfl
  | f :: fs => by
    have h : sizeL (f :: fs) = f.ways.length * sizeL fs := by
      show fs.foldl _ (1 * f.ways.length) = _
      rw [sizeL_acc, Nat.one_mul]
    rw [h, ← elems_len fs]
    show ((elemsL n fs).flatMap fun u => f.ways.map fun z => thenL u z.2).length = _
    rw [List.length_flatMap]
    have : ∀ l : List (List Int), (l.map fun u => (f.ways.map fun z => thenL u z.2).length).sum = f.ways.length * l.length := by
      intro l
      induction l with
      | nil => rfl
      | cons a l ih => rw [List.map_cons, List.sum_cons, ih, List.length_map, List.length_cons, Nat.mul_add]; omega
    exact this _
end
end WS
set_option Elab.async false
set_option linter.all false
set_option maxRecDepth 100000
set_option maxHeartbeats 4000000
namespace WL
open PySem PySem.Spec PyProof PyProof.Rows L2 PySem.W
section
variable {M : Model} {A : Around} {E : Value → Shared → Prop} {s : Shared}
end
section
variable {prog : Program} {w : World} {A : Around} {E : Value → Shared → Prop} {s : Shared}
end
section
variable {X : Cx} {Z : GH × Hp} {a b : Expr} {Ta Tb : TW} {pos : Pos}
end
end WL
set_option Elab.async false
set_option linter.all false
set_option maxRecDepth 100000
set_option maxHeartbeats 4000000
namespace WL
open PySem PySem.Spec PyProof PyProof.Rows L2 PySem.W
section
variable {X : Cx}
def signs (x : Str) : List Str := x.cps.toList.map fun c => ⟨#[c]⟩
end
end WL
set_option Elab.async false
set_option linter.all false
set_option maxRecDepth 100000
set_option maxHeartbeats 4000000
namespace WL
open PySem PySem.Spec PyProof PyProof.Rows L2 PySem.W
section
variable {X : Cx} {Z : GH × Hp} {a b : Expr} {Ta Tb : TW} {pos : Pos}
end
end WL
set_option Elab.async false
set_option linter.all false
set_option maxRecDepth 100000
set_option maxHeartbeats 4000000
namespace WL
open PySem PySem.Spec PyProof.Rows L2
section
variable {X : Cx}
theorem recL_upd {p : Addr} {G : GH} {ws : List W} : recL (.ref p) (updG G p (.lst ws)) := by unfold recL; dsimp only; rw [updG_same]; trivial
end
end WL
set_option Elab.async false
set_option linter.all false
set_option maxRecDepth 100000
set_option maxHeartbeats 4000000
namespace WL
open PySem PySem.Spec PyProof.Rows L2
section
variable {X : Cx} {Z : GH × Hp} {CX : CXT} {k j n : Nat} {f C : Addr} {fd : FuncData} {ps ks : List Str} {sp : Sp} {E0 : XK} {x : Str} {p pos kpos : Pos} {e : Expr} {es : List Expr} {kws : List Keyword} {nm : Option Str} {t tk : TA} {P : SpW} {Te : TW} {Tr Tk : TWA} {g : List Value → List Value → List Value} {gV : List V → List V → List V} {gW : List W → List W → List W}
def WKw (X : Cx) (Z : GH × Hp) (kws : List Keyword) (T : TWA) : Prop := PK X kws (LfA X.K Z T)
theorem pk_weak {t u : TA} (h : PK X kws t) (hw : ∀ σ H Q, u σ H Q → t σ H Q) : PK X kws u := ⟨fun ep pins s σ H Q I hu => h.run ep pins s σ H Q I (hw σ H Q hu)⟩
theorem wk_nil : WKw X Z [] tN := pk_weak pk_nil fun σ H Q h => by
  obtain ⟨S, G, R, sr, t, k⟩ := h
  exact k _ _ _ _ t .refl .nil sr.rh
theorem wk_cons (ha : WE X Z e Te) (hr : WKw X Z kws Tk) : WKw X Z (⟨nm, e, kpos⟩ :: kws) (tCo Te Tk) := pk_weak (pk_cons ha hr) fun σ H Q h => by
  obtain ⟨S, G, R, sr, t, k⟩ := h
  refine Lf.go sr t fun w G1 v H1 t1 tk rv rh => ?_
  refine LfA.go (sr.next tk rh) t1 fun ws G2 vs H2 t2 tk2 rv2 rh2 => ?_
  exact k _ _ _ _ t2 (tk.trans tk2) (.cons (rv.mono tk2 rh) rv2) rh2
end
end WL
set_option Elab.async false
set_option linter.all false
set_option maxRecDepth 100000
set_option maxHeartbeats 4000000
namespace WL
open PySem PySem.Spec PyProof.Rows L2
inductive Kd where
  | b (T : Ty) | c (n : Str)
def Kd.own : Kd → Bool
  | .c _ => true
  | .b _ => false
section
variable {X : Cx} {Z : GH × Hp} {cn : Str}
end
end WL
set_option Elab.async false
set_option linter.all false
set_option maxRecDepth 100000
set_option maxHeartbeats 4000000
namespace WL
open PySem PySem.Spec PyProof.Rows L2
section
variable {X : Cx} {Z : GH × Hp} {o e f : Expr} {Ta Tb Tc : TW} {Tr : TWA} {apos cpos : Pos}
def dKof (w : W) (G : GH) : Option (List (Key × W)) := match w with
  | .fdK kws => some kws
  | .ref p => match G p with
    | some (.dK kws) => some kws
    | _ => none
  | _ => none
theorem dK_of {K : PySem.W.Frag} {H : Hp} {G : GH} {w : W} {v : V} {kws : List (Key × W)} (h : dKof w G = some kws) (rv : RV K H v w) (rh : RH K H G) : ∃ a kvs, v = .ref a ∧ Rd H a (.dK kvs) ∧ RKV K H kvs kws ∧ ((∃ p, w = .ref p ∧ a = p) ∨ ∃ o, H a = some (.frz o (.dK kvs))) := by
  unfold dKof at h
  split at h
  · cases h
    cases rv with
    | @fdK a ob kvs _ h1 e r => exact ⟨a, kvs, rfl, .inr ⟨ob, h1⟩, RVs.rkv e r, .inr ⟨ob, h1⟩⟩
  · split at h
    · rename_i p _ _ e
      cases h
      cases rv
      obtain ⟨kvs, h1, r⟩ := rh _ _ e
      exact ⟨p, kvs, rfl, .inl h1, r, .inl ⟨p, rfl, rfl⟩⟩
    · cases h
  · cases h
end
end WL
set_option Elab.async false
set_option linter.all false
set_option maxRecDepth 100000
set_option maxHeartbeats 4000000
namespace WL
open PySem PySem.Spec PyProof.Rows L2
section
variable {X : Cx} {pins : List (Addr × Obj)} {σ : L2.St} {H : Hp} {s : Shared} {a : Addr} {o : HO}
theorem inv_track (I : Inv X pins σ H s) (hn : H a = none) (hL : a ≠ X.env.locals) (h0 : X.s_0.heap.get? a = none) (hp : ∀ p ∈ X.pn ++ pins, p.1 ≠ a) (hc : ∀ x c, X.env.cells.lookup x = some c → c ≠ a) (new : ObjOk X.prog X.w (upd H a o) s.heap a o) :
    Inv X pins σ (upd H a o) s := by
  have ne0 : ∀ b u, X.s_0.heap.get? b = some u → b ≠ a := fun b u e z => by rw [z, h0] at e; cases e
  have neH : ∀ b u, H b = some u → b ≠ a := fun b u e z => by rw [z, hn] at e; cases e
  have B := I.base
  refine { ok := I.ok, os := I.os, bare := I.bare, base := ?_, loc := I.loc, cell := I.cell, free := ?_, freeC := fun x c e => ?_, pin := fun p q => ?_, hok := ?_, len := I.len }
  · refine { keep := B.keep, slot := B.slot, free := fun b u e n x => ?_, there := B.there, tups := fun b xs e => ?_, frzs := fun b u v e => ?_, tbls := fun b ps e => ?_ }
    · rw [upd_ne (ne0 b u e)]; exact B.free b u e n x
    · have z := B.tups b xs e
      rw [upd_ne (neH b _ z)]; exact z
    · have z := B.frzs b u v e
      rw [upd_ne (neH b _ z)]; exact z
    · obtain ⟨more, z⟩ := B.tbls b ps e
      exact ⟨more, by rw [upd_ne (neH b _ z)]; exact z⟩
  · rw [upd_ne (Ne.symm hL)]; exact I.free
  · rw [upd_ne (hc x c e)]; exact I.freeC x c e
  · obtain ⟨q1, q2, q3⟩ := I.pin p q
    exact ⟨q1, by rw [upd_ne (hp p q)]; exact q2, q3⟩
  · exact I.hok.laidN (fun _ _ e => e) hn new
theorem exH_ok {P : Program} {w : World} {h : Heap} {H' : Hp} {cls : Value} {d : Option Addr} {oe : Obj} (he : h.get? a = some oe) (hz : Zc cls d oe) (hd : ∃ vs, oe.data = .fields vs) : ObjOk P w H' h a (ExH cls d a) := by
  obtain ⟨vs, hd⟩ := hd
  exact ⟨⟨oe, vs, he, hz, hd⟩, ⟨oe, he⟩, fun h1 h2 ⟨ob, us, g1, g2, g3⟩ st => ⟨ob, us, st _ g1, g2, g3⟩⟩
end
def wHold (K : PySem.W.Frag) (c : Value) (i : Nat) (ts : Addr → Value → Option Addr → TS) (Wout : WX) (D : Ends) : WX := fun cls d τ H =>
  ∃ hit, PySem.W.exmOne K cls c = some hit ∧
    (hit = true → ∀ a, H a = none → ts a cls d { nx := fun τ' H' => H' a = none → D.nx (τ'.set i none) (upd H' a (ExH cls d a)), rt := fun v H' => H' a = none → D.rt v (upd H' a (ExH cls d a)), bk := fun τ' H' => H' a = none → D.bk (τ'.set i none) (upd H' a (ExH cls d a)), ct := fun τ' H' => H' a = none → D.ct (τ'.set i none) (upd H' a (ExH cls d a)) } (τ.set i (some (.ref a))) H) ∧
    (hit = false → Wout cls d τ H)
section
variable {X : Cx} {x n : Str} {c : Value} {i : Nat} {body suite : List Stmt} {b₀ : Stmt} {np pos pos' : Pos} {tb : WX → TS} {ts : Addr → Value → Option Addr → TS} {Wout : WX}
theorem try_hold (nox : X.ex = []) (stk : X.stack = X.env :: X.outer) (frm : X.env.frame = some X.env.locals) (nd : X.N.Nodup) (at_i : X.N[i]? = some n) (loc : X.env.kindOf n = some .local) (nam : Names X x c) (tk : Takes X Wout)
    (hbody : ∀ (W : WX) (pn : List (Addr × Obj)) (xe : Value → Shared → Prop), Takes (X.tr pn xe) W → PassesOwn (model X.prog X.w) X.A X.env xe → PSs (X.tr pn xe) body (tb W))
    (hsuite : ∀ (a : Addr) (oe : Obj) (cls : Value) (d : Option Addr) (pn : List (Addr × Obj)), Zc cls d oe → (∃ vs, oe.data = .fields vs) → PSs (X.suite a ((a, oe) :: pn)) (b₀ :: suite) (ts a cls d)) :
    PS X (.Try body [.ExceptHandler (some (.Name x np)) (some n) (b₀ :: suite) pos'] [] [] pos) (fun D τ H => tb (wHold X.K c i ts Wout D) D τ H) := ⟨fun pins s τ H D I start => by
  have good := I.ok
  have frames : X.A.frames = some (X.env :: X.outer) := by rw [good.frames, stk]
  have place : Loc X.env.scope n := Or.inl loc
  refine wpAny_Try_except (wpAny_mono ((hbody (wHold X.K c i ts Wout D) (X.pn ++ pins) _ (fun u s' flying => ?_) PassesOwn.looking).run [] s τ H D (I.toTry _) start) (fun f s1 out => ?_) fun e s1 q => q)
  · obtain ⟨a, B, sI, pins', τ', H', cls, d, rfl, J', nb, up, sky, na, os, ag, hit, eq, yes, no⟩ := flying
    have J : Inv X pins τ' H' sI := J'.ofTry good
    rw [stk] at sky
    have aB : B.get? a = none := by
      rcases sky with ⟨_, z, _⟩ | z | z
      · exact z
      · exact z.2.1
      · exact z.2.1
    refine Sky.land Zc.steady frames frm sky fun h3 fl3 up3 => ?_
    have J3 : Inv X pins τ' H' { s' with heap := h3 } := J.landed nb fl3.1 (up.trans up3) os ag
    obtain ⟨oe3, vs3, at3, z3, d3⟩ := fl3.there
    have off : ∀ {h : Heap} {ob : Obj} {vs : Array Value}, h.FunFrames B (X.env :: X.outer) → h.get? a = some ob → ob.data = .fields vs → a ∉ frs (X.env :: X.outer) := by
      intro h ob vs ff e1 e2 hm
      obtain ⟨_, ob', e3, nf⟩ := ff.mem hm
      cases e1.symm.trans e3
      exact nf _ e2
    have notfr := off fl3.2.2.1 at3 d3
    have notL : a ≠ X.env.locals := fun z => notfr (List.mem_filterMap.mpr ⟨X.env, List.mem_cons_self, by rw [frm, z]⟩)
    have notF : a ∉ X.fs := fun hm => by
      obtain ⟨e, m, q⟩ := List.mem_filterMap.mp hm
      exact notfr (List.mem_filterMap.mpr ⟨e, List.mem_cons_of_mem _ m, q⟩)
    have gone : sI.heap.get? a = none := by
      cases e : sI.heap.get? a with
      | none => rfl
      | some ob =>
        have := nb a ob e (by rw [stk]; exact notfr)
        rw [aB] at this; cases this
    have gone0 : X.s_0.heap.get? a = none := by
      cases e : X.s_0.heap.get? a with
      | none => rfl
      | some ob =>
        by_cases hx : a ∈ X.ex
        · rw [nox] at hx; cases hx
        · obtain ⟨o', z⟩ := J.base.there a ob e hx
          rw [gone] at z; cases z
    have notP : ∀ p ∈ X.pn ++ pins, p.1 ≠ a := fun p hp z => by
      have := (J.pin p hp).1
      rw [z, gone] at this; cases this
    have notC : ∀ y c', X.env.cells.lookup y = some c' → c' ≠ a := fun y c' e z => by
      obtain ⟨v, ob, e1, _⟩ := J.cell y c' e
      rw [z, gone] at e1; cases e1
    have S3 := J3.suite at3 d3 na notL notF
    refine wpAny_handleBy_cons (codeAny_handlers_test ?_) (by intro q; cases q)
    have kind : PySem.W.Looks (model X.prog X.w) h3 (typeOf (.ref a)) cls := fun A Q E s k q => wpAny_typeOf_ref (k _ _ at3) (by rw [z3.1]; exact q)
    have look := PySem.W.exm_one (M := model X.prog X.w) J3.kIn kind eq
    have named : ∀ {Q : Value → Shared → Prop} {E : Value → Shared → Prop}, Q c { s' with heap := h3 } → wpAny (model X.prog X.w) (X.A.mark (some (.ref a))) (eval (.Name x np) X.env) Q E { s' with heap := h3 } := by
      intro Q E q
      obtain ⟨hg, hdb, hm | ⟨hm, hv, hnn⟩⟩ := nam
      · exact ld_glob (X := X.suite a ((a, oe3) :: (X.pn ++ pins))) S3 hg hm q hdb
      · exact ld_blt (X := X.suite a ((a, oe3) :: (X.pn ++ pins))) S3 hg hm hv q hnn hdb
    refine named (look.here ?_)
    cases hit with
    | false =>
      show wpAny _ X.A (handleBy (.ref a) X.env []) _ _ _
      refine wpAny_handleBy_nil ?_
      obtain ⟨k1, k2, k3, oe, vs, T, oT, ts', he, hz, hd, h1, hr⟩ := id fl3
      unfold PySem.passOn
      refine wpAny_bind (wpAny_field he hd h1 ?_)
      rw [if_neg (show ¬ ((Value.ref T == Value.none) = true) from by simp)]
      have rest : wpAny (model X.prog X.w) X.A (setFlight (.ref a) X.env.frame) (fun _ s4 => wpAny (model X.prog X.w) X.A (throw (.ref a) : Sem Flow) (SP X pins D) X.xe s4) X.xe { s' with heap := h3 } := by
        rw [frm]
        refine HandSPX.setFlight_upZ fl3 fun h4 held up4 => wpAny_throw (tk _ _ ?_)
        exact ⟨a, B, sI, pins, τ', H', cls, d, rfl, J, nb, (up.trans up3).trans up4, Or.inr (Or.inr (by rw [stk]; exact held)), na, os, ag, no rfl⟩
      first
        | exact wpAny_bind (wpAny_pure (wpAny_bind rest))
        | exact wpAny_bind rest
    | true =>
      refine codeAny_handlers_suite_as (HandSPX.lands_againZ fl3 fun h4 fl4 up4 => ?_)
      have J4 : Inv X pins τ' H' { s' with heap := h4 } := J.landed nb fl4.1 ((up.trans up3).trans up4) os ag
      obtain ⟨oe4, vs4, at4, z4, d4⟩ := fl4.there
      have S4 := J4.suite at4 d4 na notL notF
      refine store_ok (X := X.suite a ((a, oe4) :: (X.pn ++ pins))) (v := .ref a) S4 nd at_i place rfl (fun s5 S5 => ?_) (Or.inr loc)
      refine wpAny_mono ((hsuite a oe4 cls d (X.pn ++ pins) z4 ⟨_, d4⟩).run [] s5 _ H' _ S5 (yes rfl a na)) (fun f s6 out => ?_) fun _ _ z => z.elim
      have off6 : ∀ {τ6 : L2.St} {H6 : Hp}, Inv (X.suite a ((a, oe4) :: (X.pn ++ pins))) [] τ6 H6 s6 → H6 a = none := fun S6 => (S6.pin (a, oe4) (List.mem_append_left _ List.mem_cons_self)).2.1
      have keep : ∀ {τ6 : L2.St} {H6 : Hp}, Inv (X.suite a ((a, oe4) :: (X.pn ++ pins))) [] τ6 H6 s6 → Inv X pins τ6 (upd H6 a (ExH cls d a)) s6 := fun {τ6 H6} S6 => by
        obtain ⟨q1, q2, _⟩ := S6.pin (a, oe4) (List.mem_append_left _ List.mem_cons_self)
        exact inv_track (S6.unsuite good) q2 notL gone0 notP notC (exH_ok q1 z4 ⟨_, d4⟩)
      cases f with
      | next =>
        obtain ⟨τ6, H6, S6, q6⟩ := out
        exact gone_ok (keep S6) nd at_i loc fun s7 J7 => ⟨_, _, J7, q6 (off6 S6)⟩
      | brk =>
        obtain ⟨τ6, H6, S6, q6⟩ := out
        exact gone_ok (keep S6) nd at_i loc fun s7 J7 => ⟨_, _, J7, q6 (off6 S6)⟩
      | cont =>
        obtain ⟨τ6, H6, S6, q6⟩ := out
        exact gone_ok (keep S6) nd at_i loc fun s7 J7 => ⟨_, _, J7, q6 (off6 S6)⟩
      | ret u =>
        obtain ⟨v6, τ6, H6, S6, r6, q6⟩ := out
        exact gone_ok (keep S6) nd at_i loc fun s7 J7 => ⟨_, _, _, J7, r6, q6 (off6 S6)⟩
  · cases f with
    | next =>
      obtain ⟨τ', H', J', q⟩ := out
      exact wpAny_execs_nil ⟨τ', H', J'.ofTry good, q⟩
    | brk =>
      obtain ⟨τ', H', J', q⟩ := out
      exact ⟨τ', H', J'.ofTry good, q⟩
    | cont =>
      obtain ⟨τ', H', J', q⟩ := out
      exact ⟨τ', H', J'.ofTry good, q⟩
    | ret u =>
      obtain ⟨v, τ', H', J', r, q⟩ := out
      exact ⟨v, τ', H', J'.ofTry good, r, q⟩⟩
end
end WL
set_option Elab.async false
set_option linter.all false
set_option maxRecDepth 100000
set_option maxHeartbeats 4000000
namespace WL
open PySem PySem.Spec PyProof.Rows L2
abbrev XS := Str → List (Str × W) → WSt → GH → Prop
abbrev xs (RX : XW) : XS := fun c fs _ G => RX c fs G
abbrev xn : XS := fun _ _ _ _ => False
def XAt (K : PySem.W.Frag) (Z : GH × Hp) (RX : XS) : WX := fun cls d σ H => ∃ c fs S G, RX c fs S G ∧ SR K Z σ H S G ∧ XDs K H c fs cls d
def TX (X : Cx) (Z : GH × Hp) (RX : XS) : Prop := Takes X (XAt X.K Z RX)
theorem TX.no {X : Cx} {Z : GH × Hp} : TX X Z xn := fun u s' x => by
  obtain ⟨_, _, _, _, _, _, _, _, _, _, _, _, _, _, _, _, _, _, _, _, z, _⟩ := x
  exact z.elim
section
variable {P : Program} {w : World} {K : PySem.W.Frag} {mg : Str → Option Value} {base : Heap} {N : List Str} {qual : Str} {sc : Scope} {f : Addr} {cdv : Value} {A : Around} {outer : List Env} {s : Shared} {H : Hp} {G : GH} {E : XK} {RX : XW}
theorem TX.of (kx : XL K G H RX E) : TX (cxOf (L2.CX P w) P w K mg base N qual sc f cdv A outer s H E) (G, H) (xs RX) :=
  (takes_of rfl rfl rfl rfl).imp fun cls d σ H' ⟨c, fs, S, G', q, sr, xd⟩ => kx c fs G' cls d H' q sr.tk sr.rh xd
end
section
variable {K : PySem.W.Frag} {H H' H1 : Hp} {G G' G1 : GH} {c : Str} {fs : List (Str × W)} {cls : Value} {od : Option Addr} {a : Addr} {w : W} {v : V} {S : WSt} {σ : L2.St} {Z : GH × Hp}
theorem XDs.mono (x : XDs K H c fs cls od) (f : FR G H G' H') (r : RH K H G) : XDs K H' c fs cls od := by
  obtain ⟨C, fvs, e, hC, ha, hn, rs⟩ := x
  exact ⟨C, fvs, e, hC, f.exA r ha, hn, rs.mono f r⟩
def exV (a : Addr) (c : Str) (fs : List (Str × W)) : W → W
  | .ref b => if b = a then .ex c fs else .ref b
  | w => w
theorem exV_same : exV a c fs (.ref a) = .ex c fs := by unfold exV; dsimp only; rw [if_pos rfl]
def exS (a : Addr) (c : Str) (fs : List (Str × W)) (S : WSt) : WSt := S.map (Option.map (exV a c fs))
theorem exV_rv (na : H a = none) (r : RH K H G) (x : XDs K H c fs cls od) (rv : RV K H v w) : RV K (upd H a (ExH cls od a)) v (exV a c fs w) := by
  have f : FR G H G (upd H a (ExH cls od a)) := .new na
  cases w with
  | ref b =>
    unfold exV
    dsimp only
    by_cases e : b = a
    · rw [if_pos e]
      subst e
      cases rv
      obtain ⟨C, fvs, rfl, hC, ha, hn, rs⟩ := x.mono f r
      exact .ex hC upd_same ha hn rs
    · rw [if_neg e]
      exact rv.mono f r
  | _ => exact rv.mono f r
theorem exS_sr (na : H a = none) (x : XDs K H c fs cls od) (sr : SR K Z σ H S G) : SR K Z σ (upd H a (ExH cls od a)) (exS a c fs S) G := by
  refine ⟨sr.tk.trans (.new na), ?_, sr.rh.new na⟩
  have go : ∀ {σ : L2.St} {S : WSt}, Paired (OV K H) σ S → Paired (OV K (upd H a (ExH cls od a))) σ (exS a c fs S) := by
    intro σ S p
    induction p with
    | nil => exact .nil
    | @cons ox y l m h t ih =>
      refine .cons (fun w e => ?_) ih
      cases y with
      | none => cases e
      | some y =>
        cases e
        obtain ⟨v, e1, rv⟩ := h y rfl
        exact ⟨v, e1, exV_rv na sr.rh x rv⟩
  exact go sr.rs
end
def Hits (K : PySem.W.Frag) (cv : Value) (hit : Str → Option Bool) : Prop := ∀ c b C, hit c = some b → ClsAt K c C → PySem.W.exmOne K (.ref C) cv = some b
def sTry (i : Nat) (hit : Str → Option Bool) (Tb : XS → TWS) (Ts : Addr → TWS) (RX : XS) : TWS := fun D S G => Tb (fun c fs S' G' => match hit c with
  | some true => ∀ a, G' a = none → Ts a { nx := fun S2 G2 => ∀ S3, S3 = exS a c fs (S2.set i none) → D.nx S3 G2, rt := fun w G2 => ∀ w3, w3 = exV a c fs w → D.rt w3 G2, bk := fun S2 G2 => ∀ S3, S3 = exS a c fs (S2.set i none) → D.bk S3 G2, ct := fun S2 G2 => ∀ S3, S3 = exS a c fs (S2.set i none) → D.ct S3 G2 } (S'.set i (some (.ref a))) G'
  | some false => RX c fs S' G'
  | none => False) D S G
section
variable {X : Cx} {Z : GH × Hp} {x n : Str} {cv : Value} {i : Nat} {body suite : List Stmt} {b₀ : Stmt} {np pos pos' : Pos} {hit : Str → Option Bool} {Tb : XS → TWS} {Ts : Addr → TWS} {RX : XS}
theorem Paired.put {α β : Type} {F : α → β → Prop} {x : α} {y : β} (h : F x y) : ∀ {i : Nat} {l : List α} {m : List β}, Paired F l m → Paired F (l.set i x) (m.set i y)
  | _, _, _, .nil => .nil
  | 0, _, _, .cons _ t => .cons h t
  | _ + 1, _, _, .cons q t => .cons q (Paired.put h t)
theorem ws_try (hits : Hits X.K cv hit) (tk : TX X Z RX) (nam : Names X x cv) (nd : X.N.Nodup)
    (hbody : ∀ (Z' : GH × Hp) (RX : XS) (pn : List (Addr × Obj)) (xe : Value → Shared → Prop), FR Z.1 Z.2 Z'.1 Z'.2 → TX (X.tr pn xe) Z' RX → PassesOwn (model X.prog X.w) X.A X.env xe → WSs (X.tr pn xe) Z' body (Tb RX))
    (hsuite : ∀ (a : Addr) (pn : List (Addr × Obj)), WSs (X.suite a pn) Z (b₀ :: suite) (Ts a))
    (at_i : X.N[i]? = some n := by rfl) (loc : X.env.kindOf n = some .local := by rfl) (stk : X.stack = X.env :: X.outer := by rfl) (frm : X.env.frame = some X.env.locals := by rfl) (nox : X.ex = [] := by rfl) :
    WS X Z (.Try body [.ExceptHandler (some (.Name x np)) (some n) (b₀ :: suite) pos'] [] [] pos) (sTry i hit Tb Ts RX) := by
  refine (try_hold (X := X) (tb := fun W D σ H => ∃ Z' RX', FR Z.1 Z.2 Z'.1 Z'.2 ∧ (∀ cls d σ H, XAt X.K Z' RX' cls d σ H → W cls d σ H) ∧ LfS X.K Z' (Tb RX') D σ H) (ts := fun a _ _ => LfS X.K Z (Ts a)) nox stk frm nd at_i loc nam tk (fun W pn xe tk' po => ?_) (fun a oe cls d pn _ _ => hsuite a _)).weak fun D σ H h => ?_
  · refine ⟨fun pins s σ H D I h => ?_⟩
    obtain ⟨Z', RX', fz, hW, h⟩ := h
    exact (hbody Z' RX' pn xe fz (tk'.imp fun cls d σ H h => hW cls d σ H h) po).run pins s σ H D I h
  · obtain ⟨S, G, DW, sr, t, l⟩ := h
    refine ⟨(G, H), _, sr.tk, ?_, S, G, DW, ⟨.refl, sr.rs, sr.rh⟩, t, ⟨fun S' G' σ' H' d s1 f => l.nx S' G' σ' H' d ⟨sr.tk.trans f, s1.rs, s1.rh⟩ f, l.rt, fun S' G' σ' H' d s1 f => l.bk S' G' σ' H' d ⟨sr.tk.trans f, s1.rs, s1.rh⟩ f, fun S' G' σ' H' d s1 f => l.ct S' G' σ' H' d ⟨sr.tk.trans f, s1.rs, s1.rh⟩ f⟩⟩
    rintro cls d σ' H' ⟨c, fs, S', G', q, s1, xd⟩
    have f1 : FR G H G' H' := s1.tk
    have s2 : SR X.K Z σ' H' S' G' := ⟨sr.tk.trans f1, s1.rs, s1.rh⟩
    obtain ⟨C, fvs, rfl, hC, _⟩ := id xd
    cases hh : hit c with
    | none => simp only [hh] at q
    | some b =>
      refine ⟨b, hits c b C hh hC, fun e a na => ?_, fun e => ?_⟩
      · subst e
        simp only [hh] at q
        have ga := s1.rh.free na
        refine ⟨S'.set i (some (.ref a)), G', _, ⟨s2.tk, Paired.put (fun w e => by cases e; exact ⟨_, rfl, .ref a⟩) s2.rs, s2.rh⟩, q a ga, ⟨fun S2 G2 σ2 H2 d3 s3 f3 na2 => ?_, fun w G2 v H2 d3 f3 rv rh na2 => ?_, fun S2 G2 σ2 H2 d3 s3 f3 na2 => ?_, fun S2 G2 σ2 H2 d3 s3 f3 na2 => ?_⟩⟩
        · exact l.nx _ _ _ _ (d3 _ rfl) (exS_sr na2 (xd.mono f3 s2.rh) ⟨s3.tk, Paired.put (fun w e => by cases e) s3.rs, s3.rh⟩) ((f1.trans f3).trans (.new na2))
        · exact l.rt _ _ _ _ (d3 _ rfl) ((f1.trans f3).trans (.new na2)) (exV_rv na2 rh (xd.mono f3 s2.rh) rv) (rh.new na2)
        · exact l.bk _ _ _ _ (d3 _ rfl) (exS_sr na2 (xd.mono f3 s2.rh) ⟨s3.tk, Paired.put (fun w e => by cases e) s3.rs, s3.rh⟩) ((f1.trans f3).trans (.new na2))
        · exact l.ct _ _ _ _ (d3 _ rfl) (exS_sr na2 (xd.mono f3 s2.rh) ⟨s3.tk, Paired.put (fun w e => by cases e) s3.rs, s3.rh⟩) ((f1.trans f3).trans (.new na2))
      · subst e
        simp only [hh] at q
        exact ⟨c, fs, S', G', q, s2, xd⟩
end
structure ExcD (K : PySem.W.Frag) (mg : Str → Option Value) (c : Str) : Prop where
  ex : ∃ C, ClsAt K c C ∧ mg c = some (.ref C) ∧ PySem.W.keepIn K (.ref C) = true ∧ PySem.W.subIn K (.ref C) (.type "BaseException") = some true ∧ PySem.W.typeIn K (.ref C) = some (.type "type") ∧
    PySem.W.excIn K C [.type "ValueError", .type "Exception", .type "BaseException", .type "object"] "ValueError.__new__" = true
def sRaise (c : Str) (RX : XS) : TWS := fun _ S G => RX c [] S G
section
variable {X : Cx} {Z : GH × Hp} {c : Str} {RX : XS} {p p2 pos pos' : Pos} {m : Str} {j : Nat}
theorem ws_raiseT (hc : X.calm = true) (tk : TX X Z RX) (D : ExcD X.K X.mg c) (hg : Gl X c := by rfl) (hdb : (c == ("__debug__" : Str)) = false := by decide) :
    WS X Z (.Raise (some (.Call (.Name c p) [.Constant (.str m) j p2] [] pos)) none pos') (sRaise c RX) := by
  obtain ⟨C, hC, hm, hk, h1, h2, h3⟩ := D.ex
  exact (ps_raise hc tk (pmk_own F.excBase_ValueError h3 hm hk (raises_own h1 h2) hg hdb)).weak fun D σ H ⟨S, G, DW, sr, t, l⟩ => ⟨c, [], S, G, t, sr, C, [], rfl, hC, .inl ⟨rfl, rfl⟩, rfl, .nil⟩
end
def spI (C : Addr) (f : Str) : Sp := fun vs H Q _ => ∃ a v, vs = [.ref a, v] ∧ H a = some (exo a C none) ∧ ∀ dx, H dx = none → dx ≠ a → Q .non (upd (upd H dx (exd dx [(f, v)])) a (exo a C (some dx)))
structure ExcF (P : Program) (w : World) (K : PySem.W.Frag) (mg : Str → Option Value) (base : Heap) (c f : Str) : Prop where
  ex : ∃ C fI fd y, OexC K C ∧ ClsAt K c C ∧ mg c = some (.ref C) ∧ PySem.W.findIn K (.ref C) "__init__" = some (some (.ref fI)) ∧ PySem.W.typeIn K (.ref fI) = some (.type "function") ∧ FnOk P w K mg base CX0 1 fI fd ["self", y] (spI C f) ∧ L2.Binds K fd ["self", y] []
def sRaiseF (c f : Str) (Ta : TW) (RX : XS) : TWS := fun _ S G => Ta S G fun w G1 => RX c [(f, w)] S G1
section
variable {X : Cx} {Z : GH × Hp} {c f : Str} {RX : XS} {p pos pos' : Pos} {e : Expr} {Ta : TW} {j : Nat}
theorem ws_raiseF (hc : X.calm = true) (tk : TX X Z RX) (D : ExcF X.prog X.w X.K X.mg X.base c f) (hr : Room j X.A) (he : WE X Z e Ta) (hj : 2 ≤ j := by decide) (hg : Gl X c := by rfl) (hdb : (c == ("__debug__" : Str)) = false := by decide)
    (hst : starEach (e :: []) X.env = (false, eval e X.env) :: starEach [] X.env := by rfl) (hpl : (backTo pos (starEach [] X.env)).any (·.1) = false := by rfl) :
    WS X Z (.Raise (some (.Call (.Name c p) [e] [] pos)) none pos') (sRaiseF c f Ta RX) := by
  obtain ⟨C, fI, fd, y, T, hC, hm, hi, ht, F, hb⟩ := D.ex
  refine (ps_raise hc tk (pmk_oex T hi ht F (hr.mono hj) hb .nil (fun _ _ _ _ _ _ _ z => z.elim) hg hm (pa_cons he pa_nil hst) hdb hst hpl)).weak fun D σ H h => ?_
  obtain ⟨S, G, DW, sr, t, l⟩ := h
  refine Lf.go sr t fun w G1 v H1 t1 f1 r1 h1 => ?_
  refine ⟨by show 1 ≤ 1000; omega, fun a ha => ⟨a, v, rfl, upd_same, fun dx hdx ne => ⟨rfl, dx, [(f, v)], upd_same, ?_, ?_, ?_⟩⟩⟩
  · rw [upd_ne ne, upd_same]
  · rw [upd_ne ne] at hdx; exact hdx
  · have hd1 : H1 dx = none := by rw [upd_ne ne] at hdx; exact hdx
    have e1 : upd (del (upd (upd (upd H1 a (exo a C none)) dx (exd dx [(f, v)])) a (exo a C (some dx))) a) dx (.xd [(f, v)]) = upd H1 dx (.xd [(f, v)]) := by
      funext b
      by_cases e1 : b = dx
      · subst e1; rw [upd_same, upd_same]
      · rw [upd_ne e1, upd_ne e1]
        by_cases e2 : b = a
        · subst e2; rw [del_same, ha]
        · rw [del_ne e2, upd_ne e2, upd_ne e1, upd_ne e2]
    rw [e1]
    exact ⟨c, [(f, w)], S, G1, t1, (sr.next f1 h1).next (.new hd1) (h1.new hd1), C, [(f, v)], rfl, hC, .inr ⟨dx, rfl, upd_same⟩, rfl, .cons (r1.mono (.new hd1) h1) .nil⟩
end
end WL
set_option Elab.async false
set_option linter.all false
set_option maxRecDepth 100000
set_option maxHeartbeats 4000000
namespace WL
open PySem PySem.Spec PyProof.Rows L2
section
variable {X : Cx} {Z : GH × Hp} {CX : CXT} {k j : Nat} {f C : Addr} {fd : FuncData} {ps : List Str} {sp : Sp} {dvs : List V} {ds : List Value} {E : XK} {ES : L2.St → XK} {x m cn : Str} {p pos apos : Pos} {e o : Expr} {es : List Expr} {t : TA} {P : SpW} {Ta : TW} {Tr : TWA} {dws : List W} {RX : XS}
theorem run_gS {pins : List (Addr × Obj)} {σ : L2.St} {H : Hp} {s : Shared} {Q : VK} {us : List Value} {vs : List V} (F : FnG X.prog X.w X.K X.mg X.base CX k f fd ps sp) (hgd : X.A.guards = some []) (hr : Room k X.A) (hb : Binds X.K fd ps ds) (hd : Vals dvs ds) (hx : PassesAt CX X σ E)
    (I : Inv X pins σ H s) (r : Vals vs us) (h : sp (vs ++ dvs) H Q E) : wpAny (model X.prog X.w) X.A (call (.ref f) us) (EP X pins σ Q) X.xe s := by
  have both : Vals (vs ++ dvs) (us ++ ds) := r.append hd
  refine wpAny_call (codeAny_mono (F.goes hgd hr I.env0 (hb s us I.kIn (by rw [← both.length]; exact F.size h)) both h) ?_)
  intro res s' hq
  match res, hq with
  | .error e, hq => exact hx pins H s e s' I hq
  | .ok (.ret u), hq => exact I.after hq
abbrev EW (X : Cx) (Z : GH × Hp) (RX : XS) : L2.St → XK := fun σ cls d H => XAt X.K Z RX cls d σ H
theorem TX.at (tk : TX X Z RX) (σ : L2.St) : PassesAt (L2.CX X.prog X.w) X σ (EW X Z RX σ) := passAt tk σ
theorem TX.xl {σ : L2.St} {S : WSt} {G1 : GH} {H1 : Hp} (sr : SR X.K Z σ H1 S G1) : XL X.K G1 H1 (fun c fs G' => RX c fs S G') (EW X Z RX σ) := fun c fs G' cls od H' q f rh xd => ⟨c, fs, S, G', q, sr.next f rh, xd⟩
def tCallX (P : SpW) (dws : List W) (RX : XS) (Tr : TWA) : TW := fun S G R => Tr S G fun ws G1 => P (ws ++ dws) G1 R fun c fs G' => RX c fs S G'
theorem we_hR (tk : TX X Z RX) (D : DfG X.prog X.w X.K X.mg X.base (L2.CX X.prog X.w) k x ps dws P) (hgd : X.A.guards = some []) (hr : Room j X.A) (ha : WA X Z (e :: es) Tr) (hk : k ≤ j := by decide) (hg : Gl X x := by rfl) (hdb : (x == ("__debug__" : Str)) = false := by decide)
    (he : starEach (e :: es) X.env = (false, eval e X.env) :: starEach es X.env := by rfl) (hpl : (backTo pos (starEach es X.env)).any (·.1) = false := by rfl) : WE X Z (.Call (.Name x p) (e :: es) [] pos) (tCallX P dws RX Tr) := by
  obtain ⟨f, fd, dvs, ds, F, hm, hk', hb, hd, hdw⟩ := D.ex
  refine ⟨fun pins s σ H Q I h => ?_⟩
  obtain ⟨S, G, R, sr, t, kl⟩ := h
  refine wpAny_Call_Name_kw (ld_glob I hg hm (PySem.W.callWith_K (h₀ := X.base) I.ok.mod.kin hk' (thn (ha.run pos pins s σ H (fun vs H1 => spL X.K P (vs ++ dvs) H1 Q (EW X Z RX σ)) I (LfA.go sr t fun ws G1 vs H1 t1 f1 rs h1 => ?_)) fun us s1 ⟨vs, H1, I1, r, q⟩ => ⟨I1.kIn, run_gS F hgd (hr.mono hk) hb hd (tk.at σ) I1 r q⟩) he hpl) hdb)
  exact ⟨ws ++ dws, G1, R, _, rs.append (hdw H1), h1, t1, fun w G' v H' q f2 rv rh => kl w G' v H' q (f1.trans f2) rv rh, TX.xl (sr.next f1 h1)⟩
end
def hitB (yes no : List Str) (c : Str) : Option Bool := if yes.contains c then some true else if no.contains c then some false else none
structure KxD (K : PySem.W.Frag) (D : Addr) : Prop where
  cl : (PySem.W.clsIn K D).isSome = true
  ga : PySem.W.findIn K (.ref D) "__getattribute__" = some (some (.builtin "BaseException.__getattribute__"))
  gg : PySem.W.findIn K (.ref D) "__getattr__" = some none
  sb : PySem.W.subIn K (.ref D) (.type "BaseException") = some true
  c1 : PySem.W.findIn K (.ref D) "__class__" = some (some (.builtin "object.__class__"))
  c2 : PySem.W.specialIn K (.builtin "object.__class__") "__get__" = some (some (.builtin "getset_descriptor.__get__"))
  c3 : PySem.W.takesIn K (.builtin "object.__class__") = some true
  c4 : PySem.W.mroIn K D (.type "object") = some true
structure HitD (K : PySem.W.Frag) (mg : Str → Option Value) (cn : Str) (yes no : List Str) : Prop where
  ex : ∃ C, mg cn = some (.ref C) ∧ (∀ c ∈ yes, ∃ D, ClsAt K c D ∧ PySem.W.exmOne K (.ref D) (.ref C) = some true) ∧ (∀ c ∈ no, ∃ D, ClsAt K c D ∧ PySem.W.exmOne K (.ref D) (.ref C) = some false)
theorem hitB_ok {K : PySem.W.Frag} {yes no : List Str} {Pb : Addr → Bool → Prop} (h1 : ∀ c ∈ yes, ∃ D, ClsAt K c D ∧ Pb D true) (h2 : ∀ c ∈ no, ∃ D, ClsAt K c D ∧ Pb D false) {c : Str} {b : Bool} {C : Addr} (h : hitB yes no c = some b) (hC : ClsAt K c C) : Pb C b := by
  unfold hitB at h
  split at h
  · rename_i e
    cases h
    obtain ⟨D, hD, q⟩ := h1 c (List.contains_iff_mem.mp e)
    rw [hC.inj hD]; exact q
  · split at h
    · rename_i e
      cases h
      obtain ⟨D, hD, q⟩ := h2 c (List.contains_iff_mem.mp e)
      rw [hC.inj hD]; exact q
    · cases h
section
variable {X : Cx} {Z : GH × Hp} {x n cn : Str} {i : Nat} {body suite : List Stmt} {b₀ : Stmt} {np pos pos' : Pos} {yes no : List Str} {Tb : XS → TWS} {Ts : Addr → TWS} {RX : XS}
theorem ws_tryH (D : HitD X.K X.mg x yes no) (tk : TX X Z RX) (nd : X.N.Nodup)
    (hbody : ∀ (Z' : GH × Hp) (RX : XS) (pn : List (Addr × Obj)) (xe : Value → Shared → Prop), FR Z.1 Z.2 Z'.1 Z'.2 → TX (X.tr pn xe) Z' RX → PassesOwn (model X.prog X.w) X.A X.env xe → WSs (X.tr pn xe) Z' body (Tb RX))
    (hsuite : ∀ (a : Addr) (pn : List (Addr × Obj)), WSs (X.suite a pn) Z (b₀ :: suite) (Ts a))
    (hg : Gl X x := by rfl) (hdb : (x == ("__debug__" : Str)) = false := by decide)
    (at_i : X.N[i]? = some n := by rfl) (loc : X.env.kindOf n = some .local := by rfl) (stk : X.stack = X.env :: X.outer := by rfl) (frm : X.env.frame = some X.env.locals := by rfl) (nox : X.ex = [] := by rfl) :
    WS X Z (.Try body [.ExceptHandler (some (.Name x np)) (some n) (b₀ :: suite) pos'] [] [] pos) (sTry i (hitB yes no) Tb Ts RX) := by
  obtain ⟨C, hm, h1, h2⟩ := D.ex
  exact ws_try (fun c b D h hD => hitB_ok (Pb := fun D b => PySem.W.exmOne X.K (.ref D) (.ref C) = some b) h1 h2 h hD) tk ⟨hg, hdb, .inl hm⟩ nd hbody hsuite at_i loc stk frm nox
end
structure XcD (K : PySem.W.Frag) (mg : Str → Option Value) (cn : Str) (yes no : List Str) : Prop where
  ex : ∃ C, mg cn = some (.ref C) ∧ PySem.W.kitOne K (.type "NoneType") (.ref C) = some false ∧ (∀ c ∈ yes, ∃ D, ClsAt K c D ∧ KxD K D ∧ PySem.W.kitOne K (.ref D) (.ref C) = some true) ∧ (∀ c ∈ no, ∃ D, ClsAt K c D ∧ KxD K D ∧ PySem.W.kitOne K (.ref D) (.ref C) = some false)
structure XbD (K : PySem.W.Frag) (T : String) (yes : List Str) : Prop where
  ex : PySem.W.kitOne K (.type "NoneType") (.type T) = some false ∧ (∀ c ∈ yes, ∃ D, ClsAt K c D ∧ KxD K D ∧ PySem.W.kitOne K (.ref D) (.type T) = some true)
def isX (yes no : List Str) (w : W) : Option Bool := match w with
  | .ex c _ => hitB yes no c
  | .non => some false
  | _ => none
def tIsX (yes no : List Str) (Ta : TW) : TW := fun S G R => Ta S G fun w G1 => ∃ b, isX yes no w = some b ∧ R (.bl b) G1
section
variable {X : Cx} {Z : GH × Hp} {cn : Str} {yes no : List Str} {a : Expr} {Ta : TW} {p p2 pos : Pos}
theorem isX_core {cv : Value} {cw : V} (hcw : RelV cw cv) (h0 : PySem.W.kitOne X.K (.type "NoneType") cv = some false) (h1 : ∀ c ∈ yes, ∃ D, ClsAt X.K c D ∧ KxD X.K D ∧ PySem.W.kitOne X.K (.ref D) cv = some true) (h2 : ∀ c ∈ no, ∃ D, ClsAt X.K c D ∧ KxD X.K D ∧ PySem.W.kitOne X.K (.ref D) cv = some false) (only : ∀ u, RelV cw u → u = cv) :
    CallR X (.builtin "isinstance") (fun xs H Q => ∃ x w G b, xs = [x, cw] ∧ RV X.K H x w ∧ RH X.K H G ∧ isX yes no w = some b ∧ Q (.bl b) H) := by
  intro pins s σ H xs us Q I r h
  obtain ⟨x, w, G, b, rfl, rv, rh, eb, q⟩ := h
  obtain ⟨u1, u2, rfl, r1, r2⟩ := vals2 r
  cases only u2 r2
  cases w with
  | non =>
    cases rv
    cases eb
    obtain ⟨P, Z1, p1, hx⟩ := kit_of I r1 (ty_of (w := .non) (G := G) rfl .non rh)
    exact PySem.W.kia_one Z1 I.kIn p1 h0 hx fun tk => ⟨.bl _, H, I.tok tk, rfl, q⟩
  | ex c fs =>
    cases rv with
    | @ex a D od c fvs fs hD ha hA hn rs =>
      cases (show u1 = Value.ref a from r1)
      obtain ⟨hk, ek⟩ := hitB_ok (Pb := fun D b => KxD X.K D ∧ PySem.W.kitOne X.K (.ref D) cv = some b) h1 h2 eb hD
      obtain ⟨⟨oe, vs, he, hz, hdt⟩, _⟩ := (show ObjOk X.prog X.w H s.heap a (ExH (.ref D) od a) from I.hok a _ ha)
      have nc : PySem.W.notCls oe = true := by unfold PySem.W.notCls; rw [hdt]
      have J : ∃ o', PySem.W.InstAt s.heap a oe D o' := by
        rcases hA with ⟨e, _⟩ | ⟨dd, e, hxd⟩
        · exact ⟨none, ⟨he, hz.1, nc, by rw [hz.2, e]; trivial⟩⟩
        · obtain ⟨mA, hns, _⟩ := (show ObjOk X.prog X.w H s.heap dd (.xd fvs) from I.hok dd _ hxd)
          obtain ⟨o', ho', _⟩ := lookIn_ns hns
          exact ⟨some o', ⟨he, hz.1, nc, by rw [hz.2, e]; exact ho'⟩⟩
      obtain ⟨o', J⟩ := J
      exact PySem.W.kia_one (PySem.W.kitx_exc hk.cl hk.ga hk.gg hk.sb hk.c1 hk.c2 hk.c3 hk.c4) I.kIn J ek (fun z => nomatch z) fun tk => ⟨.bl _, H, I.tok tk, rfl, q⟩
  | _ => cases eb
theorem isX_we {cw : V} (hc : CallR X (.builtin "isinstance") (fun xs H Q => ∃ x w G b, xs = [x, cw] ∧ RV X.K H x w ∧ RH X.K H G ∧ isX yes no w = some b ∧ Q (.bl b) H)) (hn : PE X (.Name cn p2) (tC cw)) (hg : Gl X "isinstance") (hm : X.mg "isinstance" = none) (hv : bootBuiltins "isinstance" = some (.builtin "isinstance")) (ha : WE X Z a Ta)
    (he : starEach (a :: [.Name cn p2]) X.env = (false, eval a X.env) :: starEach [.Name cn p2] X.env) (hpl : (backTo pos (starEach [.Name cn p2] X.env)).any (·.1) = false) :
    WE X Z (.Call (.Name "isinstance" p) [a, .Name cn p2] [] pos) (tIsX yes no Ta) := by
  have pa : PA X [a, .Name cn p2] (tCons (Lf X.K Z Ta) (tCons (tC cw) tNil)) := pa_cons ha (pa_cons hn pa_nil) he
  refine (pe_callB hc hg hm hv pa (by decide) (by decide) he hpl).weak fun σ H Q h => ?_
  obtain ⟨S, G, R, sr, t, k⟩ := h
  refine Lf.go sr t fun w G1 v H1 t1 f1 r1 h1 => ?_
  obtain ⟨b, eb, t2⟩ := t1
  exact ⟨v, w, G1, b, rfl, r1, h1, eb, k _ _ _ _ t2 f1 (.bl b) h1⟩
theorem we_isX (D : XcD X.K X.mg cn yes no) (hg : Gl X "isinstance") (hm : X.mg "isinstance" = none) (hv : bootBuiltins "isinstance" = some (.builtin "isinstance")) (ha : WE X Z a Ta) (hgc : Gl X cn := by rfl) (hdc : (cn == ("__debug__" : Str)) = false := by decide)
    (he : starEach (a :: [.Name cn p2]) X.env = (false, eval a X.env) :: starEach [.Name cn p2] X.env := by rfl) (hpl : (backTo pos (starEach [.Name cn p2] X.env)).any (·.1) = false := by rfl) :
    WE X Z (.Call (.Name "isinstance" p) [a, .Name cn p2] [] pos) (tIsX yes no Ta) := by
  obtain ⟨C, hmc, h0, h1, h2⟩ := D.ex
  exact isX_we (isX_core (cw := .ref C) rfl h0 h1 h2 fun _ e => e) (pe_glob hgc hmc (v := .ref C) rfl hdc) hg hm hv ha he hpl
theorem we_isXb {T : String} (D : XbD X.K T yes) (hg : Gl X "isinstance") (hm : X.mg "isinstance" = none) (hv : bootBuiltins "isinstance" = some (.builtin "isinstance")) (hmc : X.mg cn = none) (hvc : bootBuiltins cn = some (.type T)) (ha : WE X Z a Ta) (hgc : Gl X cn := by rfl) (hnn : cn ≠ ("__name__" : Str) := by decide) (hdc : (cn == ("__debug__" : Str)) = false := by decide)
    (he : starEach (a :: [.Name cn p2]) X.env = (false, eval a X.env) :: starEach [.Name cn p2] X.env := by rfl) (hpl : (backTo pos (starEach [.Name cn p2] X.env)).any (·.1) = false := by rfl) :
    WE X Z (.Call (.Name "isinstance" p) [a, .Name cn p2] [] pos) (tIsX yes [] Ta) := by
  obtain ⟨h0, h1⟩ := D.ex
  exact isX_we (isX_core (cw := .ty T) rfl h0 h1 (fun _ h => by cases h) fun _ e => e) (pe_bltn hgc hmc hvc rfl hnn hdc) hg hm hv ha he hpl
end
structure XaD (K : PySem.W.Frag) (f : Str) (cs : List Str) : Prop where
  ex : ∀ c ∈ cs, ∃ C, ClsAt K c C ∧ XfC K C ∧ PySem.W.findIn K (.ref C) f = some none
def tXaW (f : Str) (cs : List Str) (Ta : TW) : TW := fun S G R => Ta S G fun w G1 => ∃ c fs v, w = .ex c fs ∧ fs.lookup f = some v ∧ c ∈ cs ∧ R v G1
theorem lookup_rv {K : PySem.W.Frag} {H : Hp} {f : Str} {w : W} : ∀ {fvs : List (Str × V)} {fs : List (Str × W)}, fvs.map (·.1) = fs.map (·.1) → RVs K H (fvs.map (·.2)) (fs.map (·.2)) → fs.lookup f = some w → ∃ v, fvs.lookup f = some v ∧ RV K H v w
  | [], [], _, _, e => by cases e
  | _ :: _, [], e, _, _ => by cases e
  | [], _ :: _, e, _, _ => by cases e
  | (a, v) :: fvs, (b, y) :: fs, e, .cons r t, el => by
    obtain ⟨e1, e2⟩ := List.cons.inj e
    have e1 : a = b := e1
    subst e1
    rw [List.lookup_cons] at el ⊢
    split at el
    · rename_i h
      cases el
      exact ⟨v, by simp [h], r⟩
    · rename_i h
      obtain ⟨u, h1, h2⟩ := lookup_rv e2 t el
      exact ⟨u, by simp [h, h1], h2⟩
section
variable {X : Cx} {Z : GH × Hp} {f : Str} {cs : List Str} {e : Expr} {Ta : TW} {pos : Pos}
theorem we_xa (D : XaD X.K f cs) (he : WE X Z e Ta) (hb : attributeBase e f X.env (eval e X.env) = eval e X.env := by rfl) : WE X Z (.Attribute e f pos) (tXaW f cs Ta) := by
  refine ⟨fun pins s σ H Q I h => ?_⟩
  obtain ⟨S, G, R, sr, t, k⟩ := h
  refine attr_of hb (thn (he.run pins s σ H (fun v H1 => ∃ w G1, RV X.K H1 v w ∧ RH X.K H1 G1 ∧ FR G H G1 H1 ∧ ∃ c fs y, w = .ex c fs ∧ fs.lookup f = some y ∧ c ∈ cs ∧ R y G1) I (Lf.go sr t fun w G1 v H1 t1 f1 r1 h1 => ⟨w, G1, r1, h1, f1, t1⟩)) fun u s1 hh => ?_)
  obtain ⟨x, H1, I1, rx, w, G1, rv, rh, f1, c, fs, y, rfl, el, hc, q⟩ := hh
  obtain ⟨C, hC, T, hno⟩ := D.ex c hc
  cases rv with
  | @ex a C' od c fvs fs hC' ha hA hn rs =>
    cases hC'.inj hC
    cases (show u = Value.ref a from rx)
    obtain ⟨v, ev, rvv⟩ := lookup_rv hn rs el
    obtain ⟨⟨oe, vs, hoe, hz, hdt⟩, _⟩ := (show ObjOk X.prog X.w H1 s1.heap a (ExH (.ref C) od a) from I1.hok a _ ha)
    rcases hA with ⟨_, e0⟩ | ⟨dd, ed, hxd⟩
    · subst e0; cases ev
    · obtain ⟨mA, hns, hr⟩ := (show ObjOk X.prog X.w H1 s1.heap dd (.xd fvs) from I1.hok dd _ hxd)
      obtain ⟨od', ho, hl⟩ := lookIn_ns hns
      obtain ⟨u, hu, ru⟩ := RelO.some_of (v := v) (o := mA f) (by rw [← ev]; exact hr f)
      have J : PySem.W.InstAt s1.heap a oe C (some od') := ⟨hoe, hz.1, by unfold PySem.W.notCls; rw [hdt], by rw [hz.2, ed]; exact ho⟩
      exact HandSPX.exc_get I1.kIn J T.ga T.gg T.exC (PySem.W.findObj_own T.hdC hno rfl (by rw [hl, hu])) (handed_of ru) ⟨v, H1, I1.tok _, ru, k _ _ _ _ q f1 rvv rh⟩
end
theorem exI_ok {P : Program} {w : World} {K : PySem.W.Frag} {mg : Str → Option Value} {base : Heap} {qual y f : Str} {st : Stmt} {C fI : Addr} {fd : FuncData} {p1 p2 p3 p4 : Pos} (F : Fun K "__init__" qual st fI fd) (T : OexC K C) (no : PySem.W.findIn K (.ref C) f = some none) (hN : FnScope ["self", y] ["self", y] (defScope st))
    (hb : defBody st = [.Assign [.Attribute (.Name "self" p1) f p2] (.Name y p3) p4]) (v0 : Vis (defScope st) "self" := by first | exact .inl rfl | exact .inr (.inl rfl)) (v1 : Vis (defScope st) y := by first | exact .inl rfl | exact .inr (.inl rfl))
    (hd : (y == ("__debug__" : Str)) = false := by decide) (hcd : (y == ("__classdict__" : Str)) = false := by decide) : FnOk P w K mg base CX0 1 fI fd ["self", y] (spI C f) := by
  refine F.ok hN (fun vs H Q E h => ?_) fun cdv A outer s H vs Q E hr h => ?_
  · obtain ⟨a, v, rfl, _⟩ := h; rfl
  · obtain ⟨a, v, rfl, ha, q⟩ := h
    rw [hb]
    refine ⟨_, pss_one (ps_ost (pe_var (i := 0) rfl v0) (pe_var (i := 1) rfl v1 hd hcd)), ?_⟩
    exact ⟨v, rfl, .ref a, rfl, a, C, rfl, T, no, .inl ⟨ha, fun dx h1 h2 => q dx h1 h2⟩⟩
end WL
set_option Elab.async false
set_option linter.all false
set_option maxRecDepth 100000
set_option maxHeartbeats 4000000
namespace WL
open PySem PySem.Spec PyProof.Rows L2
def HasTab (G : GH) (x : Str) (q : Str) : Prop := ∃ P, G P = some (.tab x q)
theorem HasTab.ext {G G' : GH} {x q : Str} (h : HasTab G x q) (e : ∀ a o, G a = some o → G' a = some o) : HasTab G' x q := let ⟨P, hP⟩ := h; ⟨P, e _ _ hP⟩
section
variable {X : Cx} {pins : List (Addr × Obj)} {σ : L2.St} {H : Hp} {s : Shared}
end
abbrev AW := XW → GH → KW → Prop
def tAct (i : Nat) (f : Addr) (act : AW) (RX : XS) : TW := fun S G R => S[i]? = some (some (.ref f)) ∧ act (fun c fs G' => RX c fs S G') G R
abbrev lamG (P : Program) (w : World) (K : PySem.W.Frag) (mg : Str → Option Value) (base : Heap) (N : List Str) (x : Str) (sc : Scope) (g : Addr) (cdv : Value) (A : Around) (outer : List Env) (s : Shared) (H : Hp) : Cx := (cxOf CX0 P w K mg base N x sc g cdv A outer s H (fun _ _ _ => False)).nox
def ActW (Y : Cx) (Z : GH × Hp) (a : Str) (i : Nat) (f : Addr) (act : AW) : Prop := ∀ (Z' : GH × Hp) (RX : XS) (pn : List (Addr × Obj)) (xe : Value → Shared → Prop) (p1 p2 : Pos), FR Z.1 Z.2 Z'.1 Z'.2 → TX (Y.tr pn xe) Z' RX → WE (Y.tr pn xe) Z' (.Call (.Name a p1) [] [] p2) (tAct i f act RX)
structure LamD (P : Program) (w : World) (K : PySem.W.Frag) (mg : Str → Option Value) (base : Heap) (k : Nat) (x a : Str) (PA : AW → GH → KW → Prop) : Prop where
  ex : ∃ (g : Addr) (pg : Arguments) (bg : List Stmt) (sg : Scope) (kV doc pm cdv ct oc : Value) (an od : Option Addr) (osl : Array (Option Value)) (N : List Str), mg x = some (.ref g) ∧ PySem.W.keepIn K (.ref g) = true ∧
    K.lookup g = some ⟨oc, od, .func (PySem.W.fnOf x x pg bg sg .none kV doc pm an cdv ct), osl⟩ ∧ PySem.W.codeIn K cdv x = true ∧ L2.Binds K (PySem.W.fnOf x x pg bg sg .none kV doc pm an cdv ct) [a] [] ∧ FnScope N [a] sg ∧ N[0]? = some a ∧ Vis sg a ∧
    ∀ (act : AW) (f : Addr) (A : Around) (outer : List Env) (s : Shared) (H : Hp) (G : GH) (R : KW), A.guards = some [] → Room k (A.deeper (envOfC x sg s.heap.objs.size g cdv)) → ActW (lamG P w K mg base N x sg g cdv A outer s H) (G, H) a 0 f act → PA act G R →
      ∃ T : TWS, WSs (lamG P w K mg base N x sg g cdv A outer s H) (G, H) bg T ∧ T { nx := fun _ G' => fgt R .non G', rt := fgt R } (startW N [.ref f]) G
theorem LamD.of {P : Program} {w : World} {K : PySem.W.Frag} {mg : Str → Option Value} {base : Heap} {k : Nat} {x a : Str} {PA : AW → GH → KW → Prop} {st : Stmt} {g : Addr} {fd : FuncData} {N : List Str} (F : Fun K x x st g fd) (S : FnScope N [a] (defScope st)) (hm : mg x = some (.ref g)) (hb : L2.Binds K fd [a] []) (hN : N[0]? = some a := by rfl) (hv : Vis (defScope st) a := by first | exact .inl rfl | exact .inr (.inl rfl))
    (body : ∀ (cdv : Value) (act : AW) (f : Addr) (A : Around) (outer : List Env) (s : Shared) (H : Hp) (G : GH) (R : KW), A.guards = some [] → Room k (A.deeper (envOfC x (defScope st) s.heap.objs.size g cdv)) → ActW (lamG P w K mg base N x (defScope st) g cdv A outer s H) (G, H) a 0 f act → PA act G R →
      ∃ T : TWS, WSs (lamG P w K mg base N x (defScope st) g cdv A outer s H) (G, H) (defBody st) T ∧ T { nx := fun _ G' => fgt R .non G', rt := fgt R } (startW N [.ref f]) G) : LamD P w K mg base k x a PA := by
  have kp := F.kp
  obtain ⟨oc, od, kV, doc, pm, an, cdv, ct, osl, rfl, lk, hcd⟩ := F.ex
  exact ⟨g, _, _, _, kV, doc, pm, cdv, ct, oc, an, od, osl, N, hm, kp, lk, hcd, hb, S, hN, hv, fun act f A outer s H G R => body cdv act f A outer s H G R⟩
section
variable {X : Cx} {Z : GH × Hp} {x x0 a q : Str} {PA : AW → GH → KW → Prop} {k j kb : Nat} {params : Arguments} {body : Expr} {scope : Scope} {lpos p pos : Pos} {Tl : XS → TW}
end
section
variable {P : Program} {w : World} {K : PySem.W.Frag} {mg : Str → Option Value} {base : Heap} {CX : CXT} {x qual : Str} {st : Stmt} {f : Addr} {fd : FuncData} {N ps : List Str} {k : Nat} {sp : Sp} {Q : SpW}
end
end WL
set_option Elab.async false
set_option linter.all false
set_option maxRecDepth 100000
set_option maxHeartbeats 4000000
namespace WL
open PySem PySem.Spec PyProof.Rows L2
end WL
set_option Elab.async false
set_option linter.all false
set_option maxRecDepth 100000
set_option maxHeartbeats 4000000
namespace WL
open PySem PySem.Spec PyProof.Rows L2
theorem bt_ValueError : bootBuiltins "ValueError" = some (.type "ValueError") := by decide +kernel
section
variable {X : Cx}
theorem flat_bls : ∀ bs : List Bool, (bs.map V.bl).all flatV = true
  | [] => rfl
  | b :: bs => by rw [List.map_cons, List.all_cons, flat_bls bs]; rfl
theorem countU {y : Bool} : ∀ {bs : List Bool} {us : List Value}, Vals (bs.map V.bl) us → us.countP (eqU (.bl y)) = bs.count y
  | [], _, .nil => rfl
  | b :: bs, u :: us, .cons r t => by
    rw [List.countP_cons, List.count_cons, countU t, eqU_of r rfl]
    rfl
def countB : MW := fun w ws G R => match lstAt w G, ws with
  | some xs, [.bl b] => ∃ bs : List Bool, xs = bs.map W.bl ∧ R (.int (bs.count b : Nat)) G
  | _, _ => False
theorem mt_countB : MetW X "list.count" countB := by
  intro pins s σ H x xs v us Q I rx rs h
  obtain ⟨w, ws, G, R, r1, r2, rh, t, k⟩ := h
  unfold countB at t
  split at t
  · rename_i ys b e
    obtain ⟨bs, rfl, t⟩ := t
    obtain ⟨a, vs, rfl, hs, rv⟩ := lst_at e r1 rh
    have ev := rv.bls
    subst ev
    obtain ⟨z, rfl, rz⟩ := r2.one
    cases rz
    cases rx
    obtain ⟨u, rfl, ru⟩ := rs.one
    obtain ⟨its, rr, ⟨⟨cls, dd, data, sl⟩, n, ho, hc, hdn, hd⟩, hlen⟩ := I.list hs
    simp only at hc hd
    subst hc hd
    refine call_meets PySem.F.slot_list_count ⟨_, ho, rfl⟩ PySem.F.entry_list_count (PySem.F.args_list_count_2 _ _) (SeqAt.list_countAt a its.toArray n dd sl u (eqU (.bl b))) ⟨ho, fun y hy => mem_eqAt ru rfl rr (flat_bls bs) y (by simpa using hy), ?_⟩
    refine ⟨.int (bs.count b : Nat), H, I.tok _, ⟨s.toks, ?_⟩, k.here t (.int _) rh⟩
    show Value.int ((its.toArray.toList.countP (eqU (.bl b)) : Nat) : Int) s.toks = Value.int ((bs.count b : Nat) : Int) s.toks
    rw [show its.toArray.toList = its from rfl, countU rr]
  · exact t.elim
def indexB : MW := fun w ws G R => match lstAt w G, ws with
  | some xs, [.bl b] => ∃ (bs : List Bool) (j : Nat), xs = bs.map W.bl ∧ bs[j]? = some b ∧ (∀ m, m < j → bs[m]? ≠ some b) ∧ R (.int (j : Nat)) G
  | _, _ => False
theorem mt_indexB : MetW X "list.index" indexB := by
  intro pins s σ H x xs v us Q I rx rs h
  obtain ⟨w, ws, G, R, r1, r2, rh, t, k⟩ := h
  unfold indexB at t
  split at t
  · rename_i ys b e
    obtain ⟨bs, j, rfl, hj, hno, t⟩ := t
    obtain ⟨a, vs, rfl, hs, rv⟩ := lst_at e r1 rh
    have ev := rv.bls
    subst ev
    obtain ⟨z, rfl, rz⟩ := r2.one
    cases rz
    refine mt_index pins s σ H _ _ v us Q I rx rs ⟨a, _, .bl b, j, .bl b, rfl, rfl, hs, rfl, flat_bls bs, by rw [List.getElem?_map, hj]; rfl, by show (b == b) = true; simp, fun m z hm hz => ?_, k.here t (.int _) rh⟩
    rw [List.getElem?_map] at hz
    cases e2 : bs[m]? with
    | none => rw [e2] at hz; cases hz
    | some y =>
      rw [e2] at hz
      cases hz
      show (y == b) = false
      refine beq_eq_false_iff_ne.mpr fun q => hno m hm ?_
      rw [e2, q]
  · exact t.elim
end
section
variable {X : Cx} {Z : GH × Hp} {k j n : Nat} {ps ks : List Str} {x : Str} {p pos : Pos} {e : Expr} {es : List Expr} {kws : List Keyword} {P : SpW} {Tr Tk : TWA} {gW : List W → List W → List W} {RX : XS}
theorem run_gNS {CX : CXT} {f : Addr} {fd : FuncData} {sp : Sp} {E : XK} {g : List Value → List Value → List Value} {gV : List V → List V → List V} {pins : List (Addr × Obj)} {σ : L2.St} {H : Hp} {s : Shared} {Q : VK} {us ws : List Value} {vs zs : List V} (F : FnG X.prog X.w X.K X.mg X.base CX k f fd ps sp) (hgd : X.A.guards = some []) (hr : Room k X.A) (hb : KBn X.K fd ps n ks g gV) (hx : PassesAt CX X σ E)
    (I : Inv X pins σ H s) (r : Vals vs us) (rz : Vals zs ws) (l1 : vs.length = n) (l2 : zs.length = ks.length) (h : sp (gV vs zs) H Q E) : wpAny (model X.prog X.w) X.A (call (.ref f) us (ks.zip ws)) (EP X pins σ Q) X.xe s := by
  have r2 := hb.rel r rz
  refine wpAny_call (codeAny_mono (F.goes hgd hr I.env0 (hb.to s us ws I.kIn (r.length.symm.trans l1) (rz.length.symm.trans l2)) r2 h) ?_)
  intro res s' hq
  match res, hq with
  | .error e, hq => exact hx pins H s e s' I hq
  | .ok (.ret u), hq => exact I.after hq
end
theorem fun_kb {K : PySem.W.Frag} {x qual : Str} {st : Stmt} {f : Addr} {fd : FuncData} {ps : List Str} (F : Fun K x qual st f fd) (n : Nat) (ks : List Str) (g : List Value → List Value → List Value) (gV : List V → List V → List V)
    (rel : ∀ {vs : List V} {us : List Value} {zs : List V} {ws : List Value}, Vals vs us → Vals zs ws → Vals (gV vs zs) (g us ws))
    (h : ∀ (kV doc pm : Value) (an : Option Addr) (cdv ct : Value) (us ws : List Value), us.length = n → ws.length = ks.length → bindArgs (PySem.W.fnOf x qual (defArgs st) (defBody st) (defScope st) .none kV doc pm an cdv ct) ⟨us, ks.zip ws⟩ = pure (ps.zip (g us ws))) : KBn K fd ps n ks g gV := by
  obtain ⟨oc, od, kV, doc, pm, an, cdv, ct, osl, rfl, lk, hcd⟩ := F.ex
  exact ⟨fun s us ws _ l1 l2 => .of_eq (h kV doc pm an cdv ct us ws l1 l2), rel⟩
def TabK (d : Addr) (x q : Str) (G : GH) : Prop := ∃ P, P ≠ d ∧ G P = some (.tab x q)
section
variable {d : Addr} {x q : Str} {G G' : GH}
theorem TabK.keep (h : TabK d x q G) (k : KeepG d G G') : TabK d x q G' := let ⟨P, n, e⟩ := h; ⟨P, n, k _ _ n e⟩
theorem TabK.ext (h : TabK d x q G) (k : ExtG G G') : TabK d x q G' := h.keep k.keep
theorem TabK.has (h : TabK d x q G) : HasTab G x q := let ⟨P, _, e⟩ := h; ⟨P, e⟩
theorem TabK.start (h : HasTab G x q) (hd : G d = none) (k : ExtG G G') : TabK d x q G' := let ⟨P, e⟩ := h; ⟨P, (fun z => by rw [z, hd] at e; cases e), k _ _ e⟩
end
end WL
set_option Elab.async false
set_option linter.all false
set_option maxRecDepth 100000
set_option maxHeartbeats 4000000
namespace WL
open PySem PySem.Spec PyProof.Rows L2 PySem.W
section
variable {P : Program} {w : World} {K : PySem.W.Frag} {mg : Str → Option Value} {base : Heap} {f d : Addr} {qual x : Str} {params : Arguments} {scope : Scope} {cl : List (Str × Addr)} {pm ctv : Value} {p1 p2 p3 p4 p5 : Pos} {x1 : _}
end
section
variable {X : Cx} {Z : GH × Hp} {x0 q x : Str} {e : Expr} {Ta : TW} {k : Nat} {params : Arguments} {scope : Scope} {p pos kpos lpos p1 p2 p3 p4 p5 : Pos} {x1 : _}
end
section
variable {X : Cx} {Z : GH × Hp} {K : PySem.W.Frag}
end
end WL
set_option Elab.async false
set_option linter.all false
set_option maxRecDepth 100000
set_option maxHeartbeats 4000000
namespace WL
open PySem PySem.Spec PyProof.Rows L2 PySem.W
section
variable {X : Cx}
end
end WL
set_option Elab.async false
set_option linter.all false
set_option maxRecDepth 100000
set_option maxHeartbeats 4000000
namespace WL
open PySem PySem.Spec PyProof.Rows L2 PySem.W
section
variable {α : Type} [DecidableEq α] [DW α] {G : GH} {R : KW} {n : Bool}
end
end WL
set_option Elab.async false
set_option linter.all false
set_option maxRecDepth 100000
set_option maxHeartbeats 4000000
namespace WL
open PySem PySem.Spec PyProof.Rows L2 PySem.W
section
variable {X : Cx} {Z : GH × Hp} {e : Expr} {ta : TA} {Ta : TW} {p pos tpos : Pos} {elts : List Expr} {kk : Nat}
end
end WL
set_option Elab.async false
set_option linter.all false
set_option maxRecDepth 100000
set_option maxHeartbeats 4000000
namespace WL
open PySem PySem.Spec PyProof PyProof.Rows L2 PySem.W
section
variable {X : Cx} {Z : GH × Hp} {a b : Expr} {Ta Tb : TW} {pos : Pos}
end
end WL
set_option Elab.async false
set_option linter.all false
set_option maxRecDepth 100000
set_option maxHeartbeats 4000000
namespace WL
open PySem PySem.Spec PyProof PyProof.Rows L2 PySem.W
abbrev OK := Option (List Key)
def OIs (P : Program) (w : World) (h : Heap) : OK → Value → Prop
  | none, v => v = .none
  | some k, v => ∃ a, v = .ref a ∧ IsTupleKey (mixKind P w) h k a
def oHash (P : Program) (w : World) : OK → Int
  | none => 0xFCA86420
  | some k => tupleKeyHash (mixKind P w) k
section
variable {P : Program} {w : World} {A : Around} {E : Value → Shared → Prop} {s : Shared} {h h' : Heap} {k x y : OK} {u v : Value} {d : Addr} {o : Obj}
theorem OIs.inj (hx : OIs P w h x v) (hy : OIs P w h y v) : x = y := by
  cases x with
  | none =>
    cases y with
    | none => rfl
    | some b => obtain ⟨a, e, _⟩ := hy; cases hx; cases e
  | some a =>
    obtain ⟨p, rfl, hx⟩ := hx
    cases y with
    | none => cases hy
    | some b => obtain ⟨q, e, hy⟩ := hy; cases e; rw [hx.inj hy]
theorem OIs.keeps {es : Array DictEntry} {ep : Nat} (hx : OIs P w h k v) (ho : h.get? d = some o) (hd : o.data = .dict es ep) (hs : Heap.SameBut d h h') : OIs P w h' k v := by
  cases k with
  | none => exact hx
  | some k => obtain ⟨a, e, hx⟩ := hx; exact ⟨a, e, hx.keeps ho hd hs⟩
theorem IsTupleKey.tup {a : Addr} {k : List Key} (hx : IsTupleKey (mixKind P w) h k a) : ∃ items, h.IsTuple a items := by
  obtain ⟨o, items, n, ho, hc, hd, _⟩ := hx
  exact ⟨items, o, ho, hc, n, hd⟩
theorem OIs.eq {Q : Bool → Shared → Prop} (hu : A.units < cLine) (hx : OIs P w s.heap x u) (hy : OIs P w s.heap y v) (hq : Q (decide (x = y)) s) : wpAny (model P w) A (eqBool u v) Q E s := by
  cases x with
  | none =>
    cases hx
    cases y with
    | none =>
      cases hy
      unfold eqBool
      refine wpAny_holding ?_
      refine wpAny_ite_split (fun _ => ?_) (fun hn => absurd rfl hn)
      exact wpAny_bind (wpAny_rule (wpAny_pure (by simpa using hq)))
    | some b =>
      obtain ⟨q, rfl, hy⟩ := hy
      obtain ⟨its, ht⟩ := IsTupleKey.tup hy
      rw [decide_eq_false (fun e => nomatch e)] at hq
      exact SeqAt.EqAt.none_tuple ht hu P w E Q hq
  | some a =>
    obtain ⟨p, rfl, hx⟩ := hx
    cases y with
    | none =>
      cases hy
      obtain ⟨its, ht⟩ := IsTupleKey.tup hx
      rw [decide_eq_false (fun e => nomatch e)] at hq
      exact SeqAt.EqAt.tuple_none ht hu P w E Q hq
    | some b =>
      obtain ⟨q, rfl, hy⟩ := hy
      refine wpAny_eqBool_tuple hu hx hy ?_
      rw [show decide (a = b) = decide (some a = some b) from decide_eq_decide.mpr ⟨fun e => congrArg some e, fun e => Option.some.inj e⟩]
      exact hq
end
section
variable {P : Program} {w : World} {A : Around} {E : Value → Shared → Prop} {s : Shared}
abbrev OX := OK × Value × Value
def oEnt (P : Program) (w : World) (x : OX) : DictEntry := ⟨oHash P w x.1, x.2.1, x.2.2⟩
def Met (xs : List OX) (k : OK) (i : Nat) (hit : Option Nat) : Prop := (hit = none ∧ ∀ j p, j < i → xs[j]? ≠ some (k, p)) ∨ ∃ j p, hit = some j ∧ j < i ∧ xs[j]? = some (k, p)
theorem Met.skip {xs : List OX} {k : OK} {i x : Nat} {hit : Option Nat} (m : Met xs k i hit) (hix : i ≤ x) (hskip : ∀ j, i ≤ j → j < x → ∀ p, xs[j]? ≠ some (k, p)) : Met xs k x hit := by
  rcases m with ⟨h0, hno⟩ | ⟨j, p, h1, hji, hj⟩
  · refine .inl ⟨h0, fun j p hjx hj => ?_⟩
    rcases Nat.lt_or_ge j i with h | h
    · exact hno j p h hj
    · exact hskip j h hjx p hj
  · exact .inr ⟨j, p, h1, by omega, hj⟩
def DictOK (P : Program) (w : World) (h : Heap) (d : Addr) (val : Value) (ks : List (OK × Value)) : Prop :=
  ∃ o es ep, h.get? d = some o ∧ o.ExactDict ∧ o.data = .dict es ep ∧ es.toList = ks.map (fun x => oEnt P w (x.1, x.2, val)) ∧ (∀ x ∈ ks, OIs P w h x.1 x.2) ∧ (ks.map (·.1)).Nodup
theorem DictOK.new (h : Heap) (val : Value) : DictOK P w (h.push { cls := .type "dict", data := .dict #[] }) h.objs.size val [] :=
  ⟨_, #[], 0, Heap.get?_push_size _ rfl, ⟨rfl, rfl, rfl⟩, rfl, rfl, (fun _ hx => by cases hx), List.nodup_nil⟩
end
end WL
set_option Elab.async false
set_option linter.all false
set_option maxRecDepth 100000
set_option maxHeartbeats 4000000
namespace WL
open PySem PySem.Spec PyProof.Rows L2 PySem.W
def OIsH (H : Hp) : OK → V → Prop
  | none, y => y = .non
  | some k, y => ∃ a, y = .ref a ∧ H a = some (.tup (k.map kV))
def vv : V → Value
  | .ref a => .ref a
  | _ => .none
theorem OIsH.rel {H : Hp} {k : OK} {y : V} (x : OIsH H k y) : L2.RelV y (vv y) := by
  cases k with
  | none => cases x; exact rfl
  | some k => obtain ⟨a, rfl, _⟩ := x; exact rfl
theorem OIsH.is {P : Program} {w : World} {H : Hp} {h : Heap} {k : OK} {y : V} (ok : HOk P w H h) (x : OIsH H k y) : OIs P w h k (vv y) := by
  cases k with
  | none => cases x; exact rfl
  | some k => obtain ⟨a, rfl, x⟩ := x; exact ⟨a, rfl, key_of ok x⟩
section
variable {X : Cx}
end
end WL
set_option Elab.async false
set_option linter.all false
set_option maxRecDepth 100000
set_option maxHeartbeats 4000000
namespace WL
open PySem PySem.Spec PyProof.Rows L2 PySem.W
section
variable {P : Program} {w0 : World} {K : PySem.W.Frag} {Z : GH × Hp}
theorem paired_app {α β : Type} {F : α → β → Prop} : ∀ {xs ys : List α} {us ws : List β}, PySem.Paired F xs us → PySem.Paired F ys ws → PySem.Paired F (xs ++ ys) (us ++ ws)
  | _, _, _, _, .nil, s => s
  | _, _, _, _, .cons r t, s => .cons r (paired_app t s)
end
section
variable {X : Cx}
end
section
variable {X : Cx} {Z : GH × Hp}
end
end WL
set_option Elab.async false
set_option linter.all false
set_option maxRecDepth 100000
set_option maxHeartbeats 4000000
namespace WL
open PySem PySem.Spec PyProof.Rows L2 PySem.W
def walkD (w : W) (G : GH) (R : List W → (GH → Prop) → GH → Prop) : Prop := match w with
  | .fdK kws => R (kws.map fun kv => kW kv.1) tru1 G
  | .fdT kws => R (kws.map fun kv => .tup (kv.1.map kW)) tru1 G
  | _ => False
def tIKeys (Ta : TW) : TIW := fun S G R => Ta S G fun w G1 => walkD w G1 R
theorem rv_kW {K : PySem.W.Frag} {H : Hp} (k : Key) : RV K H (kV k) (kW k) := by
  cases k with
  | inl i => exact .int i
  | inr x => exact .str x
theorem rvs_kW {K : PySem.W.Frag} {H : Hp} : ∀ ks : List Key, RVs K H (ks.map kV) (ks.map kW)
  | [] => .nil
  | k :: ks => .cons (rv_kW k) (rvs_kW ks)
section
variable {X : Cx} {Z : GH × Hp} {tg a : Expr} {Ta : TW}
theorem key_get {κ α β : Type} {kvs : List (κ × α)} {kws : List (κ × β)} (e : kvs.map (·.1) = kws.map (·.1)) {i : Nat} {k : κ} {v : α} (h : kvs[i]? = some (k, v)) : ∃ w, kws[i]? = some (k, w) := by
  have : (kws.map (·.1))[i]? = some k := by rw [← e, List.getElem?_map, h]; rfl
  rw [List.getElem?_map] at this
  obtain ⟨⟨k', w⟩, h1, h2⟩ := Option.map_eq_some_iff.mp this
  cases h2
  exact ⟨w, h1⟩
theorem wi_keys (ha : WE X Z a Ta) : WI X Z tg a (tIKeys Ta) := (pi_keys ha).weak fun σ H R h => by
  obtain ⟨S, G, R', sr, t, k⟩ := h
  refine Lf.go sr t fun w G1 v H1 t1 f1 r1 h1 => ?_
  cases w with
  | fdK kws =>
    cases r1 with
    | fdK q e rs =>
      rename_i d o kvs
      have hlen : kvs.length = kws.length := by have := congrArg List.length e; simpa using this
      refine ⟨d, o, rfl, .inl ⟨kvs, q, k _ _ _ _ _ t1 f1 h1 ?_⟩⟩
      exact {
        go := fun i G' H' f rh _ hi => ⟨f.frzO h1 q, by rw [List.length_map] at hi; omega⟩
        yld := fun i G' H' x H'' w f rh _ hw y => by
          obtain ⟨e1, kk, vv, hk, rfl⟩ := y
          subst e1
          obtain ⟨w', hw'⟩ := key_get e hk
          rw [List.getElem?_map, hw'] at hw
          cases hw
          exact ⟨.refl, rv_kW kk, rh⟩
        stop := fun G' H' f rh _ => ⟨f.frzO h1 q, by rw [List.length_map]; omega⟩ }
  | fdT kws =>
    cases r1 with
    | fdT q e rs =>
      rename_i d o kvs
      have hlen : kvs.length = kws.length := by have := congrArg List.length e; simpa using this
      refine ⟨d, o, rfl, .inr ⟨kvs, q, k _ _ _ _ _ t1 f1 h1 ?_⟩⟩
      exact {
        go := fun i G' H' f rh _ hi => ⟨f.frzO h1 q, by rw [List.length_map] at hi; omega⟩
        yld := fun i G' H' x H'' w f rh _ hw y => by
          obtain ⟨e1, kk, vv, qq, hk, rfl, hq⟩ := y
          subst e1
          obtain ⟨w', hw'⟩ := key_get e hk
          rw [List.getElem?_map, hw'] at hw
          cases hw
          exact ⟨.refl, .tup hq (rvs_kW kk), rh⟩
        stop := fun G' H' f rh _ => ⟨f.frzO h1 q, by rw [List.length_map]; omega⟩ }
  | _ => exact (show False from t1).elim
end
end WL
set_option Elab.async false
set_option linter.all false
set_option maxRecDepth 100000
set_option maxHeartbeats 4000000
namespace WL
open PySem PySem.Spec PyProof PyProof.Rows L2 PySem.W
section
variable {X : Cx} {Z : GH × Hp} {a : Expr} {Ta : TW} {p p2 q pos : Pos}
end
end WL
set_option Elab.async false
set_option linter.all false
set_option maxRecDepth 100000
set_option maxHeartbeats 4000000
namespace WL
open PySem PySem.Spec PyProof.Rows L2 PySem.W
section
variable {X : Cx} {Z : GH × Hp} {e t1 t2 : Expr} {Ta : TW} {g1 g2 : TGW} {pos : Pos}
end
end WL
set_option Elab.async false
set_option linter.all false
set_option maxRecDepth 100000
set_option maxHeartbeats 4000000
namespace WL
open PySem PySem.Spec PyProof PyProof.Rows L2 PySem.W
def tDispT (tk tv : TE) : TE := fun σ H Q => ∀ p, H p = none → tk σ (upd H p (.dT [])) fun x H1 => tv σ H1 fun y H2 => ∃ k b, x = .ref b ∧ H2 b = some (.tup (k.map kV)) ∧ H2 p = some (.dT []) ∧ Q (.ref p) (upd H2 p (.dT [(k, y)]))
theorem pe_dispT {X : Cx} {k v : Expr} {pos : Pos} {tk tv : TE} (hu : X.A.units < cLine) (hk : PE X k tk) (hv : PE X v tv) : PE X (.Dict [some k] [v] pos) (tDispT tk tv) := by
  refine ⟨fun pins s σ H Q I q => ?_⟩
  have hn := I.hok.fresh (Nat.le_refl s.heap.objs.size)
  have I1 := I.laid (a := s.heap.objs.size) (o := .dT []) (h' := s.heap.push { cls := .type "dict", data := .dict #[] }) (t' := s.toks) (fun _ _ q => Heap.get?_push_of_some _ q) (Nat.le_refl _) (dt_empty s.heap I.big)
  refine wpAny_Dict_any rfl rfl (by simp) (show 1 ≤ 15 by decide) ?_
  refine pairTrees_cons_walk (thn (hk.run pins _ σ _ _ I1 (q _ hn)) fun u s1 ⟨x, H1, I2, rx, q1⟩ => thn (hv.run pins s1 σ H1 _ I2 q1) fun w2 s2 ⟨y, H2, I3, ry, kk, b, ex, eb, ed, q2⟩ => pairTrees_nil_walk ?_)
  subst ex
  unfold storeAll
  rw [List.forIn_cons]
  refine wpAny_bind (wpAny_bind (tupDict_store hu I3 ed (by rw [sizeLine_eq]; decide) eb rx ry fun s' I' => wpAny_pure ?_))
  dsimp only
  rw [List.forIn_nil]
  exact wpAny_pure ⟨.ref s.heap.objs.size, _, I', rfl, q2⟩
section
variable {X : Cx} {Z : GH × Hp} {k v : Expr} {Tk Tv : TW} {pos : Pos}
def tDispTW (Tk Tv : TW) : TW := fun S G R => ∀ p, G p = none → Tk S (updG G p (.dT [])) fun w1 G1 => Tv S G1 fun w2 G2 => ∃ c, tkey w1 = some c ∧ G2 p = some (.dT []) ∧ R (.ref p) (updG G2 p (.dT [(c, w2)]))
theorem we_dispT (hu : X.A.units < cLine) (hk : WE X Z k Tk) (hv : WE X Z v Tv) : WE X Z (.Dict [some k] [v] pos) (tDispTW Tk Tv) := (pe_dispT hu hk hv).weak fun σ H Q h => by
  obtain ⟨S, G, R, sr, t, k⟩ := h
  intro p hp
  have f0 : FR G H (updG G p (.dT [])) (upd H p (.dT [])) := .newG hp
  have h0 : RH X.K (upd H p (.dT [])) (updG G p (.dT [])) := sr.rh.newG hp ⟨[], upd_same, .nil⟩
  refine Lf.go (sr.next f0 h0) (t p (sr.rh.free hp)) fun w1 G1 v1 H1 t1 f1 r1 h1 => ?_
  refine Lf.go ((sr.next f0 h0).next f1 h1) t1 fun w2 G2 v2 H2 t2 f2 r2 h2 => ?_
  obtain ⟨c, ec, g2, q⟩ := t2
  obtain ⟨b, rfl, hb⟩ := tkey_val (r1.mono f2 h1) ec
  obtain ⟨kvs, hk, rk⟩ := h2 _ _ g2
  cases rk
  have fp : FR G2 H2 (updG G2 p (.dT [(c, w2)])) (upd H2 p (.dT [(c, v2)])) := .put g2
  exact ⟨c, b, rfl, hb, hk, k _ _ _ _ q (((f0.trans f1).trans f2).trans fp) (.ref _) (h2.put g2 ⟨_, upd_same, .cons ⟨rfl, r2.mono fp h2⟩ .nil⟩)⟩
end
def tPairsW : List (TW × TW) → WSt → GH → (List (W × W) → GH → Prop) → Prop
  | [], _, G, R => R [] G
  | (Tk, Tv) :: r, S, G, R => Tk S G fun w1 G1 => Tv S G1 fun w2 G2 => tPairsW r S G2 fun ps G3 => R ((w1, w2) :: ps) G3
def kPairs : List (W × W) → Option (List (Key × W))
  | [] => some []
  | (k, v) :: r => match k.key?, kPairs r with
    | some c, some m => some ((c, v) :: m)
    | _, _ => none
def lfP {K : PySem.W.Frag} {Z : GH × Hp} (trs : List (TW × TW)) : List (TE × TE) := trs.map fun t => (Lf K Z t.1, Lf K Z t.2)
inductive RPs (K : PySem.W.Frag) (H : Hp) : List (V × V) → List (W × W) → Prop
  | nil : RPs K H [] []
  | cons {p : V × V} {q : W × W} {ps : List (V × V)} {qs : List (W × W)} : RV K H p.1 q.1 → RV K H p.2 q.2 → RPs K H ps qs → RPs K H (p :: ps) (q :: qs)
theorem RPs.len {K : PySem.W.Frag} {H : Hp} : ∀ {ps : List (V × V)} {qs : List (W × W)}, RPs K H ps qs → ps.length = qs.length
  | _, _, .nil => rfl
  | _, _, .cons _ _ t => congrArg (· + 1) t.len
theorem rps_keys {K : PySem.W.Frag} {H : Hp} : ∀ {ps : List (V × V)} {qs : List (W × W)} {kws : List (Key × W)}, RPs K H ps qs → kPairs qs = some kws → ∃ kvs : List (Key × V), ps = kvs.map (fun kv => (kV kv.1, kv.2)) ∧ RKV K H kvs kws
  | _, _, kws, .nil, e => by
    cases e
    exact ⟨[], rfl, .nil⟩
  | p :: ps, q :: qs, kws, .cons a b t, e => by
    obtain ⟨q1, q2⟩ := q
    obtain ⟨p1, p2⟩ := p
    unfold kPairs at e
    split at e
    · rename_i c m e1 e2
      cases e
      obtain ⟨kvs, rfl, r⟩ := rps_keys t e2
      have e3 : p1 = kV c := key_val a e1
      subst e3
      exact ⟨(c, p2) :: kvs, rfl, .cons ⟨rfl, b⟩ r⟩
    · cases e
theorem pairs_run {K : PySem.W.Frag} {Z : GH × Hp} : ∀ (trs : List (TW × TW)) {σ : L2.St} {H : Hp} {S : WSt} {G : GH} {R : List (W × W) → GH → Prop} {Q : List (V × V) → Hp → Prop}, SR K Z σ H S G → tPairsW trs S G R →
    (∀ qs G' ps H', R qs G' → FR G H G' H' → RPs K H' ps qs → RH K H' G' → Q ps H') → tPairs (lfP (K := K) (Z := Z) trs) σ H Q
  | [], σ, H, S, G, R, Q, sr, t, k => k _ _ _ _ t .refl .nil sr.rh
  | (Tk, Tv) :: r, σ, H, S, G, R, Q, sr, t, k => by
    refine Lf.go sr t fun w1 G1 v1 H1 t1 f1 r1 h1 => ?_
    refine Lf.go (sr.next f1 h1) t1 fun w2 G2 v2 H2 t2 f2 r2 h2 => ?_
    exact pairs_run r ((sr.next f1 h1).next f2 h2) t2 fun qs G3 ps H3 q f3 rp h3 => k _ _ _ _ q ((f1.trans f2).trans f3) (.cons ((r1.mono f2 h1).mono f3 h2) (r2.mono f3 h2) rp) h3
def tDispKW (trs : List (TW × TW)) : TW := fun S G R => ∀ p, G p = none → tPairsW trs S (updG G p (.dK [])) fun ps G2 => match kPairs ps with
  | some kws => if kws.length ≤ 15 then G2 p = some (.dK []) ∧ R (.ref p) (updG G2 p (.dK (mergeW [] kws))) else False
  | none => False
section
variable {X : Cx} {Z : GH × Hp} {pos : Pos}
structure WPs (X : Cx) (Z : GH × Hp) (pos : Pos) (keys : List (Option Expr)) (values : List Expr) (trs : List (TW × TW)) : Prop where
  pp : PPs X pos keys values (lfP (K := X.K) (Z := Z) trs)
theorem wps_nil : WPs X Z pos [] [] [] := ⟨pps_nil⟩
theorem wps_cons {k v : Expr} {ks : List (Option Expr)} {vs : List Expr} {Tk Tv : TW} {trs : List (TW × TW)} (hk : WE X Z k Tk) (hv : WE X Z v Tv) (h : WPs X Z pos ks vs trs) : WPs X Z pos (some k :: ks) (v :: vs) ((Tk, Tv) :: trs) := ⟨pps_cons hk hv h.pp⟩
theorem we_dispK {keys : List (Option Expr)} {values : List Expr} {trs : List (TW × TW)} (h : WPs X Z pos keys values trs) (hall : keys.all (·.isSome) = true := by rfl) (hl : keys.length = values.length := by rfl) (h0 : keys ≠ [] := by (intro z; cases z)) (h15 : keys.length ≤ 15 := by decide) :
    WE X Z (.Dict keys values pos) (tDispKW trs) := (pe_disp h.pp hall hl h0 h15).weak fun σ H Q h => by
  obtain ⟨S, G, R, sr, t, k⟩ := h
  intro p hp
  have f0 : FR G H (updG G p (.dK [])) (upd H p (.dK [])) := .newG hp
  have h0 : RH X.K (upd H p (.dK [])) (updG G p (.dK [])) := sr.rh.newG hp ⟨[], upd_same, .nil⟩
  refine pairs_run trs (sr.next f0 h0) (t p (sr.rh.free hp)) fun qs G2 ps H2 q f2 rp h2 => ?_
  split at q
  · rename_i kws e
    split at q
    · rename_i hl
      obtain ⟨g2, q⟩ := q
      obtain ⟨kvs, rfl, rk⟩ := rps_keys rp e
      obtain ⟨kv0, hk, rk0⟩ := h2 _ _ g2
      cases rk0
      have fp : FR G2 H2 (updG G2 p (.dK (mergeW [] kws))) (upd H2 p (.dK (mergeK [] kvs))) := .put g2
      exact ⟨hk, kvs, rfl, by rw [RKV.length rk]; exact hl, k _ _ _ _ q ((f0.trans f2).trans fp) (.ref _) (h2.put g2 ⟨_, upd_same, RKV.mono fp h2 (mergeW_rkv rk .nil)⟩)⟩
    · exact q.elim
  · exact q.elim
end
section
variable {X : Cx}
end
end WL
set_option Elab.async false
set_option linter.all false
set_option maxRecDepth 100000
set_option maxHeartbeats 4000000
namespace WL
open PySem PySem.Spec PyProof PyProof.Rows L2 PySem.W
section
variable {X : Cx} {Z : GH × Hp} {CX : CXT} {k j : Nat} {ps : List Str} {x m cn : Str} {p pos apos : Pos} {e o : Expr} {es : List Expr} {P : SpW} {Ta Tb : TW} {Tr : TWA} {dws : List W} {RX : XS}
def tMethX (c m : Str) (P : SpW) (dws : List W) (RX : XS) (Ta : TW) (Tr : TWA) : TW := fun S G R => Ta S G fun w G1 => match insOf c w G1 with
  | some fs => fs.lookup m = none ∧ Tr S G1 fun ws G2 => P (w :: (ws ++ dws)) G2 R fun c fs G' => RX c fs S G'
  | none => False
theorem we_mR (tk : TX X Z RX) (D : MethD X.prog X.w X.K X.mg X.base (L2.CX X.prog X.w) k cn m ps dws P) {pl : Sem Bool} (hgd : X.A.guards = some []) (hr : Room j X.A) (he : WE X Z o Ta) (ha : WA X Z (e :: es) Tr) (hk : k ≤ j := by decide)
    (hst : starEach (e :: es) X.env = (false, eval e X.env) :: starEach es X.env := by rfl) (hpl : (backTo pos (starEach es X.env)).any (·.1) = false := by rfl)
    (ht : eval (.Call (.Attribute o m apos) (e :: es) [] pos) X.env = (do
      let ov ← eval o X.env
      standAt apos.atName
      let (f, first) ← holding [ov] (getMethod ov m pl)
      callWith pos f first (backTo pos (starEach (e :: es) X.env)) (backToKw pos (keywordEach [] X.env))) := by rfl) :
    WE X Z (.Call (.Attribute o m apos) (e :: es) [] pos) (tMethX cn m P dws RX Ta Tr) := by
  obtain ⟨C, f, fd, dvs, ds, hC, hcls, hm, F, hb, hd, hdw⟩ := D.ex
  refine ⟨fun pins s σ H Q I h => ?_⟩
  obtain ⟨S, G, R, sr, t, kl⟩ := h
  refine PySem.W.methodCall_KW (pl := pl) (thn (he.run pins s σ H (fun x H1 => ∃ a dx fs, x = .ref a ∧ Rd H1 a (.ins C dx fs) ∧ fs.lookup m = none ∧ LfA X.K Z Tr σ H1 fun vs H2 => spL X.K P (.ref a :: (vs ++ dvs)) H2 Q (EW X Z RX σ)) I (Lf.go sr t fun w G1 v H1 t1 f1 r1 h1 => ?_)) fun u s1 ⟨x, H1, I1, rx, a, dx, fs, ex, ea, l, q⟩ => ?_) ht
  · split at t1
    · rename_i fs e
      obtain ⟨hl, t1⟩ := t1
      obtain ⟨a, C', dx, fvs, rfl, hC', ha', rf⟩ := ins_of e r1 h1
      have := hC'.inj hC
      subst this
      have hl' : fvs.lookup m = none := by
        rcases RKV.lookup m rf with ⟨_, z⟩ | ⟨v, w, _, z, _⟩
        · exact z
        · rw [hl] at z; cases z
      refine ⟨a, dx, fvs, rfl, ha', hl', LfA.go (sr.next f1 h1) t1 fun ws G2 vs H2 t2 f2 rs h2 => ?_⟩
      exact ⟨w :: (ws ++ dws), G2, R, _, .cons (r1.mono f2 h1) (rs.append (hdw H2)), h2, t2, fun w G' v H' q f3 rv rh => kl w G' v H' q (f1.trans (f2.trans f3)) rv rh, TX.xl ((sr.next f1 h1).next f2 h2)⟩
    · exact t1.elim
  · subst ex
    obtain rfl : u = Value.ref a := rx
    refine getmeth_rd I1 ea hcls hm l ?_
    refine PySem.W.callWith_K (first := [.ref a]) (h₀ := X.base) I.ok.mod.kin hm.kp (thn (ha.run pos pins s1 σ H1 _ I1 q) fun us s2 ⟨vs, H2, I2, r, q2⟩ => ⟨I2.kIn, ?_⟩) hst hpl
    exact run_gS (us := .ref a :: us) (vs := .ref a :: vs) F hgd (hr.mono hk) hb hd (tk.at σ) I2 (.cons rfl r) q2
end
section
variable {X : Cx} {Z : GH × Hp} {x : Str} {cv : Value} {body suite : List Stmt} {b₀ : Stmt} {np pos pos' : Pos} {hit : Str → Option Bool} {Tb : XS → TWS} {Ts : TWS} {RX : XS}
end
section
variable {X : Cx} {Z : GH × Hp} {o e : Expr} {cn f : Str} {pos pos' : Pos} {Ta Tb : TW}
end
section
variable {X : Cx} {Z : GH × Hp} {x : Str} {kws : List (Str × Int)} {e : Expr} {p apos cpos : Pos} {Ta : TW}
end
end WL
set_option Elab.async false
set_option linter.all false
set_option maxRecDepth 100000
set_option maxHeartbeats 4000000
namespace WL
open PySem PySem.Spec PyProof PyProof.Rows L2 PySem.W
section
variable {P : Program} {w : World} {A : Around} {E : Value → Shared → Prop} {s : Shared}
def SoFar (P : Program) (w : World) (S : Addr) (ks : List (Addr × List Int)) (i : Nat) (h : Heap) : Prop := ∃ L es ep t, SetTR P w h S L es ep t ∧ Got ks i L
theorem SoFar.keep {S : Addr} {ks : List (Addr × List Int)} {i : Nat} {h h' : Heap} (x : SoFar P w S ks i h) (hS : ∀ o, h.get? S = some o → h'.get? S = some o) (hk : ∀ p ∈ ks, IsT P w h' p.2 p.1) : SoFar P w S ks i h' := by
  obtain ⟨L, es, ep, t, R, g⟩ := x
  exact ⟨L, es, ep, t, R.keep hS fun p hp => hk p (List.mem_of_mem_take (g.sub p hp)), g⟩
end
section
variable {X : Cx} {Z : GH × Hp} {a : Expr} {Ta : TW} {p p2 q pos : Pos}
end
end WL
set_option Elab.async false
set_option linter.all false
set_option maxRecDepth 100000
set_option maxHeartbeats 4000000
namespace PySem.W
open PySem PySem.Spec PyProof PyProof.Rows
section
variable {prog : Program} {w : World} {A : Around} {E : Value → Shared → Prop} {s : Shared} {K : Frag} {x C L f : Addr} {h₀ : Heap} {m : Str → Option Value} {ox : Obj} {od : Option Obj} {b tb : Value}
end
end PySem.W
namespace WL
open PySem PySem.Spec PyProof PyProof.Rows L2 PySem.W
section
variable {X : Cx} {cn : Str}
end
end WL
set_option Elab.async false
set_option linter.all false
set_option maxRecDepth 100000
set_option maxHeartbeats 4000000
namespace WL
open PySem PySem.Spec PyProof.Rows L2 PySem.W
end WL
set_option Elab.async false
set_option linter.all false
set_option maxRecDepth 100000
set_option maxHeartbeats 4000000
namespace WL
open PySem PySem.Spec PyProof.Rows L2 PySem.W
inductive Flat : W → Prop
  | non : Flat .non
  | bl (b : Bool) : Flat (.bl b)
  | int (i : Int) : Flat (.int i)
  | str (x : Str) : Flat (.str x)
  | tup (xs : List W) (h : ∀ x ∈ xs, Flat x) : Flat (.tup xs)
theorem flat_ints (ls : List Int) : Flat (.tup (ls.map W.int)) := .tup _ fun x hx => by
  obtain ⟨n, _, rfl⟩ := List.mem_map.mp hx
  exact .int n
section
variable {K : PySem.W.Frag} {H H' : Hp} {G G' G1 G2 : GH}
theorem rvs_flat (k : ∀ b xs, H b = some (.tup xs) → H' b = some (.tup xs)) : ∀ {vs : List V} {ws : List W}, (∀ x ∈ ws, ∀ v, RV K H v x → RV K H' v x) → RVs K H vs ws → RVs K H' vs ws
  | _, _, _, .nil => .nil
  | _, _, h, .cons r t => .cons (h _ List.mem_cons_self _ r) (rvs_flat k (fun x hx => h x (List.mem_cons_of_mem _ hx)) t)
theorem Flat.rv (k : ∀ b xs, H b = some (.tup xs) → H' b = some (.tup xs)) {w : W} (f : Flat w) : ∀ v, RV K H v w → RV K H' v w := by
  induction f with
  | non => intro v r; cases r; exact .non
  | bl b => intro v r; cases r; exact .bl b
  | int b => intro v r; cases r; exact .int b
  | str b => intro v r; cases r; exact .str b
  | tup xs h ih =>
    intro v r
    cases r with
    | tup q rs => exact .tup (k _ _ q) (rvs_flat k ih rs)
theorem fr_none (h : ∀ a o, H a = some o → H' a = some o) : FR (fun _ => none) H (fun _ => none) H' := fun a o e _ => ⟨h a o e, rfl⟩
theorem rh_none : RH K H (fun _ => none) := fun a o e => by cases e
theorem RH.ext (r : RH K H G) (h : ∀ a o, H a = some o → H' a = some o) : RH K H' G := fun a o e => (RO.keep (r a o e) (G := fun _ => none) (fr_none h) rh_none fun u hu => h a u hu)
theorem Paired.set1 {α β : Type} {F : α → β → Prop} : ∀ {l₁ : List α} {l₂ : List β} {i : Nat} {y : β}, Paired F l₁ l₂ → (∀ x, l₁[i]? = some x → F x y) → Paired F l₁ (l₂.set i y)
  | _, _, _, _, .nil, _ => .nil
  | _, _, 0, _, .cons r t, h => .cons (h _ rfl) t
  | _, _, i + 1, _, .cons r t, h => .cons r (Paired.set1 t fun x e => h x (by simpa using e))
theorem FR.none (f : FR G H G1 H') : FR G H (fun _ => none) H' := fun a o e g => ⟨(f a o e g).1, rfl⟩
end
def tKeysL (j : Nat) (f : Str) (T : TW) : TW := fun S G R => ∃ a c fs d kws, S[j]? = some (some (.ref a)) ∧ G a = some (.ins c fs) ∧ (fs.map (·.1)).Nodup ∧ fs.lookup f = some (.ref d) ∧ G d = some (.dK kws) ∧
  T (S.set j (some (.fo c (fs.map fun z => (z.1, if z.1 = f then .fdK kws else z.2))))) (fun _ => none) fun w G2 => ∃ D ws, w = .ref D ∧ G2 = updG (fun _ => none) D (.lst ws) ∧ (∀ x ∈ ws, Flat x) ∧ ∀ p, G p = none → R (.ref p) (updG G p (.lst ws))
section
variable {X : Cx} {Z : GH × Hp} {pos : Pos} {K : PySem.W.Frag}
theorem rkv_at {H : Hp} {f : Str} {d : Addr} {kvs : List (Key × V)} {kws : List (Key × W)} {o : Obj} (hd : H d = some (.frz o (.dK kvs))) (rk : RKV K H kvs kws) : ∀ {fvs : List (Str × V)} {fs : List (Str × W)}, RKV K H fvs fs → (fs.map (·.1)).Nodup → fs.lookup f = some (.ref d) →
    fvs.map (·.1) = (fs.map fun z => (z.1, if z.1 = f then W.fdK kws else z.2)).map (·.1) ∧ RVs K H (fvs.map (·.2)) ((fs.map fun z => (z.1, if z.1 = f then W.fdK kws else z.2)).map (·.2))
  | [], [], _, _, e => by cases e
  | v :: fvs, z :: fs, .cons q t, nd, e => by
    rw [List.map_cons, List.nodup_cons] at nd
    have tail : ∀ {fvs : List (Str × V)} {fs : List (Str × W)}, RKV K H fvs fs → f ∉ fs.map (·.1) → fvs.map (·.1) = (fs.map fun z => (z.1, if z.1 = f then W.fdK kws else z.2)).map (·.1) ∧ RVs K H (fvs.map (·.2)) ((fs.map fun z => (z.1, if z.1 = f then W.fdK kws else z.2)).map (·.2)) := by
      intro fvs
      induction fvs with
      | nil =>
        intro fs r no
        cases r
        exact ⟨rfl, .nil⟩
      | cons v fvs ih =>
        intro fs r no
        cases r with
        | cons q t =>
        rename_i z fs
        have n1 : z.1 ≠ f := fun e => no (by rw [← e]; exact List.mem_cons_self)
        obtain ⟨i1, i2⟩ := ih t fun h => no (List.mem_cons_of_mem _ h)
        refine ⟨by rw [List.map_cons, List.map_cons, List.map_cons, i1, q.1], ?_⟩
        rw [List.map_cons, List.map_cons, List.map_cons, if_neg n1]
        exact .cons q.2 i2
    by_cases h : z.1 = f
    · have e2 : z.2 = .ref d := by
        obtain ⟨z1, z2⟩ := z
        have h : z1 = f := h
        subst h
        rw [List.lookup_cons, beq_self_eq_true] at e
        exact Option.some.inj e
      obtain ⟨i1, i2⟩ := tail t (by rw [← h]; exact nd.1)
      refine ⟨by rw [List.map_cons, List.map_cons, List.map_cons, i1, q.1], ?_⟩
      rw [List.map_cons, List.map_cons, List.map_cons, if_pos h]
      have qv := q.2
      rw [e2] at qv
      have : v.2 = .ref d := by
        cases hv : v.2 with
        | ref a => rw [hv] at qv; cases qv; rfl
        | _ => rw [hv] at qv; cases qv
      rw [this]
      exact .cons (.fdK hd rk.keys rk.vals) i2
    · have e2 : fs.lookup f = some (.ref d) := by
        obtain ⟨z1, z2⟩ := z
        rw [List.lookup_cons] at e
        cases hb : (f == z1) with
        | true => exact absurd (eq_of_beq hb).symm h
        | false => rw [hb] at e; exact e
      obtain ⟨i1, i2⟩ := rkv_at hd rk t nd.2 e2
      refine ⟨by rw [List.map_cons, List.map_cons, List.map_cons, i1, q.1], ?_⟩
      rw [List.map_cons, List.map_cons, List.map_cons, if_neg h]
      exact .cons q.2 i2
theorem ws_setCK {i j : Nat} {f y : Str} {py : Pos} {elt tg iter : Expr} {ifs : List Expr} {scope : Scope} {own : List (Str × Nat)} {spos : Pos} {ti : TIW} {gh : TG} {g : TGW} {tt : TWT} {te : TW} (hc : X.calm = true) (hN : X.N.Nodup) (hy : X.N[i]? = some y) (hyl : X.env.scope.names.lookup y = some .local)
    (hsw : swapsWith (.ListComp elt [⟨tg, iter, ifs, 0⟩] scope pos) (some (.Name y py)) spos.line X.env = pure true) (hi : WI X Z tg iter ti) (ok : BlkOk X.N X.env.scope scope own)
    (gok : GOk X.K Z gh g (own.map (·.2)))
    (hg : ∀ (s : Shared) (H : Hp) (C : Addr) (cl : List (Str × Addr)) (fp : List Addr), PG (X.blk s H scope (compEnvC scope cl C X.env) fp) tg gh) (ht : ∀ (s : Shared) (H : Hp) (C : Addr) (cl : List (Str × Addr)) (fp : List Addr), PTsW (X.blk s H scope (compEnvC scope cl C X.env) fp) Z ifs tt)
    (he : ∀ (s : Shared) (H : Hp) (C : Addr) (cl : List (Str × Addr)) (fp : List Addr), WE (X.blk s H scope (compEnvC scope cl C X.env) fp) Z elt te) (hs : ∀ x, foldedSetIterable iter X.env x = pure x := by intro _; rfl) :
    WS X Z (.Assign [.Name y py] (.ListComp elt [⟨tg, iter, ifs, 0⟩] scope pos) spos) (sSet i (tKeysL j f (tComp ti g tt te (own.map (·.2))))) := (L2.ps_lock (L2.ps_lock (ps_setLc (tt := LfT X.K Z tt) (te := Lf X.K Z te) hc hN hy hyl hsw hi ok hg ht he hs))).weak fun D σ H h => by
  obtain ⟨S, G, DW, sr, t, l⟩ := h
  obtain ⟨a, c, fs, d, kws, hS, ha, nd, hf, hd, t⟩ := t
  obtain ⟨C, dx, fvs, hC, qa, rf⟩ := sr.rh _ _ ha
  obtain ⟨kvs, qd, rk⟩ := sr.rh _ _ hd
  have ne : a ≠ d := fun e => by subst e; rw [ha] at hd; cases hd
  refine ⟨d, .dK kvs, qd, trivial, fun od => ⟨a, .ins C dx fvs, by rw [upd_ne ne]; exact qa, trivial, fun oa => ?_⟩⟩
  -- the heap under both locks
  have f1 : FR G H (offG G d) (upd H d (.frz od (.dK kvs))) := FR.lock hd
  have r1 : RH X.K (upd H d (.frz od (.dK kvs))) (offG G d) := sr.rh.lock hd
  have ha1 : offG G d a = some (.ins c fs) := by rw [offG_ne ne]; exact ha
  have f2 := f1.trans (FR.lock (u := .frz oa (.ins C dx fvs)) ha1)
  have hdl : upd (upd H d (.frz od (.dK kvs))) a (.frz oa (.ins C dx fvs)) d = some (.frz od (.dK kvs)) := by rw [upd_ne (Ne.symm ne)]; exact upd_same
  have hal : upd (upd H d (.frz od (.dK kvs))) a (.frz oa (.ins C dx fvs)) a = some (.frz oa (.ins C dx fvs)) := upd_same
  obtain ⟨k1, k2⟩ := rkv_at (f := f) hdl (rk.mono f2 sr.rh) (rf.mono f2 sr.rh) nd hf
  obtain ⟨v0, hv0, rv0⟩ := sr.get hS
  have ev : v0 = .ref a := by
    cases v0 with
    | ref b => cases rv0; rfl
    | _ => cases rv0
  subst ev
  have sr2 : SR X.K Z σ (upd (upd H d (.frz od (.dK kvs))) a (.frz oa (.ins C dx fvs))) (S.set j (some (.fo c (fs.map fun z => (z.1, if z.1 = f then .fdK kws else z.2))))) (fun _ => none) := by
    refine ⟨(sr.tk.trans f2).none, Paired.set1 (Paired.mapP sr.rs fun ov ow q w e => let ⟨v, h1, h2⟩ := q w e; ⟨v, h1, h2.mono f2 sr.rh⟩) fun ov hov w e => ?_, rh_none⟩
    rw [hv0] at hov
    cases hov
    cases e
    exact ⟨_, rfl, .fo hC hal k1 k2⟩
  refine lfComp gok σ _ _ (Lf.go sr2 t fun w G1 v H1 t1 g1 r1 h1 => ?_)
  obtain ⟨D', ws, rfl, rfl, fl, t1⟩ := t1
  have kp : ∀ b o, upd (upd H d (.frz od (.dK kvs))) a (.frz oa (.ins C dx fvs)) b = some o → H1 b = some o := fun b o e => (g1 b o e rfl).1
  have hD' : upd (upd H d (.frz od (.dK kvs))) a (.frz oa (.ins C dx fvs)) D' = none := by
    cases q : upd (upd H d (.frz od (.dK kvs))) a (.frz oa (.ins C dx fvs)) D' with
    | none => rfl
    | some o => have := (g1 _ _ q rfl).2; rw [updG_same] at this; cases this
  have nDa : D' ≠ a := fun e => by rw [e, hal] at hD'; cases hD'
  have nDd : D' ≠ d := fun e => by rw [e, hdl] at hD'; cases hD'
  have hDH : H D' = none := by rw [upd_ne nDa, upd_ne nDd] at hD'; exact hD'
  have gD : G D' = none := sr.rh.free hDH
  refine ⟨kp _ _ hal, ?_⟩
  refine ⟨by rw [upd_ne (Ne.symm ne)]; exact kp _ _ hdl, ?_⟩
  -- unlocked again
  have kp2 : ∀ b o, H b = some o → upd (upd H1 a (.ins C dx fvs)) d (.dK kvs) b = some o := fun b o e => by
    by_cases hb : b = d
    · subst hb; rw [upd_same]; rw [qd] at e; exact e
    · rw [upd_ne hb]
      by_cases hb2 : b = a
      · subst hb2; rw [upd_same]; rw [qa] at e; exact e
      · rw [upd_ne hb2]
        exact kp b o (by rw [upd_ne hb2, upd_ne hb]; exact e)
  have kt : ∀ b xs, H1 b = some (.tup xs) → upd (upd H1 a (.ins C dx fvs)) d (.dK kvs) b = some (.tup xs) := fun b xs e => by
    have n1 : b ≠ d := fun z => by subst z; rw [kp _ _ hdl] at e; cases e
    have n2 : b ≠ a := fun z => by subst z; rw [kp _ _ hal] at e; cases e
    rw [upd_ne n1, upd_ne n2]; exact e
  obtain ⟨us, hus, rus⟩ := h1 D' (.lst ws) updG_same
  have fr : FR G H (updG G D' (.lst ws)) (upd (upd H1 a (.ins C dx fvs)) d (.dK kvs)) := fun b o e gb => ⟨kp2 b o e, by
    have : b ≠ D' := fun z => by subst z; rw [hDH] at e; cases e
    rw [updG_ne this]; exact gb⟩
  have rh3 : RH X.K (upd (upd H1 a (.ins C dx fvs)) d (.dK kvs)) (updG G D' (.lst ws)) := fun b o e => by
    by_cases hb : b = D'
    · subst hb
      rw [updG_same] at e
      cases e
      exact ⟨us, by rw [upd_ne nDd, upd_ne nDa]; exact hus, rvs_flat kt (fun x hx => (fl x hx).rv kt) rus⟩
    · rw [updG_ne hb] at e
      exact (sr.rh.ext kp2) b o e
  cases r1
  exact l.nx _ _ _ _ (t1 D' gD) ((sr.next fr rh3).set (.ref D')) fr
end
def tAlt (A B : TW) : TW := fun S G R => A S G R ∨ B S G R
theorem we_alt {X : Cx} {Z : GH × Hp} {e : Expr} {A B : TW} (ha : WE X Z e A) (hb : WE X Z e B) : WE X Z e (tAlt A B) := ⟨fun pins s σ H Q I h => by
  obtain ⟨S, G, R, sr, t, k⟩ := h
  rcases t with t | t
  · exact ha.run pins s σ H Q I ⟨S, G, R, sr, t, k⟩
  · exact hb.run pins s σ H Q I ⟨S, G, R, sr, t, k⟩⟩
inductive LockQ (Q : Hp → Prop) : Hp → Prop
  | done {H : Hp} (q : Q H) : LockQ Q H
  | lock {H : Hp} {p : Addr} {u : HO} (h : H p = some u) (m : Mut (some u)) (k : ∀ o, LockQ Q (upd H p (.frz o u))) : LockQ Q H
theorem pe_locks {X : Cx} {e : Expr} {t : TE} (h : PE X e t) : PE X e (fun σ H Q => t σ H fun v H1 => LockQ (Q v) H1) :=
  ⟨fun pins s σ H Q I q => wpAny_mono (h.run pins s σ H _ I q) (fun u s' ⟨v, H1, I1, r, q⟩ => by
    have go : ∀ H1, LockQ (Q v) H1 → Inv X pins σ H1 s' → EP X pins σ Q u s' := by
      intro H1 q
      induction q with
      | done q => intro I1; exact ⟨v, _, I1, r, q⟩
      | lock h m k ih =>
        intro I1
        obtain ⟨o, I2⟩ := I1.lock h m
        exact ih o I2
    exact go H1 q I1) (fun _ _ z => z)⟩
mutual
inductive Deep : GH → W → W → GH → Prop
  | keep {G : GH} {w : W} : Deep G w w G
  | lst {G G' : GH} {p : Addr} {ws ws' : List W} : G p = some (.lst ws) → Deeps (offG G p) ws ws' G' → Deep G (.ref p) (.fl ws') G'
  | dK {G : GH} {p : Addr} {kws : List (Key × W)} : G p = some (.dK kws) → Deep G (.ref p) (.fdK kws) (offG G p)
  | ins {G G' : GH} {p : Addr} {c : Str} {fs : List (Str × W)} {ws' : List W} : G p = some (.ins c fs) → Deeps (offG G p) (fs.map (·.2)) ws' G' → Deep G (.ref p) (.fo c ((fs.map (·.1)).zip ws')) G'
inductive Deeps : GH → List W → List W → GH → Prop
  | nil {G : GH} : Deeps G [] [] G
  | cons {G G1 G2 : GH} {w w' : W} {ws ws' : List W} : Deep G w w' G1 → Deeps G1 ws ws' G2 → Deeps G (w :: ws) (w' :: ws') G2
end
theorem Deeps.len : ∀ {G G' : GH} {ws ws' : List W}, Deeps G ws ws' G' → ws'.length = ws.length
  | _, _, _, _, .nil => rfl
  | _, _, _, _, .cons _ t => congrArg (· + 1) (Deeps.len t)
section
variable {K : PySem.W.Frag}
mutual
theorem Deep.go : ∀ {G G' : GH} {w w' : W}, Deep G w w' G' → ∀ {H : Hp} {v : V} {Q : Hp → Prop}, RV K H v w → RH K H G → (∀ H', FR G H G' H' → RV K H' v w' → RH K H' G' → LockQ Q H') → LockQ Q H
  | _, _, _, _, .keep, _, _, _, rv, rh, k => k _ .refl rv rh
  | _, _, _, _, .lst e ds, H, v, Q, rv, rh, k => by
    cases rv
    obtain ⟨vs, hp, rs⟩ := rh _ _ e
    refine .lock hp trivial fun o => ?_
    have f := FR.lock (u := .frz o (.lst vs)) e (H := H)
    refine Deeps.go ds (rs.mono f rh) (rh.lock e) fun H' f' rs' rh' => ?_
    exact k _ (f.trans f') (.fl (.inl ⟨o, f'.frzO (rh.lock e) upd_same⟩) rs') rh'
  | _, _, _, _, .dK e, H, v, Q, rv, rh, k => by
    cases rv
    obtain ⟨vs, hp, rr⟩ := rh _ _ e
    refine .lock hp trivial fun o => ?_
    exact k _ (FR.lock e) (.fdK upd_same rr.keys (rr.vals.mono (FR.lock e) rh)) (rh.lock e)
  | _, _, _, _, .ins (fs := fs) (ws' := ws') e ds, H, v, Q, rv, rh, k => by
    cases rv
    obtain ⟨C, dx, vs, cc, hp, rr⟩ := rh _ _ e
    refine .lock hp trivial fun o => ?_
    have f := FR.lock (u := .frz o (.ins C dx vs)) e (H := H)
    refine Deeps.go ds (rr.vals.mono f rh) (rh.lock e) fun H' f' rs' rh' => ?_
    have hl := ds.len
    rw [List.length_map] at hl
    have e1 : ((fs.map (·.1)).zip ws').map (·.1) = fs.map (·.1) := by rw [List.map_fst_zip]; rw [List.length_map]; omega
    have e2 : ((fs.map (·.1)).zip ws').map (·.2) = ws' := by rw [List.map_snd_zip]; rw [List.length_map]; omega
    exact k _ (f.trans f') (.fo cc (f'.frzO (rh.lock e) upd_same) (by rw [e1]; exact rr.keys) (by rw [e2]; exact rs')) rh'
theorem Deeps.go : ∀ {G G' : GH} {ws ws' : List W}, Deeps G ws ws' G' → ∀ {H : Hp} {vs : List V} {Q : Hp → Prop}, RVs K H vs ws → RH K H G → (∀ H', FR G H G' H' → RVs K H' vs ws' → RH K H' G' → LockQ Q H') → LockQ Q H
  | _, _, _, _, .nil, _, _, _, .nil, rh, k => k _ .refl .nil rh
  | _, _, _, _, .cons d ds, H, _, Q, .cons r rs, rh, k =>
    Deep.go d r rh fun H1 f1 r1 rh1 => Deeps.go ds (rs.mono f1 rh) rh1 fun H2 f2 rs2 rh2 => k H2 (f1.trans f2) (.cons (r1.mono f2 rh1) rs2) rh2
end
end
def tFzD (T : TW) : TW := fun S G R => T S G fun w G1 => ∃ w' G', Deep G1 w w' G' ∧ R w' G'
theorem we_fzD {X : Cx} {Z : GH × Hp} {e : Expr} {T : TW} (h : WE X Z e T) : WE X Z e (tFzD T) := (pe_locks h).weak fun σ H Q h => by
  obtain ⟨S, G, R, sr, t, k⟩ := h
  refine Lf.go sr t fun w G1 v H1 q f rv rh => ?_
  obtain ⟨w', G', d, q⟩ := q
  exact d.go rv rh fun H' f' rv' rh' => .done (k _ _ _ _ q (f.trans f') rv' rh')
end WL
set_option Elab.async false
set_option linter.all false
set_option maxRecDepth 100000
set_option maxHeartbeats 4000000
namespace WL
open PySem PySem.Spec PyProof.Rows L2
structure KmG (P : Program) (w : World) (K : PySem.W.Frag) (mg : Str → Option Value) (base : Heap) (CX : CXT) (k : Nat) (c : Str) (ps : List Str) (n : Nat) (ks : List Str) (gW : List W → List W → List W) (sp : SpW) : Prop where
  ex : ∃ C f fd g gV, ClsAt K c C ∧ Mk K C f ∧ mg c = some (.ref C) ∧ FnG P w K mg base CX k f fd ps (spL K sp) ∧ KBn K fd ps (n + 1) ks g gV ∧ ∀ H vs zs ws us, RVs K H vs ws → RVs K H zs us → RVs K H (gV vs zs) (gW ws us)
def tMakeKX (c : Str) (n : Nat) (ks : List Str) (P : SpW) (gW : List W → List W → List W) (RX : XS) (Ta Tk : TWA) : TW := fun S G R => Ta S G fun ws G1 => Tk S G1 fun us G2 => ws.length = n ∧ us.length = ks.length ∧
  ∀ x, G2 x = none → P (gW (.ref x :: ws) us) (updG G2 x (.ins c [])) (fun w G3 => w = .non ∧ R (.ref x) G3) fun c fs G' => RX c fs S G'
section
variable {X : Cx} {Z : GH × Hp} {CX : CXT} {k j n : Nat} {f C : Addr} {fd : FuncData} {ps ks : List Str} {sp : Sp} {E : XK} {cn : Str} {p pos : Pos} {e : Expr} {es : List Expr} {kws : List Keyword} {P : SpW} {Tr Tk : TWA} {g : List Value → List Value → List Value} {gV : List V → List V → List V} {gW : List W → List W → List W} {RX : XS}
theorem run_makeNS {pins : List (Addr × Obj)} {σ : L2.St} {H : Hp} {s : Shared} {Q : VK} {us ws : List Value} {vs zs : List V} (M : Mk X.K C f) (F : FnG X.prog X.w X.K X.mg X.base CX k f fd ps sp) (hgd : X.A.guards = some []) (hr : Room (k + 1) X.A) (hb : KBn X.K fd ps (n + 1) ks g gV)
    (hx : PassesAt CX X σ E) (I : Inv X pins σ H s) (r : Vals vs us) (rz : Vals zs ws) (l1 : vs.length = n) (l2 : zs.length = ks.length)
    (h : ∀ x dx, H x = none → H dx = none → dx ≠ x → sp (gV (.ref x :: vs) zs) (upd (upd H dx (.own x)) x (.ins C dx [])) (fun v H2 => v = .non ∧ Q (.ref x) H2) E) :
    wpAny (model X.prog X.w) X.A (call (.ref C) us (ks.zip ws)) (EP X pins σ Q) X.xe s := by
  have wish := h (s.heap.objs.size + 1) s.heap.objs.size (I.hok.fresh (Nat.le_succ _)) (I.hok.fresh (Nat.le_refl _)) (Nat.ne_of_lt (Nat.lt_succ_self _))
  have J := Inv.made (C := C) I
  have rself : Vals (V.ref (s.heap.objs.size + 1) :: vs) (Value.ref (s.heap.objs.size + 1) :: us) := .cons rfl r
  have rall := hb.rel rself rz
  have n1 : (Value.ref (s.heap.objs.size + 1) :: us).length = n + 1 := rself.length.symm.trans (congrArg Nat.succ l1)
  have n2 : ws.length = ks.length := rz.length.symm.trans l2
  refine wpAny_call (make_map (f := f) I.kIn M.makes M.init (beq_iff_eq.mp M.fn) (codeAny_mono (F.goes (out := X.stack) (as := ⟨Value.ref (s.heap.objs.size + 1) :: us, ks.zip ws⟩) (E := E) ?_ (hr.make C us (ks.zip ws)) (J.env0.make C us (ks.zip ws))
    (hb.to _ (Value.ref (s.heap.objs.size + 1) :: us) ws J.kIn n1 n2) rall wish) fun r s' out => ?_))
  · have eg : (Code.builtin "type.__call__" ⟨Value.ref C :: us, ks.zip ws⟩).guards = [] := by first | rfl | simp [Code.guards, Code.isGuard, guardIds]
    unfold Around.under
    dsimp only
    rw [eg, hgd]; rfl
  cases r with
  | error e => exact hx pins _ _ e s' J out
  | ok fl =>
    cases fl with
    | ret u =>
      obtain ⟨v, Hn, J3, rv, ev, q⟩ := J.after out
      subst ev
      exact ⟨rv, ⟨V.ref (s.heap.objs.size + 1), Hn, J3, rfl, q⟩⟩
    | next => exact False.elim out
    | brk => exact False.elim out
    | cont => exact False.elim out
theorem lfMakeK (tk : TX X Z RX) (hC : ClsAt X.K cn C) (hgw : ∀ H vs zs ws us, RVs X.K H vs ws → RVs X.K H zs us → RVs X.K H (gV vs zs) (gW ws us)) {σ : L2.St} {G G2 : GH} {H H2 : Hp} {S : WSt} {R : KW} {Q : VK} {ws us : List W} {vs zs : List V} (sr : SR X.K Z σ H2 S G2) (f : FR G H G2 H2) (rs : RVs X.K H2 vs ws) (rz : RVs X.K H2 zs us)
    (kl : LK X.K G H R Q) (t : ∀ x, G2 x = none → P (gW (.ref x :: ws) us) (updG G2 x (.ins cn [])) (fun w G3 => w = .non ∧ R (.ref x) G3) fun c fs G' => RX c fs S G') :
    ∀ x dx, H2 x = none → H2 dx = none → dx ≠ x → spL X.K P (gV (.ref x :: vs) zs) (upd (upd H2 dx (.own x)) x (.ins C dx [])) (fun v H3 => v = .non ∧ Q (.ref x) H3) (EW X Z RX σ) := fun x dx hx hdx ne => by
  have h2 := sr.rh
  have fa : FR G2 H2 G2 (upd H2 dx (.own x)) := .new hdx
  have ha := h2.new (u := .own x) hdx
  have hx2 : upd H2 dx (.own x) x = none := by rw [upd_ne ne.symm]; exact hx
  have hb := ha.newG (o := .ins cn []) (u := .ins C dx []) hx2 ⟨C, dx, [], hC, upd_same, .nil⟩
  have fb : FR G2 (upd H2 dx (.own x)) (updG G2 x (.ins cn [])) (upd (upd H2 dx (.own x)) x (.ins C dx [])) := .newG hx2
  have fab := fa.trans fb
  exact ⟨_, _, _, _, hgw _ _ _ _ _ (.cons (.ref x) (rs.mono fab h2)) (rz.mono fab h2), hb, t x (h2.free hx), fun w G' v H' q f3 rv rh => by
    obtain ⟨rfl, q⟩ := q
    cases rv
    exact ⟨rfl, kl _ _ _ _ q (f.trans (fab.trans f3)) (.ref x) rh⟩, TX.xl (sr.next fab hb)⟩
theorem we_mkKR (tk : TX X Z RX) (D : KmG X.prog X.w X.K X.mg X.base (L2.CX X.prog X.w) k cn ps n ks gW P) (hgd : X.A.guards = some []) (hr : Room j X.A) (hg : Gl X cn) (ha : WA X Z (e :: es) Tr) (hkw : WKw X Z kws Tk) (hk : k + 1 ≤ j := by decide)
    (hall : (backToKw pos (keywordEach kws X.env)).all (·.1.isSome) = true := by rfl) (hks : (backToKw pos (keywordEach kws X.env)).filterMap (·.1) = ks := by rfl)
    (hdb : (cn == ("__debug__" : Str)) = false := by decide) (he : starEach (e :: es) X.env = (false, eval e X.env) :: starEach es X.env := by rfl)
    (hpl : ((backTo pos (starEach (e :: es) X.env)).any (·.1) || (backToKw pos (keywordEach kws X.env)).any (·.1.isNone)) = false := by rfl) :
    WE X Z (.Call (.Name cn p) (e :: es) kws pos) (tMakeKX cn n ks P gW RX Tr Tk) := by
  obtain ⟨C, f, fd, g, gV, hC, M, hm, F, hb, hgw⟩ := D.ex
  refine ⟨fun pins s σ H Q I h => ?_⟩
  obtain ⟨S, G, R, sr, t, kl⟩ := h
  refine wpAny_Call_Name_kw (ld_glob I hg hm ?_ hdb)
  refine PySem.W.callWith_KW (h₀ := X.base) I.ok.mod.kin M.kp hall (thn (ha.run pos pins s σ H (fun vs H1 => LfA X.K Z Tk σ H1 fun zs H2 => vs.length = n ∧ zs.length = ks.length ∧ ∀ x dx, H2 x = none → H2 dx = none → dx ≠ x → spL X.K P (gV (.ref x :: vs) zs) (upd (upd H2 dx (.own x)) x (.ins C dx [])) (fun v H3 => v = .non ∧ Q (.ref x) H3) (EW X Z RX σ)) I (LfA.go sr t fun ws G1 vs H1 t1 f1 rs h1 => ?_)) fun us s1 ⟨vs, H1, I1, r, q⟩ => ?_) hpl he
  · refine LfA.go (sr.next f1 h1) t1 fun us G2 zs H2 t2 f2 rz h2 => ?_
    exact ⟨by rw [rs.length]; exact t2.1, by rw [rz.length]; exact t2.2.1, lfMakeK tk hC hgw ((sr.next f1 h1).next f2 h2) (f1.trans f2) (rs.mono f2 h1) rz kl t2.2.2⟩
  · refine thn (hkw.run pos pins s1 σ H1 _ I1 q) fun ws s2 ⟨zs, H2, I2, rz, l1, l2, q2⟩ => ⟨I2.kIn, ?_⟩
    rw [hks]
    exact run_makeNS M F hgd (hr.mono hk) hb (tk.at σ) I2 r rz l1 l2 q2
end
section
variable {X : Cx} {Z : GH × Hp} {tg a : Expr} {Ta : TW} {apos cpos : Pos}
end
end WL
set_option Elab.async false
set_option linter.all false
set_option maxRecDepth 100000
set_option maxHeartbeats 4000000
namespace WL
open PySem PySem.Spec PyProof.Rows L2
def lenR : CW := fun ws G R => match ws with
  | [.fdK kws] => R (.int kws.length) G
  | [w] => lenQ [w] G R
  | _ => False
section
variable {X : Cx}
theorem call_lenR : CallW X (.builtin "len") lenR := by
  intro pins s σ H xs us Q I r h
  obtain ⟨ws, G, R, rs, rh, t, k⟩ := h
  match ws, t, rs with
  | [], t, rs => exact t.elim
  | w1 :: w2 :: rest, t, rs => cases w1 <;> exact (show False from t).elim
  | [w], t, rs =>
    cases w with
    | fdK kws =>
      obtain ⟨v, rfl, rv⟩ := rs.one
      cases rv with
      | @fdK a o kvs _ q e rr =>
        obtain ⟨u, rfl, ru⟩ := vals1 r
        cases ru
        have hl : kvs.length = kws.length := by have := congrArg List.length e; simpa using this
        exact d_len I (.inr ⟨o, q⟩) fun t' s' I' => ⟨.int kvs.length, H, I', ⟨t', rfl⟩, by rw [hl]; exact k.here t (.int _) rh⟩
    | _ => exact call_lenQ pins s σ H xs us Q I r ⟨_, G, R, rs, rh, t, k⟩
end
end WL
set_option Elab.async false
set_option linter.all false
set_option maxRecDepth 100000
set_option maxHeartbeats 4000000
namespace WS
open PySem PySem.Spec PyProof.Rows L2 WL
structure FA where
  a : Addr
  d : Addr
  e : Addr
  p : Addr
def FA.ads (x : FA) : List Addr := [x.a, x.d, x.e, x.p]
def wayK (z : Int × List Int) : Key × W := (.inl z.1, cTup z.2)
def retK (z : Int × List Int) : Key × W := (.inl z.1, cTup (backL z.2))
def flF (x : FA) (l : Int) : List (Str × W) := [("letter", .int l), ("ways", .ref x.d), ("returns", .ref x.e), ("pushers", .ref x.p)]
structure FlAt (G : GH) (x : FA) (f : Fl) : Prop where
  a : G x.a = some (.ins "Floor" (flF x f.letter))
  d : G x.d = some (.dK (f.ways.map wayK))
  e : G x.e = some (.dK (f.ways.map retK))
  p : G x.p = some (.lst (f.pushers.map cTup))
def flW (f : Fl) : W := .fo "Floor" [("letter", .int f.letter), ("ways", .fdK (f.ways.map wayK)), ("returns", .fdK (f.ways.map retK)), ("pushers", .fl (f.pushers.map cTup))]
def FlV (G : GH) (w : W) (f : Fl) : Prop := (∃ x, w = .ref x.a ∧ FlAt G x f) ∨ w = flW f
theorem FlAt.of {G G' : GH} {x : FA} {f : Fl} (h : FlAt G x f) (k : ∀ y ∈ x.ads, G' y = G y) : FlAt G' x f :=
  ⟨by rw [k _ (by simp [FA.ads])]; exact h.a, by rw [k _ (by simp [FA.ads])]; exact h.d, by rw [k _ (by simp [FA.ads])]; exact h.e, by rw [k _ (by simp [FA.ads])]; exact h.p⟩
theorem val_way (W : List (Int × List Int)) (k : Int) : valW (W.map wayK) (.inl k) = (W.lookup k).map cTup := by
  induction W with
  | nil => rfl
  | cons z W ih =>
    unfold valW at ih ⊢
    rw [List.map_cons, List.find?_cons]
    obtain ⟨a, w⟩ := z
    rw [List.lookup_cons]
    by_cases h : a = k
    · subst h
      rw [beq_self_eq_true]
      have : decide ((wayK (a, w)).1 = (Sum.inl a : Key)) = true := decide_eq_true rfl
      rw [this]; rfl
    · have h1 : (k == a) = false := by
        cases e : (k == a) with
        | false => rfl
        | true => exact absurd (eq_of_beq e).symm h
      have h2 : decide ((wayK (a, w)).1 = (Sum.inl k : Key)) = false := decide_eq_false fun e => h (Sum.inl.inj e)
      rw [h1, h2]; exact ih
theorem val_ret (W : List (Int × List Int)) (k : Int) : valW (W.map retK) (.inl k) = (W.lookup k).map fun w => cTup (backL w) := by
  induction W with
  | nil => rfl
  | cons z W ih =>
    unfold valW at ih ⊢
    rw [List.map_cons, List.find?_cons]
    obtain ⟨a, w⟩ := z
    rw [List.lookup_cons]
    by_cases h : a = k
    · subst h
      rw [beq_self_eq_true]
      have : decide ((retK (a, w)).1 = (Sum.inl a : Key)) = true := decide_eq_true rfl
      rw [this]; rfl
    · have h1 : (k == a) = false := by
        cases e : (k == a) with
        | false => rfl
        | true => exact absurd (eq_of_beq e).symm h
      have h2 : decide ((retK (a, w)).1 = (Sum.inl k : Key)) = false := decide_eq_false fun e => h (Sum.inl.inj e)
      rw [h1, h2]; exact ih
theorem put_new {kws : List (Key × W)} {k : Key} {v : W} (h : valW kws k = none) : putW kws k v = kws ++ [(k, v)] := by
  unfold putW
  rw [if_neg]
  intro q
  obtain ⟨z, hz, e⟩ := List.any_eq_true.mp q
  unfold valW at h
  rw [Option.map_eq_none_iff, List.find?_eq_none] at h
  exact h z hz e
theorem inS_dK {n : Bool} {k : Int} {d : Addr} {kws : List (Key × W)} {G : GH} {R : KW} (h : G d = some (.dK kws)) (q : R (.bl (n != (valW kws (.inl k)).isSome)) G) : InS n (.int k) (.ref d) G R := ⟨by
  unfold inW
  dsimp only
  rw [h]
  refine ⟨valW kws (.inl k), ?_, q⟩
  unfold dgetW
  rw [h]; rfl⟩
theorem dget_dK {k : Int} {d : Addr} {kws : List (Key × W)} {G : GH} (h : G d = some (.dK kws)) : dgetW d (.int k) G = some (valW kws (.inl k)) := by
  unfold dgetW
  rw [h]; rfl
def SeqAt2 (G : GH) (cw : W) (ws : List W) : Prop := cw = .fl ws ∨ ∃ c, cw = .ref c ∧ G c = some (.lst ws)
theorem cut_app (a b : List W) : cutG (a ++ b) (some (a.length : Nat)) none = b := by
  unfold cutG HT.sIx
  simp
  rw [if_neg (by omega)]
  simp
theorem flv_of {G : GH} : ∀ {xs : List FA} {fs : List Fl}, Paired (FlAt G) xs fs → Paired (FlV G) (xs.map fun x => W.ref x.a) fs
  | _, _, .nil => .nil
  | _, _, .cons h t => .cons (.inl ⟨_, rfl, h⟩) (flv_of t)
theorem Comp.fls {n : Int} : ∀ {fs : List Fl} {ah : List Int}, Comp n ah fs → ∀ f ∈ fs, LetOf n f.letter ∧ ∀ k w, (k, w) ∈ f.ways → TurnOf n w
  | [], _, _ => fun f h => by cases h
  | f :: fs, ah, C => fun g h => by
    rcases List.mem_cons.mp h with rfl | h
    · exact ⟨C.1.lt, fun k w hw => (C.1.way k w hw).1⟩
    · exact C.2.2.2.fls g h
theorem at_mid (x1 x2 : List FA) (x : FA) : atI ((x1 ++ x :: x2).map fun x => W.ref x.a) (x1.length : Nat) = some (.ref x.a) := by
  unfold atI ixN
  rw [List.length_map, List.length_append, List.length_cons]
  simp
  rw [if_pos (by omega)]
  simp
theorem sz2L (a b : W) : [a, b].length ≤ sizeLine := by rw [sizeLine_eq]; show 2 ≤ _; decide
def lineW (z : Int × List Int) : W := .tup [.int z.1, cTup z.2]
theorem flat_line (z : Int × List Int) : Flat (lineW z) := .tup _ fun x hx => by
  rcases List.mem_cons.mp hx with rfl | hx
  · exact .int _
  · rw [List.mem_singleton.mp hx]; exact flat_ints _
theorem dat_line (G : GH) (z : Int × List Int) : Dat G (lineW z) := dat_tup (B := 40) (fun x hx => by
  rcases List.mem_cons.mp hx with rfl | hx
  · exact ⟨_, .int _, Nat.zero_le _⟩
  · rw [List.mem_singleton.mp hx]; exact ⟨_, .tup (PDs.ints z.2), by rw [PyData.depth, WL.depthAll_ints]; decide⟩) (by decide)
theorem depth_list {ds : List PyData} (h : ∀ d ∈ ds, d.depth ≤ 50) : PyData.depthAll ds ≤ 50 := by
  induction ds with
  | nil => exact Nat.zero_le _
  | cons d ds ih =>
    rw [PyData.depthAll]
    have h1 := h d List.mem_cons_self
    have h2 := ih fun x hx => h x (List.mem_cons_of_mem _ hx)
    omega
theorem eq_rNil {n : Bool} {p : Addr} {ws : List W} {G : GH} {R : KW} (hp : G p = some (.lst ws)) (h : ∀ x ∈ ws, Dat G x) (k : R (.bl (n != decide (ws = []))) G) : EqS n (.ref p) (.fl []) G R := by
  obtain ⟨ds, pd, hd⟩ := dats h
  refine ⟨.list ds, .list [], .lst hp pd, .fl .nil, ?_, ?_⟩
  · rw [PyData.depth]
    have := depth_list hd
    omega
  · cases pd with
    | nil => exact k
    | cons a b => exact k
theorem fls_of {G G' : GH} : ∀ {xs : List FA} {fs : List Fl}, Paired (FlAt G) xs fs → (∀ y ∈ xs.flatMap FA.ads, G' y = G y) → Paired (FlAt G') xs fs
  | _, _, .nil, _ => .nil
  | _, _, .cons h t, k => .cons (h.of fun y hy => k y (by rw [List.flatMap_cons]; exact List.mem_append.mpr (.inl hy))) (fls_of t fun y hy => k y (by rw [List.flatMap_cons]; exact List.mem_append.mpr (.inr hy)))
theorem FlAt.some {G : GH} {x : FA} {f : Fl} (h : FlAt G x f) {y : Addr} (hy : y ∈ x.ads) : ∃ o, G y = some o := by
  simp only [FA.ads, List.mem_cons, List.not_mem_nil, or_false] at hy
  rcases hy with rfl | rfl | rfl | rfl
  · exact ⟨_, h.a⟩
  · exact ⟨_, h.d⟩
  · exact ⟨_, h.e⟩
  · exact ⟨_, h.p⟩
theorem fls_some {G : GH} : ∀ {xs : List FA} {fs : List Fl}, Paired (FlAt G) xs fs → ∀ y ∈ xs.flatMap FA.ads, ∃ o, G y = some o
  | _, _, .nil, y, h => by cases h
  | _, _, .cons h t, y, hy => by
    rw [List.flatMap_cons] at hy
    rcases List.mem_append.mp hy with hy | hy
    · exact h.some hy
    · exact fls_some t y hy
def mixG (ads : List Addr) (G' G : GH) : GH := fun y => if y ∈ ads then G' y else G y
theorem mix_in {ads : List Addr} {G' G : GH} {y : Addr} (h : y ∈ ads) : mixG ads G' G y = G' y := if_pos h
theorem mix_out {ads : List Addr} {G' G : GH} {y : Addr} (h : y ∉ ads) : mixG ads G' G y = G y := if_neg h
theorem mix_ext {ads : List Addr} {G' G : GH} (h : ∀ y o, y ∉ ads → G y = some o → G' y = some o) : ExtG (mixG ads G' G) G' := fun y o e => by
  by_cases hy : y ∈ ads
  · rwa [mix_in hy] at e
  · rw [mix_out hy] at e; exact h y o hy e
def initF (many l : Int) : Fl := ⟨l, [(l, stillL many)], []⟩
theorem comp_init {n : Int} (h0 : 1 ≤ n) (h4 : n ≤ 400) : ∀ (ls ah : List Int), (∀ l ∈ ah ++ ls, LetOf n l) → (∀ k, 1 ≤ k → k ≤ n → ∃ l ∈ ah ++ ls, absI l = k) → Comp n ah (ls.map (initF n))
  | [], ah, hl, hc => fun t tt fx => turn_ext tt (still_turn h0 h4) fun k k0 k1 => by
    obtain ⟨l, hm, e⟩ := hc k k0 k1
    rw [List.append_nil] at hm hl
    have h1 := fx l hm
    have hk := LetOf.ofPos k0 k1
    rw [go_still hk]
    rcases absI_eq (a := l) (b := k) (by rw [e]; unfold absI; rw [if_neg (by omega)]) with z | z
    · rw [← z]; exact h1
    · rw [z, goI_neg hk.1] at h1; omega
  | l :: ls, ah, hl, hc => by
    have ll := hl l (by simp)
    refine ⟨⟨h0, h4, ll, fun x hx => hl x (by simp [hx]), by simp [initF], ?_, fun k w h => ?_, fun p hp => (by cases hp)⟩, fun k w h p hp => (by cases hp), fun p hp => ?_, comp_init h0 h4 ls (l :: ah) (fun x hx => hl x (by simp only [List.cons_append, List.mem_cons, List.mem_append] at hx ⊢; rcases hx with h | h | h <;> simp [h])) fun k k0 k1 => ?_⟩
    · show List.lookup l [(l, stillL n)] = _
      rw [List.lookup_cons, beq_self_eq_true]
    · obtain ⟨rfl, rfl⟩ := Prod.mk.inj (List.mem_singleton.mp h)
      exact ⟨still_turn h0 h4, go_still ll, fun x hx => go_still (hl x (by simp [hx])), .one⟩
    · cases ls with
      | nil => cases hp
      | cons a b => cases hp
    · obtain ⟨x, hx, e⟩ := hc k k0 k1
      exact ⟨x, by simp only [List.cons_append, List.mem_cons, List.mem_append] at hx ⊢; rcases hx with h | h | h <;> simp [h], e⟩
theorem bd_init {n : Int} : ∀ ls : List Int, Bd (ls.map (initF n)) ∧ MW (ls.map (initF n)) = ls.length
  | [] => ⟨trivial, rfl⟩
  | l :: ls => by
    obtain ⟨i1, i2⟩ := bd_init (n := n) ls
    have m1 : MW ((l :: ls).map (initF n)) = 1 + MW (ls.map (initF n)) := by unfold MW; rw [List.map_cons, List.map_cons, List.sum_cons]; rfl
    refine ⟨⟨?_, i1⟩, by rw [m1, i2, List.length_cons]; omega⟩
    show 0 + (initF n l :: ls.map (initF n)).length ≤ MW ((l :: ls).map (initF n))
    rw [m1, i2, List.length_cons, List.length_map]; omega
def lettersC (many : Int) (fl : List Int) : List Int := fl ++ (stillL many).filter fun k => !decide (k ∈ absL fl)
theorem lettersC_let {many : Int} {fl : List Int} (h0 : 1 ≤ many) (hf : ∀ l ∈ fl, LetOf many l) : ∀ l ∈ lettersC many fl, LetOf many l := fun l hl => by
  rcases List.mem_append.mp hl with h | h
  · exact hf l h
  · have := rgI_mem.mp (List.mem_filter.mp h).1
    exact LetOf.ofPos this.1 (by omega)
theorem lettersC_cover {many : Int} {fl : List Int} : ∀ k, 1 ≤ k → k ≤ many → ∃ l ∈ lettersC many fl, absI l = k := fun k h0 h1 => by
  by_cases h : k ∈ absL fl
  · obtain ⟨l, hl, e⟩ := List.mem_map.mp h
    exact ⟨l, List.mem_append.mpr (.inl hl), e⟩
  · exact ⟨k, List.mem_append.mpr (.inr (List.mem_filter.mpr ⟨rgI_mem.mpr ⟨h0, by omega⟩, by rw [decide_eq_false h]; rfl⟩)), by unfold absI; rw [if_neg (by omega)]⟩
theorem lettersC_nd {many : Int} {fl : List Int} (h0 : 1 ≤ many) (nd : (absL fl).Nodup) : (absL (lettersC many fl)).Nodup := by
  unfold lettersC absL
  rw [List.map_append]
  refine List.nodup_append.mpr ⟨nd, ?_, fun a ha b hb e => ?_⟩
  · have : ((stillL many).filter fun k => !decide (k ∈ absL fl)).map absI = (stillL many).filter fun k => !decide (k ∈ absL fl) := by
      conv => rhs; rw [← List.map_id ((stillL many).filter fun k => !decide (k ∈ absL fl))]
      refine List.map_congr_left fun k hk => ?_
      have := rgI_mem.mp (List.mem_filter.mp hk).1
      unfold absI; rw [if_neg (by omega)]; rfl
    rw [this]
    exact List.Nodup.sublist List.filter_sublist (rgI_nodup 1 (many + 1))
  · subst e
    obtain ⟨k, hk, e⟩ := List.mem_map.mp hb
    have h1 := rgI_mem.mp (List.mem_filter.mp hk).1
    have h2 := (List.mem_filter.mp hk).2
    have e2 : k = a := by rw [← e]; unfold absI; rw [if_neg (by omega)]
    subst e2
    have h3 : k ∈ absL fl := ha
    rw [decide_eq_true h3] at h2
    cases h2
theorem lettersC_len {many : Int} {fl : List Int} (h0 : 1 ≤ many) (hf : ∀ l ∈ fl, LetOf many l) (nd : (absL fl).Nodup) : ((lettersC many fl).length : Int) ≤ many := len_le_of_abs (by omega) (lettersC_let h0 hf) (lettersC_nd h0 nd)
abbrev SeqI (G : GH) (ls : List Int) (w : W) : Prop := itemsW w G = some (ls.map W.int)
theorem val_known {fl : List Int} {k : Int} : (valW ((absL fl).map fun n => ((Sum.inl n : Key), W.bl true)) (.inl k)).isSome = decide (k ∈ absL fl) := by
  generalize absL fl = ns
  induction ns with
  | nil => rfl
  | cons n ns ih =>
    unfold valW at ih ⊢
    rw [List.map_cons, List.find?_cons]
    by_cases h : n = k
    · subst h
      rw [show decide (((Sum.inl n : Key), W.bl true).1 = (Sum.inl n : Key)) = true from decide_eq_true rfl, decide_eq_true List.mem_cons_self]; rfl
    · rw [show decide (((Sum.inl n : Key), W.bl true).1 = (Sum.inl k : Key)) = false from decide_eq_false fun e => h (Sum.inl.inj e)]
      dsimp only
      rw [ih]
      by_cases h2 : k ∈ ns
      · rw [decide_eq_true h2, decide_eq_true (List.mem_cons_of_mem _ h2)]
      · rw [decide_eq_false h2, decide_eq_false fun z => (List.mem_cons.mp z).elim (fun e => h e.symm) h2]
theorem nodup_inl {c : W} {ns : List Int} (h : ns.Nodup) : (ns.map ((fun z : Key × W => z.1) ∘ fun n => ((Sum.inl n : Key), c))).Nodup := by
  unfold List.Nodup
  rw [List.pairwise_map]
  exact h.imp fun hne e => hne (Sum.inl.inj e)
theorem grow_let : ∀ {a b : List Fl}, GrowL a b → b.map (·.letter) = a.map (·.letter)
  | [], [], _ => rfl
  | _ :: _, _ :: _, h => by rw [List.map_cons, List.map_cons, h.1.lt, grow_let h.2]
  | [], _ :: _, h => h.elim
  | _ :: _, [], h => h.elim
abbrev SeqC (G : GH) (cs : List (List Int)) (w : W) : Prop := itemsW w G = some (cs.map cTup)
theorem items_upd {w : W} {G : GH} {ws : List W} {g : Addr} {o : GO} {c : Str} {fs : List (Str × W)} (h : itemsW w G = some ws) (hg : G g = some (.ins c fs)) : itemsW w (updG G g o) = some ws := by
  rcases items_cases h with rfl | rfl | rfl | ⟨p, rfl, hp⟩
  · rfl
  · rfl
  · rfl
  · have : p ≠ g := fun e => by subst e; rw [hg] at hp; cases hp
    unfold itemsW
    dsimp only
    rw [updG_ne this, hp]
def truthsB : W → Bool
  | .int i => decide (1 ≤ i) && decide (i ≤ 12)
  | _ => false
def wishMk (many : Int) (w : W) (G : GH) (A B C : Prop) : Prop := match itemsW w G with
  | none => C
  | some ws => if 60 < ws.length then B else if ws.all (turnB many) = true then A else C
def wishLt (many : Int) (w : W) (G : GH) (A B : Prop) : Prop := match itemsW w G with
  | none => B
  | some ws => if ws.all (letterB many) = true then A else B
structure AskL (G : GH) (w : W) : Prop where
  ty : tyW w G ≠ none
  it : ∀ ws, itemsW w G = some ws → ws.length ≤ 100000 ∧ ∀ x ∈ ws, Ask G x
theorem ty_seq {G : GH} {w : W} {t : Ty} (h : tyW w G = some t) : (isaT t .li || isaT t .tu) = (itemsW w G).isSome := by
  cases w with
  | ref p =>
    unfold tyW at h
    unfold itemsW
    dsimp only at h ⊢
    cases e : G p with
    | none => rw [e] at h; cases h
    | some o =>
      rw [e] at h
      cases o with
      | lst ws => cases h; rfl
      | dK ws => cases h; rfl
      | dT ws => cases h; rfl
      | _ => cases h
  | ty n => cases h
  | fdT kws => cases h
  | fo c fs => cases h
  | ex c fs => cases h
  | lam f c q => cases h
  | _ => cases h; rfl
theorem isi2W_of {T U : Ty} {w : W} {G : GH} {t : Ty} {R : KW} (h : tyW w G = some t) (k : R (.bl (isaT t T || isaT t U)) G) : isi2W T U w G R := by
  unfold isi2W
  rw [h]
  exact k
theorem bls_map {ws : List W} {f : W → Bool} : blsOf (ws.map fun x => W.bl (f x)) = some (ws.map f) := by
  have := blsOf_map (ws.map f)
  rwa [List.map_map] at this
theorem all_idB {ws : List W} {f : W → Bool} : ((ws.map f).all fun b => b) = ws.all f := by rw [List.all_map]; rfl
def intOf : W → Int
  | .int i => i
  | _ => 0
def grF (many : Int) (fw : W) (ps : List (List Int)) (ch : List Fl) : List (Str × W) := [("many", .int many), ("firsts", fw), ("pushers", .fl (ps.map cTup)), ("chain", .fl (ch.map flW))]
def makersL (many : Int) (ms : List (List Int)) : List (List Int) := (dedX [] ms).filter fun t => !decide (t = stillL many)
structure GrOk (many : Int) (fl : List Int) (ps : List (List Int)) (ch : List Fl) : Prop where
  h0 : 1 ≤ many
  h12 : many ≤ 12
  hf : ∀ l ∈ fl, LetOf many l
  nd : (absL fl).Nodup
  tp : ∀ t ∈ ps, TurnOf many t
  ns : ∀ t ∈ ps, t ≠ stillL many
  pn : ps.Nodup
  pl : ps.length ≤ 60
  C : Comp many [] ch
  lt : ch.map (·.letter) = lettersC many fl
  rp : ∀ t ∈ ps, Rep many ch t
  np : ∀ p ∈ nextP ch, p ∈ ps
theorem GrOk.gen {many : Int} {fl : List Int} {ps : List (List Int)} {ch : List Fl} (O : GrOk many fl ps ch) {t : List Int} (tt : TurnOf many t) : Rep many ch t ↔ Gen many ps t := by
  have h0 := O.h0
  have h4 : many ≤ 400 := by have := O.h12; omega
  constructor
  · intro r
    exact ((rep_gen h0 h4 O.C tt).mp r).mono O.np
  · intro g
    refine (rep_gen h0 h4 O.C tt).mpr (g.sub h0 h4 (fun p hp => (O.C.psh p hp).1) fun p hp => ?_)
    exact (rep_gen h0 h4 O.C (O.tp p hp)).mp (O.rp p hp)
theorem makers_gen {many : Int} {ms : List (List Int)} (h0 : 1 ≤ many) (h4 : many ≤ 400) (ht : ∀ t ∈ ms, TurnOf many t) {t : List Int} : Gen many (makersL many ms) t ↔ Gen many ms t := by
  constructor
  · intro g
    refine g.mono fun p hp => ?_
    exact ((dedX_mem _ _ _).mp (List.mem_filter.mp hp).1).resolve_left (by simp)
  · intro g
    refine g.sub h0 h4 (fun p hp => ht p (((dedX_mem _ _ _).mp (List.mem_filter.mp hp).1).resolve_left (by simp))) fun p hp => ?_
    by_cases e : p = stillL many
    · rw [e]; exact .one
    · exact Gen.mem (fun p hp => ht p (((dedX_mem _ _ _).mp (List.mem_filter.mp hp).1).resolve_left (by simp))) (List.mem_filter.mpr ⟨(dedX_mem _ _ _).mpr (.inr hp), by rw [decide_eq_false e]; rfl⟩)
def wishGr (mw kw bw : W) (G : GH) (A : Prop) (E : Str → Prop) : Prop :=
  if truthsB mw = true then wishMk (intOf mw) kw G (wishLt (intOf mw) bw G (∀ ls, itemsW bw G = some (ls.map W.int) → if (absL ls).Nodup then A else E "NoLetter") (E "NoLetter")) (E "TooMany") (E "NoTurn") else E "NoProblem"
theorem turns_all {many : Int} : ∀ {ws : List W}, ws.all (turnB many) = true → ∃ ms : List (List Int), ws = ms.map cTup ∧ ∀ t ∈ ms, TurnOf many t
  | [], _ => ⟨[], rfl, fun t h => by cases h⟩
  | w :: ws, h => by
    rw [List.all_cons, Bool.and_eq_true] at h
    obtain ⟨ls, e, tt⟩ := turn_of_yes h.1
    obtain ⟨ms, e2, h2⟩ := turns_all h.2
    exact ⟨ls :: ms, by rw [e, e2]; rfl, fun t ht => by
      rcases List.mem_cons.mp ht with rfl | ht
      · exact tt
      · exact h2 t ht⟩
theorem letters_all {many : Int} : ∀ {ws : List W}, ws.all (letterB many) = true → ∃ ls : List Int, ws = ls.map W.int ∧ ∀ l ∈ ls, LetOf many l
  | [], _ => ⟨[], rfl, fun l h => by cases h⟩
  | x :: xs, h => by
    rw [List.all_cons, Bool.and_eq_true] at h
    obtain ⟨ls, e, hl⟩ := letters_all h.2
    cases x with
    | int i =>
      have hi := h.1
      unfold letterB at hi
      dsimp only at hi
      rw [Bool.and_eq_true, decide_eq_true_iff, decide_eq_true_iff] at hi
      exact ⟨i :: ls, by rw [e]; rfl, fun l hm => by
        rcases List.mem_cons.mp hm with rfl | hm
        · exact hi
        · exact hl l hm⟩
    | _ => cases h.1
theorem dedI_lt {ns : List Int} : (dedI ns).length < ns.length ↔ ¬ ns.Nodup := by
  constructor
  · intro h nd
    rw [dedI_self nd] at h; omega
  · intro h
    refine Nat.lt_of_le_of_ne (dedI_len ns) fun e => h ?_
    have sub : ∀ {xs : List Int}, xs.length ≤ (dedI xs).length → xs.Nodup := by
      intro xs
      induction xs with
      | nil => intro _; exact .nil
      | cons x xs ih =>
        intro hl
        have hx : x ∉ xs := fun hx => by
          have := nodup_sub_len (dedI (x :: xs)) xs (dedI_nodup _) fun a ha => by
            rcases List.mem_cons.mp (dedI_mem.mp ha) with rfl | ha
            · exact hx
            · exact ha
          rw [List.length_cons] at hl; omega
        refine List.nodup_cons.mpr ⟨hx, ih ?_⟩
        have := nodup_sub_len (dedI (x :: xs)) (x :: dedI xs) (dedI_nodup _) fun a ha => by
          rcases List.mem_cons.mp (dedI_mem.mp ha) with rfl | ha
          · exact List.mem_cons_self
          · exact List.mem_cons_of_mem _ (dedI_mem.mpr ha)
        rw [List.length_cons] at hl this; omega
    exact sub (by omega)
theorem deeps_keep {G : GH} : ∀ ws : List W, Deeps G ws ws G
  | [] => .nil
  | _ :: ws => .cons .keep (deeps_keep ws)
def offs : GH → List Addr → GH
  | G, [] => G
  | G, a :: as => offs (offG G a) as
theorem offs_out {a : Addr} : ∀ {as : List Addr} {G : GH}, a ∉ as → offs G as a = G a
  | [], _, _ => rfl
  | b :: as, G, h => by
    have h1 : a ≠ b := fun e => h (by rw [e]; exact List.mem_cons_self)
    show offs (offG G b) as a = _
    rw [offs_out fun z => h (List.mem_cons_of_mem _ z), offG_ne h1]
theorem deep_fl {G : GH} {x : FA} {f : Fl} (h : FlAt G x f) (nd : x.ads.Nodup) : Deep G (.ref x.a) (flW f) (offs G x.ads) := by
  unfold FA.ads at nd
  simp only [List.nodup_cons, List.mem_cons, List.not_mem_nil, or_false, not_or, not_false_eq_true, true_and] at nd
  obtain ⟨⟨n1, n2, n3⟩, ⟨n4, n5⟩, n6, _⟩ := nd
  exact .ins h.a (.cons .keep (.cons (.dK (by rw [offG_ne (Ne.symm n1)]; exact h.d)) (.cons (.dK (by rw [offG_ne (Ne.symm n4), offG_ne (Ne.symm n2)]; exact h.e)) (.cons (.lst (by rw [offG_ne (Ne.symm n6), offG_ne (Ne.symm n5), offG_ne (Ne.symm n3)]; exact h.p) (deeps_keep _)) .nil))))
theorem deeps_fls : ∀ {G : GH} {xs : List FA} {fs : List Fl}, Paired (FlAt G) xs fs → (xs.flatMap FA.ads).Nodup → Deeps G (xs.map fun x => W.ref x.a) (fs.map flW) (offs G (xs.flatMap FA.ads))
  | _, _, _, .nil, _ => .nil
  | G, x :: xs, f :: fs, .cons h t, nd => by
    rw [List.flatMap_cons] at nd ⊢
    obtain ⟨n1, n2, n3⟩ := List.nodup_append.mp nd
    have e : ∀ (as bs : List Addr) (G : GH), offs G (as ++ bs) = offs (offs G as) bs := by
      intro as
      induction as with
      | nil => intro bs G; rfl
      | cons a as ih => intro bs G; exact ih bs _
    rw [e]
    exact .cons (deep_fl h n1) (deeps_fls (fls_of t fun y hy => offs_out fun z => n3 y z y hy rfl) n2)
theorem deep_chain {G : GH} {c : Addr} {xs : List FA} {fs : List Fl} (hc : G c = some (.lst (xs.map fun x => .ref x.a))) (h : Paired (FlAt G) xs fs) (nd : (c :: xs.flatMap FA.ads).Nodup) : Deep G (.ref c) (.fl (fs.map flW)) (offs G (c :: xs.flatMap FA.ads)) := by
  rw [List.nodup_cons] at nd
  exact .lst hc (deeps_fls (fls_of h fun y hy => offG_ne fun e => nd.1 (e ▸ hy)) nd.2)
abbrev N_composed : List Str := ["one", "other", "letter"]
structure P_composed (ws : List W) (G : GH) (R : KW) (RX : XW) : Prop where
  ex : ∃ (many : Int) (a c : List Int), ws = [cTup a, cTup c] ∧ (TurnOf many a) ∧ (TurnOf many c) ∧ (R (cTup (thenL a c)) G)
theorem len_composed : ∀ ws G R RX, P_composed ws G R RX → ws.length = ["one", "other"].length := by
  rintro ws G R RX ⟨⟨_, _, _, rfl, _, _, _⟩⟩; rfl
theorem p_composed {many : Int} {a c : List Int} {G : GH} {R : KW} {RX : XW} (ta : TurnOf many a) (tc : TurnOf many c) (q : R (cTup (thenL a c)) G) : P_composed [cTup a, cTup c] G R RX := ⟨many, a, c, rfl, ta, tc, q⟩
def T_composed : TWS :=
  (sRet (tCF fTup (tCompI (tISeq (tV 0)) (gN 2) tYesW (tCall0 P_led [] (tCo (tV 1) (tCo (tV 2) tN))) [2])))
theorem rd_composed (ws : List W) (G : GH) (R : KW) (RX : XW) (h : P_composed ws G R RX) : T_composed { nx := fun _ G' => fgt R .non G', rt := fgt R } (startW N_composed ws) G := by
  obtain ⟨many, a, c, rfl, ta, tc, q⟩ := h
  have la := ta.len
  have h4 := ta.h4
  conv => whnf
  refine compW_pure (f := W.int) (v := fun l => W.int (goI c l)) trivial a [] (by rw [sizeLine_eq]; simp; omega) (fun l hm R' q' => ?_) ?_
  · exact p_led tc (ta.mem hm) q'
  · rw [List.nil_append, show (a.map fun l => W.int (goI c l)) = (thenL a c).map W.int by unfold thenL; rw [List.map_map]; rfl]
    exact ret q
abbrev N_inverted : List Str := ["turn", "froms", "k", "to"]
structure P_inverted (ws : List W) (G : GH) (R : KW) (RX : XW) : Prop where
  ex : ∃ (many : Int) (ls : List Int), ws = [cTup ls] ∧ (TurnOf many ls) ∧ (R (cTup (backL ls)) G)
theorem len_inverted : ∀ ws G R RX, P_inverted ws G R RX → ws.length = ["turn"].length := by
  rintro ws G R RX ⟨⟨_, _, rfl, _, _⟩⟩; rfl
theorem p_inverted {many : Int} {ls : List Int} {G : GH} {R : KW} {RX : XW} (t : TurnOf many ls) (q : R (cTup (backL ls)) G) : P_inverted [cTup ls] G R RX := ⟨many, ls, rfl, t, q⟩
def T_inverted : TWS :=
  (sSeq (sSet 1 (tFz (tDictC (tIEnumK (tV 0) (tK (.int 1))) (gT 2 (gsC (gN 2) (gsC (gN 3) gsN))) tYesW (tCW absW (tCo (tV 3) tN)) (tIfE (tTestW (tOpW gtW (tV 3) (tK (.int 0)))) (tV 2) (tNegW (tV 2))) [2, 3])))
    (sRet (tCF fTup (tCompI (tISeq (tCall0 P_still [] (tCo (tCW lenQ (tCo (tV 0) tN)) tN))) (gN 2) tYesW (tOpW ixW (tV 1) (tV 2)) [2]))))
theorem rd_inverted (ws : List W) (G : GH) (R : KW) (RX : XW) (h : P_inverted ws G R RX) : T_inverted { nx := fun _ G' => fgt R .non G', rt := fgt R } (startW N_inverted ws) G := by
  obtain ⟨many, ls, rfl, t, q⟩ := h
  have hL := t.len
  have h4 := t.h4
  have h0 := t.h0
  conv => whnf
  refine ⟨by decide, by decide, ?_⟩
  unfold enumW
  conv => whnf
  rw [enumP_map]
  refine compD_pure (f := fun p : Int × Int => W.tup [.int p.1, .int p.2]) (kf := fun p => Sum.inl (absI p.2)) (vf := fun p => W.int (if p.2 > 0 then p.1 else -p.1)) trivial (enumI 1 ls) [] (by rw [sizeLine_eq, enumI_len]; simp; omega) (fun x _ R' q' => ?_) ?_
  · conv => whnf
    refine ⟨rfl, ?_⟩
    conv => whnf
    refine ⟨rfl, ?_⟩
    conv => whnf
    by_cases c : x.2 > 0
    · rw [decide_eq_true c]
      conv => whnf
      have := q' (.int (absI x.2)) rfl
      rw [if_pos c] at this
      exact this
    · rw [decide_eq_false c]
      conv => whnf
      have := q' (.int (absI x.2)) rfl
      rw [if_neg c] at this
      exact this
  rw [merge_enum t.nodup]
  (try conv => whnf); (repeat (first | (refine Exists.intro _ (And.intro rfl ?_); conv => whnf) | (refine And.intro rfl ?_; conv => whnf) | (refine frz_lst ?_; conv => whnf) | (refine frz_dK ?_; conv => whnf) | (refine frz_dT ?_; conv => whnf)))
  rw [List.length_map]
  refine p_still (many := (ls.length : Int)) (by omega) (by omega) ?_
  refine compW_pure (f := W.int) (v := fun k => W.int (backAt ls 1 k)) trivial (stillL ls.length) [] (by unfold stillL; rw [sizeLine_eq, rgI_length]; simp; omega) (fun k hk R' q' => ?_) ?_
  · conv => whnf
    refine ⟨_, congrArg some (val_backAt ls 1 k (t.pm.mem_iff.mpr ?_)), q'⟩
    unfold stillL at hk
    rw [hL] at hk
    exact hk
  · rw [List.nil_append, show ((stillL ls.length).map fun k => W.int (backAt ls 1 k)) = (backL ls).map W.int by unfold backL stillL; rw [List.map_map]; rfl]
    exact ret q
abbrev N_Floor___init__ : List Str := ["self", "letter", "many"]
structure P_Floor___init__ (ws : List W) (G : GH) (R : KW) (RX : XW) : Prop where
  ex : ∃ (x : Addr) (l many : Int), ws = [.ref x, .int l, .int many] ∧ (G x = some (.ins "Floor" [])) ∧ (1 ≤ many) ∧ (many ≤ 400) ∧ (∀ d e p G', FlAt G' ⟨x, d, e, p⟩ ⟨l, [(l, stillL many)], []⟩ → [x, d, e, p].Nodup → G d = none → G e = none → G p = none → (∀ y, y ∉ [x, d, e, p] → G' y = G y) → R .non G')
theorem len_Floor___init__ : ∀ ws G R RX, P_Floor___init__ ws G R RX → ws.length = ["self", "letter", "many"].length := by
  rintro ws G R RX ⟨⟨_, _, _, rfl, _, _, _, _⟩⟩; rfl
theorem p_Floor___init__ {x : Addr} {l many : Int} {G : GH} {R : KW} {RX : XW} (gx : G x = some (.ins "Floor" [])) (h0 : 1 ≤ many) (h1 : many ≤ 400) (q : ∀ d e p G', FlAt G' ⟨x, d, e, p⟩ ⟨l, [(l, stillL many)], []⟩ → [x, d, e, p].Nodup → G d = none → G e = none → G p = none → (∀ y, y ∉ [x, d, e, p] → G' y = G y) → R .non G') : P_Floor___init__ [.ref x, .int l, .int many] G R RX := ⟨x, l, many, rfl, gx, h0, h1, q⟩
def T_Floor___init__ : TWS :=
  (sSeq (sFldW "Floor" "letter" (tV 0) (tV 1))
    (sSeq (sFldW "Floor" "ways" (tV 0) (tDispKW [((tV 1), (tCall0 P_still [] (tCo (tV 2) tN)))]))
    (sSeq (sFldW "Floor" "returns" (tV 0) (tDispKW [((tV 1), (tCall0 P_still [] (tCo (tV 2) tN)))]))
    (sFldW "Floor" "pushers" (tV 0) (tLstW tN)))))
theorem rd_Floor___init__ (ws : List W) (G : GH) (R : KW) (RX : XW) (h : P_Floor___init__ ws G R RX) : T_Floor___init__ { nx := fun _ G' => fgt R .non G', rt := fgt R } (startW N_Floor___init__ ws) G := by
  obtain ⟨x, l, many, rfl, gx, h0, h1, q⟩ := h
  (try conv => whnf); (repeat (first | (rw [gx]; conv => whnf) | (rw [updG_same]; conv => whnf) | (refine Exists.intro _ (And.intro rfl ?_); conv => whnf) | (refine And.intro rfl ?_; conv => whnf) | (refine frz_lst ?_; conv => whnf) | (refine frz_dK ?_; conv => whnf) | (refine frz_dT ?_; conv => whnf)))
  refine ⟨Nat.zero_lt_succ _, ?_⟩
  conv => whnf
  intro d hd
  have dx : d ≠ x := fun e => by rw [e, updG_same] at hd; cases hd
  have hd0 : G d = none := by rw [updG_ne dx] at hd; exact hd
  clear hd
  conv => whnf
  refine p_still (by omega) (by omega) ?_
  conv => whnf
  refine ⟨updG_same, ?_⟩
  (try conv => whnf); (repeat (first | (rw [updG_ne (Ne.symm dx)]; conv => whnf) | (rw [updG_same]; conv => whnf) | (refine Exists.intro _ (And.intro rfl ?_); conv => whnf) | (refine And.intro rfl ?_; conv => whnf) | (refine frz_lst ?_; conv => whnf) | (refine frz_dK ?_; conv => whnf) | (refine frz_dT ?_; conv => whnf)))
  refine ⟨Nat.le_of_ble_eq_true rfl, ?_⟩
  conv => whnf
  intro e he
  have ex : e ≠ x := fun z => by rw [z, updG_same] at he; cases he
  have ed : e ≠ d := fun z => by rw [z, updG_ne dx, updG_same] at he; cases he
  have he0 : G e = none := by rw [updG_ne ex, updG_ne ed, updG_ne ed, updG_ne ex] at he; exact he
  clear he
  conv => whnf
  refine p_still (by omega) (by omega) ?_
  conv => whnf
  refine ⟨updG_same, ?_⟩
  (try conv => whnf); (repeat (first | (rw [updG_ne (Ne.symm ex)]; conv => whnf) | (rw [updG_same]; conv => whnf) | (refine Exists.intro _ (And.intro rfl ?_); conv => whnf) | (refine And.intro rfl ?_; conv => whnf) | (refine frz_lst ?_; conv => whnf) | (refine frz_dK ?_; conv => whnf) | (refine frz_dT ?_; conv => whnf)))
  refine ⟨Nat.le_of_ble_eq_true rfl, ?_⟩
  conv => whnf
  refine ⟨Nat.zero_le _, ?_⟩
  intro p hp
  have px : p ≠ x := fun z => by rw [z, updG_same] at hp; cases hp
  have pe : p ≠ e := fun z => by rw [z, updG_ne ex, updG_same] at hp; cases hp
  have pd : p ≠ d := fun z => by rw [z, updG_ne dx, updG_ne (Ne.symm ed), updG_ne (Ne.symm ed), updG_ne dx, updG_same] at hp; cases hp
  have hp0 : G p = none := by rw [updG_ne px, updG_ne pe, updG_ne pe, updG_ne px, updG_ne pd, updG_ne pd, updG_ne px] at hp; exact hp
  clear hp
  (try conv => whnf); (repeat (first | (rw [updG_ne (Ne.symm px)]; conv => whnf) | (rw [updG_same]; conv => whnf) | (refine Exists.intro _ (And.intro rfl ?_); conv => whnf) | (refine And.intro rfl ?_; conv => whnf) | (refine frz_lst ?_; conv => whnf) | (refine frz_dK ?_; conv => whnf) | (refine frz_dT ?_; conv => whnf)))
  refine ⟨Nat.le_of_ble_eq_true rfl, ?_⟩
  conv => whnf
  have eb : backL (stillL many) = stillL many := back_still h0 h1
  refine ret (q d e p _ ⟨?_, ?_, ?_, ?_⟩ ?_ hd0 he0 hp0 fun y hy => ?_)
  · show updG _ x _ x = _
    rw [updG_same]; rfl
  · show updG _ x _ d = _
    rw [updG_ne dx, updG_ne (Ne.symm pd), updG_ne dx, updG_ne (Ne.symm ed), updG_ne (Ne.symm ed), updG_ne dx, updG_same]; rfl
  · show updG _ x _ e = _
    rw [updG_ne ex, updG_ne (Ne.symm pe), updG_ne ex, updG_same]
    show some (GO.dK [(Sum.inl l, cTup (stillL many))]) = some (GO.dK [(Sum.inl l, cTup (backL (stillL many)))])
    rw [eb]
  · show updG _ x _ p = _
    rw [updG_ne px, updG_same]; rfl
  · simp only [List.nodup_cons, List.mem_cons, List.not_mem_nil, or_false, not_or]
    exact ⟨⟨Ne.symm dx, Ne.symm ex, Ne.symm px⟩, ⟨Ne.symm ed, Ne.symm pd⟩, Ne.symm pe, not_false, .nil⟩
  · have y1 : y ≠ x := fun z => hy (by rw [z]; simp)
    have y2 : y ≠ d := fun z => hy (by rw [z]; simp)
    have y3 : y ≠ e := fun z => hy (by rw [z]; simp)
    have y4 : y ≠ p := fun z => hy (by rw [z]; simp)
    rw [updG_ne y1, updG_ne y4, updG_ne y1, updG_ne y3, updG_ne y3, updG_ne y1, updG_ne y2, updG_ne y2, updG_ne y1]
abbrev N_Floor_lay : List Str := ["self", "to", "turn"]
structure P_Floor_lay (ws : List W) (G : GH) (R : KW) (RX : XW) : Prop where
  ex : ∃ (x : FA) (f : Fl) (many k : Int) (t : List Int), ws = [.ref x.a, .int k, cTup t] ∧ (FlAt G x f) ∧ (TurnOf many t) ∧ (f.ways.lookup k = none) ∧ (f.ways.length ≤ 1000) ∧ (x.ads.Nodup) ∧ (∀ G', FlAt G' x ⟨f.letter, f.ways ++ [(k, t)], f.pushers⟩ → (∀ y, y ∉ x.ads → G' y = G y) → R .non G')
theorem len_Floor_lay : ∀ ws G R RX, P_Floor_lay ws G R RX → ws.length = ["self", "to", "turn"].length := by
  rintro ws G R RX ⟨⟨_, _, _, _, _, rfl, _, _, _, _, _, _⟩⟩; rfl
theorem p_Floor_lay {x : FA} {f : Fl} {many k : Int} {t : List Int} {G : GH} {R : KW} {RX : XW} (g : FlAt G x f) (tt : TurnOf many t) (no : f.ways.lookup k = none) (hl : f.ways.length ≤ 1000) (nd : x.ads.Nodup) (q : ∀ G', FlAt G' x ⟨f.letter, f.ways ++ [(k, t)], f.pushers⟩ → (∀ y, y ∉ x.ads → G' y = G y) → R .non G') : P_Floor_lay [.ref x.a, .int k, cTup t] G R RX := ⟨x, f, many, k, t, rfl, g, tt, no, hl, nd, q⟩
def T_Floor_lay : TWS :=
  (sSeq (sAsg (tV 2) (gSubW (tFldW "Floor" "ways" (tV 0)) (tV 1) setQ))
    (sAsg (tCall0 P_inverted [] (tCo (tV 2) tN)) (gSubW (tFldW "Floor" "returns" (tV 0)) (tV 1) setQ)))
theorem rd_Floor_lay (ws : List W) (G : GH) (R : KW) (RX : XW) (h : P_Floor_lay ws G R RX) : T_Floor_lay { nx := fun _ G' => fgt R .non G', rt := fgt R } (startW N_Floor_lay ws) G := by
  obtain ⟨x, f, many, k, t, rfl, g, tt, no, hl, nd, q⟩ := h
  have n1 : x.a ≠ x.d := fun e => by have := g.d; rw [← e, g.a] at this; cases this
  have n2 : x.a ≠ x.e := fun e => by have := g.e; rw [← e, g.a] at this; cases this
  have n3 : x.p ≠ x.d := fun e => by have := g.d; rw [← e, g.p] at this; cases this
  have n4 : x.p ≠ x.e := fun e => by have := g.e; rw [← e, g.p] at this; cases this
  have n5 : x.d ≠ x.e := fun e => by
    unfold FA.ads at nd
    rw [e] at nd
    simp at nd
  (try conv => whnf); (repeat (first | (rw [g.a]; conv => whnf) | (rw [g.d]; conv => whnf) | (refine Exists.intro _ (And.intro rfl ?_); conv => whnf) | (refine And.intro rfl ?_; conv => whnf) | (refine frz_lst ?_; conv => whnf) | (refine frz_dK ?_; conv => whnf) | (refine frz_dT ?_; conv => whnf)))
  refine ⟨by rw [List.length_map, sizeLine_eq]; omega, ?_⟩
  rw [put_new (by rw [val_way, no]; rfl)]
  conv => whnf
  refine p_inverted tt ?_
  (try conv => whnf); (repeat (first | (rw [updG_ne n1]; conv => whnf) | (rw [g.a]; conv => whnf) | (rw [updG_ne (Ne.symm n5)]; conv => whnf) | (rw [g.e]; conv => whnf) | (refine Exists.intro _ (And.intro rfl ?_); conv => whnf) | (refine And.intro rfl ?_; conv => whnf) | (refine frz_lst ?_; conv => whnf) | (refine frz_dK ?_; conv => whnf) | (refine frz_dT ?_; conv => whnf)))
  refine ⟨by rw [List.length_map, sizeLine_eq]; omega, ?_⟩
  rw [put_new (by rw [val_ret, no]; rfl)]
  refine ret (q _ ⟨?_, ?_, ?_, ?_⟩ fun y hy => ?_)
  · rw [updG_ne n2, updG_ne n1]; exact g.a
  · rw [updG_ne n5, updG_same, List.map_append]; rfl
  · rw [updG_same, List.map_append]; rfl
  · rw [updG_ne n4, updG_ne n3]; exact g.p
  · have h1 : y ≠ x.e := fun e => hy (by rw [e]; simp [FA.ads])
    have h2 : y ≠ x.d := fun e => hy (by rw [e]; simp [FA.ads])
    rw [updG_ne h1, updG_ne h2]
abbrev N_rest_of : List Str := ["chain", "at", "turn", "floor", "to"]
structure P_rest_of (ws : List W) (G : GH) (R : KW) (RX : XW) : Prop where
  ex : ∃ (n : Int) (cw : W) (ws1 ws2 : List W) (fs : List Fl) (many : Int) (t : List Int), ws = [cw, .int n, cTup t] ∧ (n = (ws1.length : Nat)) ∧ (SeqAt2 G cw (ws1 ++ ws2)) ∧ (Paired (FlV G) ws2 fs) ∧ (TurnOf many t) ∧ (∀ f ∈ fs, LetOf many f.letter ∧ ∀ k w, (k, w) ∈ f.ways → TurnOf many w) ∧ ((ws1 ++ ws2).length ≤ 1000) ∧ (R (cTup (restL fs t)) G)
theorem len_rest_of : ∀ ws G R RX, P_rest_of ws G R RX → ws.length = ["chain", "at", "turn"].length := by
  rintro ws G R RX ⟨⟨_, _, _, _, _, _, _, rfl, _, _, _, _, _, _, _⟩⟩; rfl
theorem p_rest_of {n : Int} {cw : W} {ws1 ws2 : List W} {fs : List Fl} {many : Int} {t : List Int} {G : GH} {R : KW} {RX : XW} (hn : n = (ws1.length : Nat)) (hc : SeqAt2 G cw (ws1 ++ ws2)) (hv : Paired (FlV G) ws2 fs) (tt : TurnOf many t) (hw : ∀ f ∈ fs, LetOf many f.letter ∧ ∀ k w, (k, w) ∈ f.ways → TurnOf many w) (hl : (ws1 ++ ws2).length ≤ 1000) (q : R (cTup (restL fs t)) G) : P_rest_of [cw, .int n, cTup t] G R RX := ⟨n, cw, ws1, ws2, fs, many, t, rfl, hn, hc, hv, tt, hw, hl, q⟩
def T_rest_of : TWS :=
  (sSeq (sFor (tISeq (tFz (tSliceW (tV 0) (tP (tV 1)) tNoP))) (gN 3) (sSeq (sSet 4 (tCall0 P_led [] (tCo (tV 2) (tCo (tFldW "Floor" "letter" (tV 3)) tN))))
    (sSeq (sIf (tTestW (tOpW (inQ true) (tV 4) (tFldW "Floor" "ways" (tV 3)))) (sRet (tV 2)) sNext)
    (sSet 2 (tCall0 P_composed [] (tCo (tV 2) (tCo (tOpW ixW (tFldW "Floor" "returns" (tV 3)) (tV 4)) tN)))))))
    (sRet (tV 2)))
theorem rd_rest_of (ws : List W) (G : GH) (R : KW) (RX : XW) (h : P_rest_of ws G R RX) : T_rest_of { nx := fun _ G' => fgt R .non G', rt := fgt R } (startW N_rest_of ws) G := by
  obtain ⟨n, cw, ws1, ws2, fs, many, t, rfl, hn, hc, hv, tt, hw, hl, q⟩ := h
  subst hn
  have main : ∀ cw : W, forW tru1 (gN 3)
      (sSeq (sSet 4 (tCall0 P_led [] (tCo (tV 2) (tCo (tFldW "Floor" "letter" (tV 3)) tN))))
        (sSeq (sIf (tTestW (tOpW (inQ true) (tV 4) (tFldW "Floor" "ways" (tV 3)))) (sRet (tV 2)) sNext)
          (sSet 2 (tCall0 P_composed [] (tCo (tV 2) (tCo (tOpW ixW (tFldW "Floor" "returns" (tV 3)) (tV 4)) tN))))))
      { nx := sRet (tV 2) { nx := fun x G' => fgt R W.non G', rt := fgt R }, rt := fgt R } ws2 (startW N_rest_of [cw, W.int (ws1.length : Nat), cTup t]) G := by
    intro cw
    refine forW_inv (fun xs S G' => ∃ (t' : List Int) (fs' : List Fl) (x3 x4 : Option W), S = [some cw, some (.int (ws1.length : Nat)), some (cTup t'), x3, x4] ∧ G' = G ∧ Paired (FlV G) xs fs' ∧ TurnOf many t' ∧ (∀ f ∈ fs', LetOf many f.letter ∧ ∀ k w, (k, w) ∈ f.ways → TurnOf many w) ∧ restL fs' t' = restL fs t) ?_ ?_ _ _ _ ⟨t, fs, _, _, rfl, rfl, hv, tt, hw, rfl⟩
    rotate_left
    · rintro S G1 ⟨t', fs', x3, x4, rfl, rfl, hv', tt', hw', e⟩
      cases hv'
      refine ⟨trivial, ?_⟩
      rw [← e] at q
      conv => whnf
      exact ret q
    rintro y xs S G1 ⟨t', fs', x3, x4, rfl, rfl, hv', tt', hw', e⟩ N hN
    cases hv' with
    | cons hy hys =>
      rename_i f fs''
      have hf := hw' f List.mem_cons_self
      refine ⟨trivial, ?_⟩
      rcases hy with ⟨x, rfl, g⟩ | rfl
      · (try conv => whnf); (repeat (first | (rw [g.a]; conv => whnf) | (refine Exists.intro _ (And.intro rfl ?_); conv => whnf) | (refine And.intro rfl ?_; conv => whnf) | (refine frz_lst ?_; conv => whnf) | (refine frz_dK ?_; conv => whnf) | (refine frz_dT ?_; conv => whnf)))
        refine p_led tt' hf.1 ?_
        (try conv => whnf); (repeat (first | (rw [g.a]; conv => whnf) | (refine Exists.intro _ (And.intro rfl ?_); conv => whnf) | (refine And.intro rfl ?_; conv => whnf) | (refine frz_lst ?_; conv => whnf) | (refine frz_dK ?_; conv => whnf) | (refine frz_dT ?_; conv => whnf)))
        refine inS_dK g.d ?_
        rw [val_way]
        cases el : f.ways.lookup (goI t' f.letter) with
        | none =>
          conv => whnf
          rw [show restL fs t = t' by rw [← e]; unfold restL; rw [el]] at q
          exact ret q
        | some w =>
          have tw := hf.2 _ _ (lookup_mem el)
          (try conv => whnf); (repeat (first | (rw [g.a]; conv => whnf) | (rw [g.e]; conv => whnf) | (refine Exists.intro _ (And.intro rfl ?_); conv => whnf) | (refine And.intro rfl ?_; conv => whnf) | (refine frz_lst ?_; conv => whnf) | (refine frz_dK ?_; conv => whnf) | (refine frz_dT ?_; conv => whnf)))
          refine ⟨_, by rw [dget_dK g.e, val_ret, el]; rfl, ?_⟩
          refine p_composed tt' (back_turn tw) ?_
          exact hN _ _ ⟨_, fs'', _, _, rfl, rfl, hys, then_turn tt' (back_turn tw), fun f h => hw' f (List.mem_cons_of_mem _ h), by rw [← e]; conv => rhs; unfold restL; rw [el]⟩
      · (try conv => whnf); (repeat (first | (refine Exists.intro _ (And.intro rfl ?_); conv => whnf) | (refine And.intro rfl ?_; conv => whnf) | (refine frz_lst ?_; conv => whnf) | (refine frz_dK ?_; conv => whnf) | (refine frz_dT ?_; conv => whnf)))
        refine p_led tt' hf.1 ?_
        (try conv => whnf); (repeat (first | (refine Exists.intro _ (And.intro rfl ?_); conv => whnf) | (refine And.intro rfl ?_; conv => whnf) | (refine frz_lst ?_; conv => whnf) | (refine frz_dK ?_; conv => whnf) | (refine frz_dT ?_; conv => whnf)))
        rw [val_way]
        cases el : f.ways.lookup (goI t' f.letter) with
        | none =>
          conv => whnf
          rw [show restL fs t = t' by rw [← e]; unfold restL; rw [el]] at q
          exact ret q
        | some w =>
          have tw := hf.2 _ _ (lookup_mem el)
          (try conv => whnf); (repeat (first | (refine Exists.intro _ (And.intro rfl ?_); conv => whnf) | (refine And.intro rfl ?_; conv => whnf) | (refine frz_lst ?_; conv => whnf) | (refine frz_dK ?_; conv => whnf) | (refine frz_dT ?_; conv => whnf)))
          refine ⟨_, congrArg some ((val_ret _ _).trans (by rw [el]; rfl)), ?_⟩
          refine p_composed tt' (back_turn tw) ?_
          exact hN _ _ ⟨_, fs'', _, _, rfl, rfl, hys, then_turn tt' (back_turn tw), fun f h => hw' f (List.mem_cons_of_mem _ h), by rw [← e]; conv => rhs; unfold restL; rw [el]⟩
  rcases hc with rfl | ⟨c, rfl, hc⟩
  · (try conv => whnf); (repeat (first | (refine Exists.intro _ (And.intro rfl ?_); conv => whnf) | (refine And.intro rfl ?_; conv => whnf) | (refine frz_lst ?_; conv => whnf) | (refine frz_dK ?_; conv => whnf) | (refine frz_dT ?_; conv => whnf)))
    rw [cut_app]
    exact main _
  · (try conv => whnf); (repeat (first | (rw [hc]; conv => whnf) | (refine Exists.intro _ (And.intro rfl ?_); conv => whnf) | (refine And.intro rfl ?_; conv => whnf) | (refine frz_lst ?_; conv => whnf) | (refine frz_dK ?_; conv => whnf) | (refine frz_dT ?_; conv => whnf)))
    rw [cut_app]
    exact main _
abbrev N_let_in : List Str := ["chain", "at", "turn", "floor", "line", "letter", "pusher", "way", "to", "one"]
structure PR_let_in (N : Nat) (ws : List W) (G : GH) (R : KW) (RX : XW) : Prop where
  ex : ∃ (c : Addr) (n : Int) (x1 x2 : List FA) (fs0 : List Fl) (many : Int) (ah t : List Int), ws = [.ref c, .int n, cTup t] ∧ (n = (x1.length : Nat)) ∧ (G c = some (.lst ((x1 ++ x2).map fun x => .ref x.a))) ∧ (Paired (FlAt G) x2 fs0) ∧ ((c :: x2.flatMap FA.ads).Nodup) ∧ (Comp many ah fs0) ∧ (TurnOf many t) ∧ (Fx ah t) ∧ (Bd fs0) ∧ (many ≤ 12) ∧ (x1.length + x2.length ≤ 12) ∧ (fs0.length < N) ∧ (∀ G' fs', Paired (FlAt G') x2 fs' → Comp many ah fs' → GrowL fs0 fs' → Rep many fs' t → (∀ p ∈ nextP fs', p ∈ nextP fs0 ∨ p = t) → Bd fs' → (∀ y, y ∉ x2.flatMap FA.ads → G' y = G y) → R .non G')
abbrev P_let_in := PR_let_in 14
theorem len_let_in (N : Nat) : ∀ ws G R RX, PR_let_in N ws G R RX → ws.length = ["chain", "at", "turn"].length := by
  rintro ws G R RX ⟨⟨_, _, _, _, _, _, _, _, rfl, _, _, _, _, _, _, _, _, _, _, _, _⟩⟩; rfl
theorem no_let_in : ∀ ws G R RX, ¬ PR_let_in 0 ws G R RX := by
  rintro ws G R RX ⟨⟨c, n, x1, x2, fs0, many, ah, t, rfl, hx, gc, g2, nd, C, tt, fx, bd, m12, l12, hn, q⟩⟩
  exact absurd hn (Nat.not_lt_zero _)
theorem p_let_in {c : Addr} {n : Int} {x1 x2 : List FA} {fs0 : List Fl} {many : Int} {ah t : List Int} {N : Nat} {G : GH} {R : KW} {RX : XW} (hx : n = (x1.length : Nat)) (gc : G c = some (.lst ((x1 ++ x2).map fun x => .ref x.a))) (g2 : Paired (FlAt G) x2 fs0) (nd : (c :: x2.flatMap FA.ads).Nodup) (C : Comp many ah fs0) (tt : TurnOf many t) (fx : Fx ah t) (bd : Bd fs0) (m12 : many ≤ 12) (l12 : x1.length + x2.length ≤ 12) (hn : fs0.length < N) (q : ∀ G' fs', Paired (FlAt G') x2 fs' → Comp many ah fs' → GrowL fs0 fs' → Rep many fs' t → (∀ p ∈ nextP fs', p ∈ nextP fs0 ∨ p = t) → Bd fs' → (∀ y, y ∉ x2.flatMap FA.ads → G' y = G y) → R .non G') : PR_let_in N [.ref c, .int n, cTup t] G R RX := ⟨c, n, x1, x2, fs0, many, ah, t, rfl, hx, gc, g2, nd, C, tt, fx, bd, m12, l12, hn, q⟩
def T_let_in (Prec : SpW) : TWS :=
  (sSeq (sIf (tTestW (tOpW (eqQ false) (tCall0 P_rest_of [] (tCo (tV 0) (tCo (tV 1) (tCo (tV 2) tN)))) (tCall0 P_still [] (tCo (tCW lenQ (tCo (tV 2) tN)) tN)))) sRetN sNext)
    (sSeq (sSet 3 (tOpW ixW (tV 0) (tV 1)))
    (sSeq (sDrop (tMetL appendW (tFldW "Floor" "pushers" (tV 3)) (tCo (tV 2) tN)))
    (sSeq (sSet 4 (tKeysL 3 "ways" (tComp (tIKeys (tFldW "Floor" "ways" (tV 3))) (gN 5) tYesW (tTupW (tCo (tV 5) (tCo (tV 2) tN))) [5])))
    (sWhile (tTestW (tOpW (eqQ true) (tV 4) (tFz (tLstW tN)))) (sSeq (sAsg (tMetL popW (tV 4) tN) (gU 2 (gsC (gN 5) (gsC (gN 6) gsN))))
    (sSeq (sAsg (tTupW (tCo (tCall0 P_composed [] (tCo (tOpW ixW (tFldW "Floor" "ways" (tV 3)) (tV 5)) (tCo (tV 6) tN))) (tCo (tCall0 P_led [] (tCo (tV 6) (tCo (tV 5) tN))) tN))) (gU 2 (gsC (gN 7) (gsC (gN 8) gsN))))
    (sIf (tTestW (tOpW (inQ false) (tV 8) (tFldW "Floor" "ways" (tV 3)))) (sDrop (tCall0 Prec [] (tCo (tV 0) (tCo (tOpW addW (tV 1) (tK (.int 1))) (tCo (tCall0 P_composed [] (tCo (tV 7) (tCo (tOpW ixW (tFldW "Floor" "returns" (tV 3)) (tV 8)) tN))) tN))))) (sSeq (sDrop (tMethW "Floor" "lay" P_Floor_lay [] XF (tV 3) (tCo (tV 8) (tCo (tV 7) tN))))
    (sDrop (tMetL extendW (tV 4) (tCo (tComp (tISeq (tFldW "Floor" "pushers" (tV 3))) (gN 9) tYesW (tTupW (tCo (tV 8) (tCo (tV 9) tN))) [9]) tN))))))))))))
theorem rd_let_in (N : Nat) (ws : List W) (G : GH) (R : KW) (RX : XW) (h : PR_let_in (N + 1) ws G R RX) : T_let_in (PR_let_in N) { nx := fun _ G' => fgt R .non G', rt := fgt R } (startW N_let_in ws) G := by
  obtain ⟨⟨c, n, x1, x2, fs0, many, ah, t, rfl, hx, gc, g2, nd, C, tt, fx, bd, m12, l12, hn, q⟩⟩ := h
  subst hx
  have hn0 : fs0.length < N + 1 := hn
  have h0 := tt.h0
  have h4 := tt.h4
  have htl := tt.len
  conv => whnf
  refine p_rest_of (ws1 := x1.map fun x => W.ref x.a) (ws2 := x2.map fun x => W.ref x.a) (fs := fs0) (many := many) (by rw [List.length_map]) (.inr ⟨c, rfl, by rw [gc, List.map_append]⟩) (flv_of g2) tt C.fls (by rw [List.length_append, List.length_map, List.length_map]; omega) ?_
  conv => whnf
  rw [show ((List.map W.int t).length : Int) = many by rw [List.length_map]; exact htl]
  refine p_still (by omega) (by omega) ?_
  refine eq_ints ?_
  by_cases hr : restL fs0 t = stillL many
  · rw [decide_eq_true hr]
    conv => whnf
    exact ret (q G fs0 g2 C (GrowL.refl _) hr (fun p h => .inl h) bd fun _ _ => rfl)
  rw [decide_eq_false hr]
  conv => whnf
  cases g2 with
  | nil => exact absurd (C t tt fx) hr
  | cons gx gr =>
  rename_i x f x2 fs
  have F := C.1
  rw [List.flatMap_cons] at nd
  have ndx : x.ads.Nodup := (List.nodup_append.mp (List.nodup_cons.mp nd).2).1
  have ndr : (c :: x2.flatMap FA.ads).Nodup := List.nodup_cons.mpr ⟨fun h => (List.nodup_cons.mp nd).1 (List.mem_append.mpr (.inr h)), (List.nodup_append.mp (List.nodup_cons.mp nd).2).2.1⟩
  have dis : ∀ y, y ∈ x.ads → y ∉ x2.flatMap FA.ads := fun y h1 h2 => (List.nodup_append.mp (List.nodup_cons.mp nd).2).2.2 y h1 y h2 rfl
  have cx : c ∉ x.ads := fun h => (List.nodup_cons.mp nd).1 (List.mem_append.mpr (.inl h))
  rw [gc]
  conv => whnf
  refine ⟨.ref x.a, at_mid x1 x2 x, ?_⟩
  have hlen : (f :: fs).length = (x :: x2).length := (Paired.length (.cons gx gr)).symm
  have hMW : MW (f :: fs) ≤ 288 := by
    have h1 := MW_le C
    rw [hlen] at h1
    have h2 : (x :: x2).length ≤ 12 := by omega
    have h3 : 2 * many.toNat ≤ 24 := by omega
    exact Nat.le_trans h1 (Nat.le_trans (Nat.mul_le_mul h2 h3) (by decide))
  have hpl : f.pushers.length ≤ 288 := by have := bd.1; omega
  (try conv => whnf); (repeat (first | (rw [gx.a]; conv => whnf) | (refine Exists.intro _ (And.intro rfl ?_); conv => whnf) | (refine And.intro rfl ?_; conv => whnf) | (refine frz_lst ?_; conv => whnf) | (refine frz_dK ?_; conv => whnf) | (refine frz_dT ?_; conv => whnf)))
  refine ⟨recL_lst gx.p, ?_⟩
  (try conv => whnf); (repeat (first | (rw [gx.p]; conv => whnf) | (refine Exists.intro _ (And.intro rfl ?_); conv => whnf) | (refine And.intro rfl ?_; conv => whnf) | (refine frz_lst ?_; conv => whnf) | (refine frz_dK ?_; conv => whnf) | (refine frz_dT ?_; conv => whnf)))
  refine ⟨by rw [List.length_map, sizeLine_eq]; omega, ?_⟩
  have n1 : x.a ≠ x.d := fun e => by have := gx.d; rw [← e, gx.a] at this; cases this
  have n2 : x.a ≠ x.e := fun e => by have := gx.e; rw [← e, gx.a] at this; cases this
  have n3 : x.p ≠ x.d := fun e => by have := gx.d; rw [← e, gx.p] at this; cases this
  have n4 : x.p ≠ x.e := fun e => by have := gx.e; rw [← e, gx.p] at this; cases this
  have n5 : x.a ≠ x.p := fun e => by have := gx.p; rw [← e, gx.a] at this; cases this
  generalize hps : f.pushers ++ [t] = ps
  have hpsl : ps.length ≤ 289 ∧ 1 ≤ ps.length := by rw [← hps, List.length_append, List.length_singleton]; omega
  generalize eG1 : updG G x.p (.lst (List.map cTup f.pushers ++ [W.tup (List.map W.int t)])) = G1
  have gx1 : FlAt G1 x ⟨f.letter, f.ways, ps⟩ := by
    rw [← eG1, ← hps]
    exact ⟨by rw [updG_ne n5]; exact gx.a, by rw [updG_ne (Ne.symm n3)]; exact gx.d, by rw [updG_ne (Ne.symm n4)]; exact gx.e, by rw [updG_same, List.map_append]; rfl⟩
  have go1 : ∀ y, y ∉ x.ads → G1 y = G y := fun y hy => by
    rw [← eG1, updG_ne (fun e => hy (by rw [e]; simp [FA.ads]))]
  clear eG1
  conv => whnf
  refine ⟨x.a, "Floor", flF x f.letter, x.d, f.ways.map wayK, rfl, gx1.a, (show (["letter", "ways", "returns", "pushers"] : List Str).Nodup by decide), rfl, gx1.d, ?_⟩
  (try conv => whnf); (repeat (first | (refine Exists.intro _ (And.intro rfl ?_); conv => whnf) | (refine And.intro rfl ?_; conv => whnf) | (refine frz_lst ?_; conv => whnf) | (refine frz_dK ?_; conv => whnf) | (refine frz_dT ?_; conv => whnf)))
  rw [List.map_map]
  refine compW_pure (f := fun z : Int × List Int => W.int z.1) (v := fun z => lineW (z.1, t)) trivial f.ways [] (by rw [List.length_nil, Nat.zero_add, sizeLine_eq]; have := F.len; omega) (fun z hz R' q' => ?_) ?_
  · conv => whnf
    exact ⟨sz2L _ _, q'⟩
  intro D hD
  refine ⟨D, _, rfl, rfl, fun w hw => ?_, fun l hl => ?_⟩
  · rw [List.nil_append] at hw
    obtain ⟨z, _, rfl⟩ := List.mem_map.mp hw
    exact flat_line _
  rw [List.nil_append]
  have hl0 : G l = none ∧ l ∉ x.ads := by
    have ld : l ∉ x.ads := fun h => by
      simp only [FA.ads, List.mem_cons, List.not_mem_nil, or_false] at h
      rcases h with rfl | rfl | rfl | rfl
      · rw [gx1.a] at hl; cases hl
      · rw [gx1.d] at hl; cases hl
      · rw [gx1.e] at hl; cases hl
      · rw [gx1.p] at hl; cases hl
    exact ⟨by rw [← go1 l ld]; exact hl, ld⟩
  have lx2 : l ∉ x2.flatMap FA.ads := fun h => by
    obtain ⟨o, ho⟩ := fls_some gr l h
    rw [hl0.1] at ho; cases ho
  have xc : ∀ y ∈ x.ads, y ≠ c := fun y h e => cx (e ▸ h)
  have Lp0 := Lp.start C tt fx
  rw [hps] at Lp0
  have whw : f.ways.length ≤ 2 * many.toNat := F.len
  have gr1 : Paired (FlAt G1) x2 fs := fls_of gr fun y hy => go1 y fun h => dis y h hy
  conv => whnf
  refine ⟨fun m S G' => ∃ (Y : List (Int × List Int)) (fs' : List Fl) (line : List (Int × List Int)) (x5 x6 x7 x8 x9 : Option W), S = [some (.ref c), some (.int (x1.length : Nat)), some (cTup t), some (.ref x.a), some (.ref l), x5, x6, x7, x8, x9] ∧ FlAt G' x ⟨f.letter, Y, ps⟩ ∧ Paired (FlAt G') x2 fs' ∧ G' l = some (.lst (line.map lineW)) ∧ (∀ y o, y ∉ x.ads → y ∉ x2.flatMap FA.ads → G y = some o → G' y = some o) ∧ Lp many ah f.letter ps Y fs' line ∧ Bd fs' ∧ GrowL fs fs' ∧ (∃ ex, Y = f.ways ++ ex) ∧ line.length ≤ Y.length * ps.length ∧ m = (2 * many.toNat - Y.length) * (ps.length + 1) + line.length,
    ⟨_, f.ways, fs, f.ways.map fun z => (z.1, t), _, _, _, _, _, rfl, gx1.of (fun y hy => updG_ne (fun e => hl0.2 (e ▸ hy))), fls_of gr1 (fun y hy => updG_ne (fun e => lx2 (e ▸ hy))), by rw [updG_same, List.map_map]; rfl, fun y o y2 y3 e => by rw [updG_ne (fun z => by rw [z, hl0.1] at e; cases e), go1 y y2]; exact e, Lp0, bd.2, GrowL.refl _, ⟨[], by rw [List.append_nil]⟩, by rw [List.length_map]; exact Nat.le_mul_of_pos_right _ hpsl.2, rfl⟩, ?_⟩
  rintro m S G' ⟨Y, fs', line, x5, x6, x7, x8, x9, rfl, gx', gr', gl', go', L, bd', gw', hY, hll, rfl⟩
  conv => whnf
  refine ⟨Nat.zero_le _, frz_lst ?_⟩
  refine eq_rNil gl' (fun w hw => ?_) ?_
  · obtain ⟨z, _, rfl⟩ := List.mem_map.mp hw
    exact dat_line _ z
  by_cases hk0 : line = []
  · rw [decide_eq_true (by rw [hk0]; rfl)]
    conv => whnf
    subst hk0
    have Cn := L.done
    obtain ⟨ex, hY⟩ := hY
    have gw2 : GrowL (f :: fs) (⟨f.letter, Y, ps⟩ :: fs') := ⟨⟨rfl, ex, hY⟩, gw'⟩
    have hrep : Rep many (⟨f.letter, Y, ps⟩ :: fs') t := (rep_gen h0 h4 Cn tt).mpr (Gen.mem (fun p hp => (Cn.1.psh p hp).1) (by show t ∈ ps; rw [← hps]; simp))
    refine ⟨mixG ((x :: x2).flatMap FA.ads) G' G, mix_ext (fun y o hy e => ?_), q _ (⟨f.letter, Y, ps⟩ :: fs') (.cons ?_ ?_) Cn gw2 hrep (fun p hp => ?_) ?_ fun y hy => mix_out hy⟩
    · rw [List.flatMap_cons] at hy
      exact go' y o (fun z => hy (List.mem_append.mpr (.inl z))) (fun z => hy (List.mem_append.mpr (.inr z))) e
    · exact gx'.of fun y hy => mix_in (by rw [List.flatMap_cons]; exact List.mem_append.mpr (.inl hy))
    · exact fls_of gr' fun y hy => mix_in (by rw [List.flatMap_cons]; exact List.mem_append.mpr (.inr hy))
    · have hp : p ∈ ps := hp
      rw [← hps] at hp
      rcases List.mem_append.mp hp with hp | hp
      · exact .inl hp
      · exact .inr (List.mem_singleton.mp hp)
    · exact bd.cons Cn (by show ps.length ≤ _; rw [← hps]; simp) gw2 hr hrep bd'
  rw [decide_eq_false (by simpa using hk0)]
  conv => whnf
  obtain ⟨line0, ⟨k, p⟩, rfl⟩ : ∃ k0 c, line = k0 ++ [c] := ⟨line.dropLast, line.getLast hk0, (List.dropLast_concat_getLast hk0).symm⟩
  refine ⟨recL_lst gl', ?_⟩
  (try conv => whnf); (repeat (first | (rw [gl']; conv => whnf) | (refine Exists.intro _ (And.intro rfl ?_); conv => whnf) | (refine And.intro rfl ?_; conv => whnf) | (refine frz_lst ?_; conv => whnf) | (refine frz_dK ?_; conv => whnf) | (refine frz_dT ?_; conv => whnf)))
  refine ⟨lineW (k, p), by simp, ?_⟩
  rw [show (List.map lineW (line0 ++ [(k, p)])).dropLast = line0.map lineW by simp]
  generalize eGa : updG G' l (.lst (line0.map lineW)) = Ga
  have gxa : FlAt Ga x ⟨f.letter, Y, ps⟩ := by rw [← eGa]; exact gx'.of fun y hy => updG_ne (fun e => hl0.2 (e ▸ hy))
  have gra : Paired (FlAt Ga) x2 fs' := by rw [← eGa]; exact fls_of gr' fun y hy => updG_ne (fun e => lx2 (e ▸ hy))
  have gla : Ga l = some (.lst (line0.map lineW)) := by rw [← eGa, updG_same]
  have goa : ∀ y o, y ∉ x.ads → y ∉ x2.flatMap FA.ads → G y = some o → Ga y = some o := fun y o y2 y3 e => by rw [← eGa, updG_ne (fun z => by rw [z, hl0.1] at e; cases e)]; exact go' y o y2 y3 e
  clear eGa gx' gr' gl' go'
  obtain ⟨⟨w, hw⟩, hp⟩ := L.li (k, p) (List.mem_append.mpr (.inr List.mem_cons_self))
  have hw : Y.lookup k = some w := hw
  have Fl := L.ok
  obtain ⟨tv, gv, fv, nv, lk⟩ := L.top hw
  have tp := (Fl.psh p hp).1
  have tw := (Fl.get (k := k) (w := w) hw).1
  have hYl := Fl.len
  have hYl : Y.length ≤ 2 * many.toNat := hYl
  rw [List.length_append, List.length_singleton] at hll ⊢
  (try conv => whnf); (repeat (first | (rw [gxa.a]; conv => whnf) | (rw [gxa.d]; conv => whnf) | (refine Exists.intro _ (And.intro rfl ?_); conv => whnf) | (refine And.intro rfl ?_; conv => whnf) | (refine frz_lst ?_; conv => whnf) | (refine frz_dK ?_; conv => whnf) | (refine frz_dT ?_; conv => whnf)))
  refine ⟨_, by rw [dget_dK gxa.d, val_way, hw]; rfl, ?_⟩
  refine p_composed tw tp ?_
  refine p_led tp lk ?_
  conv => whnf
  refine ⟨sz2L _ _, ?_⟩
  (try conv => whnf); (repeat (first | (rw [gxa.a]; conv => whnf) | (refine Exists.intro _ (And.intro rfl ?_); conv => whnf) | (refine And.intro rfl ?_; conv => whnf) | (refine frz_lst ?_; conv => whnf) | (refine frz_dK ?_; conv => whnf) | (refine frz_dT ?_; conv => whnf)))
  refine inS_dK gxa.d ?_
  rw [val_way]
  cases e' : Y.lookup (goI p k) with
  | some w' =>
    have tw' := (Fl.get (k := goI p k) (w := w') e').1
    obtain ⟨b1, b2, b3⟩ := L.below hw e'
    (try conv => whnf); (repeat (first | (rw [gxa.a]; conv => whnf) | (rw [gxa.e]; conv => whnf) | (refine Exists.intro _ (And.intro rfl ?_); conv => whnf) | (refine And.intro rfl ?_; conv => whnf) | (refine frz_lst ?_; conv => whnf) | (refine frz_dK ?_; conv => whnf) | (refine frz_dT ?_; conv => whnf)))
    refine ⟨_, by rw [dget_dK gxa.e, val_ret, e']; rfl, ?_⟩
    refine p_composed tv (back_turn tw') ?_
    have hcl : c ≠ l := fun e => by rw [e, hl0.1] at gc; cases gc
    have hc2 : c ∉ x2.flatMap FA.ads := fun z => (List.nodup_cons.mp ndr).1 z
    have gca : Ga c = some (.lst (((x1 ++ [x]) ++ x2).map fun x => .ref x.a)) := by
      rw [goa c _ cx hc2 gc, List.append_assoc]; rfl
    have hfl := gw'.len
    refine p_let_in (c := c) (x1 := x1 ++ [x]) (x2 := x2) (fs0 := fs') (ah := f.letter :: ah) (by rw [List.length_append, List.length_singleton]; push_cast; rfl) gca gra ndr L.cp b1 b2 bd' m12 (by rw [List.length_append, List.length_singleton]; rw [List.length_cons] at l12; omega) (by rw [List.length_cons] at hn0; omega) fun Gb fs2 gb2 Cb gwb rb hnb bdb gob => ?_
    refine ⟨_, by show (2 * many.toNat - Y.length) * (ps.length + 1) + line0.length < _; omega, Y, fs2, line0, _, _, _, _, _, rfl, gxa.of (fun y hy => gob y (dis y hy)), gb2, by rw [gob l lx2]; exact gla, fun y o y2 y3 e => by rw [gob y y3]; exact goa y o y2 y3 e, L.skip hw e' Cb gwb rb hnb, bdb, gw'.trans gwb, hY, by omega, rfl⟩
  | none =>
    conv => whnf
    rw [show insOf "Floor" (W.ref x.a) Ga = some (flF x f.letter) by unfold insOf; dsimp only; rw [gxa.a]; rfl]
    refine ⟨rfl, ?_⟩
    conv => whnf
    refine p_Floor_lay gxa tv e' (by show Y.length ≤ 1000; omega) ndx fun Gb gxb gob => ?_
    have glb : Gb l = some (.lst (line0.map lineW)) := by rw [gob l hl0.2]; exact gla
    conv => whnf
    refine ⟨recL_lst glb, ?_⟩
    (try conv => whnf); (repeat (first | (rw [gxb.a]; conv => whnf) | (rw [gxb.p]; conv => whnf) | (refine Exists.intro _ (And.intro rfl ?_); conv => whnf) | (refine And.intro rfl ?_; conv => whnf) | (refine frz_lst ?_; conv => whnf) | (refine frz_dK ?_; conv => whnf) | (refine frz_dT ?_; conv => whnf)))
    refine compW_pure (f := cTup) (v := fun r => lineW (goI p k, r)) gxb.p ps [] (by rw [List.length_nil, Nat.zero_add, sizeLine_eq]; omega) (fun z hz R' q' => ?_) ?_
    · conv => whnf
      exact ⟨sz2L _ _, q'⟩
    intro D hD
    have Dl : D ≠ l := fun e => by rw [e, glb] at hD; cases hD
    have hDx : D ∉ x.ads := fun z => by obtain ⟨o, ho⟩ := gxb.some z; rw [ho] at hD; cases hD
    have hDr : D ∉ x2.flatMap FA.ads := fun z => by
      obtain ⟨o, ho⟩ := fls_some gra D z
      rw [← gob D fun y => dis D y z] at ho
      rw [ho] at hD; cases hD
    conv => whnf
    rw [updG_ne (Ne.symm Dl), glb, updG_same]
    dsimp only
    have hYlt : Y.length + 1 ≤ 2 * many.toNat := by
      have := (L.lay hw e').ok.len
      have : (Y ++ [(goI p k, thenL w p)]).length ≤ 2 * many.toNat := this
      rwa [List.length_append, List.length_singleton] at this
    have hmul : Y.length * ps.length ≤ 24 * 289 := Nat.mul_le_mul (by omega) hpsl.1
    refine ⟨by rw [List.length_append, List.length_map, List.length_map, List.length_nil, sizeLine_eq]; omega, ?_⟩
    refine ⟨_, ?_, Y ++ [(goI p k, thenL w p)], fs', line0 ++ ps.map (fun r => (goI p k, r)), _, _, _, _, _, rfl, gxb.of (fun y hy => ?_), fls_of gra (fun y hy => ?_), ?_, fun y o y2 y3 e => ?_, L.lay hw e', bd', gw', ?_, ?_, rfl⟩
    · obtain ⟨e2, he2⟩ : ∃ e2, 2 * many.toNat - Y.length = e2 + 1 := ⟨2 * many.toNat - Y.length - 1, by omega⟩
      rw [List.length_append, List.length_singleton, List.length_append, List.length_map, he2, show 2 * many.toNat - (Y.length + 1) = e2 by omega, Nat.add_mul]
      omega
    · rw [updG_ne (fun e : y = l => hl0.2 (e ▸ hy)), updG_ne (fun e : y = D => hDx (e ▸ hy))]
    · rw [updG_ne (fun e : y = l => lx2 (e ▸ hy)), updG_ne (fun e : y = D => hDr (e ▸ hy)), gob y fun z => dis y z hy]
    · rw [updG_same, List.map_append, List.map_map]; rfl
    · have yl : y ≠ l := fun z => by rw [z, hl0.1] at e; cases e
      have yb : Gb y = some o := by rw [gob y y2]; exact goa y o y2 y3 e
      have yD : y ≠ D := fun z => by rw [z, hD] at yb; cases yb
      rw [updG_ne yl, updG_ne yD]; exact yb
    · obtain ⟨ex, hex⟩ := hY
      exact ⟨ex ++ [(goI p k, thenL w p)], by rw [hex, List.append_assoc]⟩
    · simp only [List.length_append, List.length_singleton, List.length_map, Nat.add_mul]
      omega
abbrev N_chain_of : List Str := ["many", "firsts", "makers", "known", "letter", "chain", "k", "maker"]
structure P_chain_of (ws : List W) (G : GH) (R : KW) (RX : XW) : Prop where
  ex : ∃ (many : Int) (fw : W) (fl : List Int) (ms : List (List Int)), ws = [.int many, fw, .fl (ms.map cTup)] ∧ (1 ≤ many) ∧ (many ≤ 12) ∧ (SeqI G fl fw) ∧ (∀ l ∈ fl, LetOf many l) ∧ ((absL fl).Nodup) ∧ (∀ t ∈ ms, TurnOf many t) ∧ (ms.length ≤ 1000) ∧ (∀ c xs fs G', G' c = some (.lst (xs.map fun x => .ref x.a)) → Paired (FlAt G') xs fs → (c :: xs.flatMap FA.ads).Nodup → Comp many [] fs → fs.map (·.letter) = lettersC many fl → (∀ t ∈ ms, Rep many fs t) → (∀ p ∈ nextP fs, p ∈ ms) → ExtG G G' → (∀ y ∈ c :: xs.flatMap FA.ads, G y = none) → R (.ref c) G')
theorem len_chain_of : ∀ ws G R RX, P_chain_of ws G R RX → ws.length = ["many", "firsts", "makers"].length := by
  rintro ws G R RX ⟨⟨_, _, _, _, rfl, _, _, _, _, _, _, _, _⟩⟩; rfl
theorem p_chain_of {many : Int} {fw : W} {fl : List Int} {ms : List (List Int)} {G : GH} {R : KW} {RX : XW} (h0 : 1 ≤ many) (m12 : many ≤ 12) (hfw : SeqI G fl fw) (hf : ∀ l ∈ fl, LetOf many l) (nd : (absL fl).Nodup) (hms : ∀ t ∈ ms, TurnOf many t) (hml : ms.length ≤ 1000) (q : ∀ c xs fs G', G' c = some (.lst (xs.map fun x => .ref x.a)) → Paired (FlAt G') xs fs → (c :: xs.flatMap FA.ads).Nodup → Comp many [] fs → fs.map (·.letter) = lettersC many fl → (∀ t ∈ ms, Rep many fs t) → (∀ p ∈ nextP fs, p ∈ ms) → ExtG G G' → (∀ y ∈ c :: xs.flatMap FA.ads, G y = none) → R (.ref c) G') : P_chain_of [.int many, fw, .fl (ms.map cTup)] G R RX := ⟨many, fw, fl, ms, rfl, h0, m12, hfw, hf, nd, hms, hml, q⟩
def T_chain_of : TWS :=
  (sSeq (sSet 3 (tFz (tDictC (tISeq (tV 1)) (gN 4) tYesW (tCW absW (tCo (tV 4) tN)) (tK (.bl true)) [4])))
    (sSeq (sSet 5 (tComp (tISeq (tFz (tOpW addW (tFz (tCW toListDW (tCo (tV 1) tN))) (tFz (tComp (tISeq (tCall0 P_still [] (tCo (tV 0) tN))) (gN 6) (tTestW (tOpW (inQ true) (tV 6) (tV 3))) (tV 6) [6]))))) (gN 4) tYesW (tMakeW "Floor" P_Floor___init__ [] (tCo (tV 4) (tCo (tV 0) tN))) [4]))
    (sSeq (sFor (tISeq (tV 2)) (gN 7) (sDrop (tCall0 P_let_in [] (tCo (tV 5) (tCo (tK (.int 0)) (tCo (tV 7) tN))))))
    (sRet (tV 5)))))
theorem rd_chain_of (ws : List W) (G : GH) (R : KW) (RX : XW) (h : P_chain_of ws G R RX) : T_chain_of { nx := fun _ G' => fgt R .non G', rt := fgt R } (startW N_chain_of ws) G := by
  obtain ⟨many, fw, fl, ms, rfl, h0, m12, hfw, hf, nd, hms, hml, q⟩ := h
  have hfl := len_le_of_abs (by omega) hf nd
  have hgd : ∀ p, fw = .ref p → G p = some (.lst (fl.map W.int)) := fun p e => by
    subst e
    rcases items_cases hfw with z | z | z | ⟨p', z, hp⟩
    · cases z
    · cases z
    · cases z
    · cases z; exact hp
  rcases items_cases hfw with rfl | rfl | rfl | ⟨p, rfl, hp⟩
  all_goals
    (try replace hgd := hgd _ rfl)
    conv => whnf
    (try rw [hgd])
    refine compD_pure (f := W.int) (kf := fun l => Sum.inl (absI l)) (vf := fun _ => W.bl true) (by first | trivial | exact hgd) fl [] (by rw [sizeLine_eq, List.length_nil]; omega) (fun x _ R' q' => ?_) ?_
    · conv => whnf
      exact q' (.int (absI x)) rfl
    rw [show (fl.map fun x => ((Sum.inl (absI x) : Key), W.bl true)) = (absL fl).map fun n => ((Sum.inl n : Key), W.bl true) by unfold absL; rw [List.map_map]; rfl]
    rw [mergeW_nodup _ [] (by rw [List.map_nil, List.nil_append, List.map_map]; exact nodup_inl nd), List.nil_append]
    refine frz_dK ?_
    conv => whnf
    (try (rw [show keysIn (W.ref p) G = none by unfold keysIn; dsimp only; rw [hp]]))
    (try conv => whnf)
    (try rw [show itemsW (W.ref p) G = some (fl.map W.int) from hfw])
    (try conv => whnf)
    refine frz_lst ?_
    conv => whnf
    refine p_still (by omega) (by omega) ?_
    refine compW_pureF (f := W.int) (v := W.int) (keep := fun k => !decide (k ∈ absL fl)) trivial (stillL many) [] (by unfold stillL; rw [sizeLine_eq, rgI_length, List.length_nil]; omega) (fun k hk R' N' k1 k2 => ?_) ?_
    · conv => whnf
      refine ⟨_, rfl, ?_⟩
      rw [val_known]
      by_cases hkf : k ∈ absL fl
      · rw [decide_eq_true hkf] at k2 ⊢
        conv => whnf
        exact k2 rfl
      · rw [decide_eq_false hkf] at k1 ⊢
        conv => whnf
        exact k1 rfl
    rw [List.nil_append]
    refine frz_lst ?_
    conv => whnf
    refine ⟨by rw [List.length_map, List.length_map, sizeLine_eq]; have := List.length_filter_le (fun k => !decide (k ∈ absL fl)) (stillL many); unfold stillL at this; rw [rgI_length] at this; unfold stillL; omega, ?_⟩
    refine frz_lst ?_
    conv => whnf
    rw [← List.map_append]
    have hlet := lettersC_let h0 hf
    have hcov := lettersC_cover (many := many) (fl := fl)
    have hlen := lettersC_len h0 hf nd
    rw [show fl ++ (stillL many).filter (fun k => !decide (k ∈ absL fl)) = lettersC many fl from rfl]
    generalize hLC : lettersC many fl = LC at hlet hcov hlen q ⊢
    refine compW_map (f := W.int) (I := fun ys G' acc => ∃ (xs : List FA) (dn : List Int), dn ++ ys = LC ∧ acc = xs.map (fun x => W.ref x.a) ∧ Paired (FlAt G') xs (dn.map (initF many)) ∧ (xs.flatMap FA.ads).Nodup ∧ (∀ y ∈ xs.flatMap FA.ads, G y = none) ∧ ExtG G G') (fun l ls G' acc => ?_) (fun G' acc => ?_) LC G [] ⟨[], [], rfl, rfl, .nil, .nil, (fun y h => by cases h), .refl⟩
    · rintro ⟨xs, dn, hdn, rfl, hxs, ndx, hG, X⟩ N hN
      have hl : LetOf many l := hlet l (by rw [← hdn]; simp)
      refine ⟨trivial, ?_⟩
      conv => whnf
      intro a ha
      refine p_Floor___init__ updG_same h0 (by omega) fun dd ee pp G2 hfa hnd hdd hee hpp go => ?_
      have na : a ≠ dd ∧ a ≠ ee ∧ a ≠ pp := by
        simp only [List.nodup_cons, List.mem_cons, List.not_mem_nil, or_false, not_or] at hnd
        exact hnd.1
      have hdd0 : G' dd = none := by rwa [updG_ne (Ne.symm na.1)] at hdd
      have hee0 : G' ee = none := by rwa [updG_ne (Ne.symm na.2.1)] at hee
      have hpp0 : G' pp = none := by rwa [updG_ne (Ne.symm na.2.2)] at hpp
      have hnew : ∀ y ∈ (⟨a, dd, ee, pp⟩ : FA).ads, G' y = none := fun y hy => by
        simp only [FA.ads, List.mem_cons, List.not_mem_nil, or_false] at hy
        rcases hy with rfl | rfl | rfl | rfl
        · exact ha
        · exact hdd0
        · exact hee0
        · exact hpp0
      have hold : ∀ y o, G' y = some o → G2 y = some o := fun y o e => by
        have hy : y ∉ [a, dd, ee, pp] := fun z => by rw [hnew y z] at e; cases e
        have hya : y ≠ a := fun z => hy (by rw [z]; simp)
        rw [go y hy, updG_ne hya]; exact e
      have hne : ∀ y ∈ xs.flatMap FA.ads, y ∉ (⟨a, dd, ee, pp⟩ : FA).ads := fun y hy z => by
        obtain ⟨o, ho⟩ := fls_some hxs y hy
        rw [hnew y z] at ho; cases ho
      refine ⟨rfl, ?_⟩
      refine ⟨?_, hN _ _ ⟨xs ++ [⟨a, dd, ee, pp⟩], dn ++ [l], by rw [List.append_assoc]; exact hdn, by rw [List.map_append]; rfl, ?_, ?_, ?_, ?_⟩⟩
      · rw [List.length_map, sizeLine_eq, Paired.length hxs, List.length_map]
        have := congrArg List.length hdn
        rw [List.length_append] at this
        omega
      · rw [List.map_append]
        exact Paired.app (fls_of hxs fun y hy => by
          obtain ⟨o, ho⟩ := fls_some hxs y hy
          rw [ho, hold y o ho]) (.cons hfa .nil)
      · rw [List.flatMap_append, List.flatMap_cons, List.flatMap_nil, List.append_nil]
        exact List.nodup_append.mpr ⟨ndx, hnd, fun y hy z hz e => hne y hy (e ▸ hz)⟩
      · intro y hy
        rw [List.flatMap_append, List.flatMap_cons, List.flatMap_nil, List.append_nil] at hy
        rcases List.mem_append.mp hy with hy | hy
        · exact hG y hy
        · cases e : G y with
          | none => rfl
          | some o => have := hnew y hy; rw [X y o e] at this; cases this
      · exact fun y o e => hold y o (X y o e)
    · rintro ⟨xs, dn, hdn, rfl, hxs, ndx, hG, X⟩
      rw [List.append_nil] at hdn
      subst hdn
      refine ⟨trivial, fun c hc => ?_⟩
      conv => whnf
      have hcG : G c = none := by
        cases e : G c with
        | none => rfl
        | some o => rw [X c o e] at hc; cases hc
      have hcx : c ∉ xs.flatMap FA.ads := fun z => by
        obtain ⟨o, ho⟩ := fls_some hxs c z
        rw [ho] at hc; cases hc
      have ndc : (c :: xs.flatMap FA.ads).Nodup := List.nodup_cons.mpr ⟨hcx, ndx⟩
      have hall : ∀ y ∈ c :: xs.flatMap FA.ads, G y = none := fun y hy => by
        rcases List.mem_cons.mp hy with rfl | hy
        · exact hcG
        · exact hG y hy
      have C0 : Comp many [] (dn.map (initF many)) := comp_init h0 (by omega) dn [] hlet hcov
      have hxl := Paired.length hxs
      rw [List.length_map] at hxl
      refine forW_map (f := cTup) (I := fun ts S G2 => ∃ (x4 x6 x7 : Option W) (fs : List Fl) (dt : List (List Int)), S = [some (.int many), some _, some (.fl (ms.map cTup)), some _, x4, some (.ref c), x6, x7] ∧ dt ++ ts = ms ∧ G2 c = some (.lst (xs.map fun x => .ref x.a)) ∧ Paired (FlAt G2) xs fs ∧ Comp many [] fs ∧ Bd fs ∧ fs.map (·.letter) = dn ∧ (∀ t ∈ dt, Rep many fs t) ∧ (∀ p ∈ nextP fs, p ∈ ms) ∧ ExtG G G2) (fun t ts S G2 => ?_) (fun S G2 => ?_) ms _ _ ⟨_, _, _, dn.map (initF many), [], rfl, rfl, updG_same, fls_of hxs (fun y hy => updG_ne (fun e => hcx (e ▸ hy))), C0, (bd_init dn).1, by rw [List.map_map]; exact List.map_id _, (fun t h => by cases h), (fun p hp => by cases dn with | nil => cases hp | cons a b => cases hp), X.trans (.new hc)⟩
      · rintro ⟨x4, x6, x7, fs, dt, rfl, hdt, g2c, gxs, Cf, bdf, hlt, hrp, hnp, X2⟩ N hN
        have tt : TurnOf many t := hms t (by rw [← hdt]; simp)
        refine ⟨trivial, ?_⟩
        conv => whnf
        refine p_let_in (c := c) (x1 := []) (x2 := xs) (fs0 := fs) (ah := []) rfl g2c gxs ndc Cf tt (fun l hl => by cases hl) bdf m12 (by rw [List.length_nil, Nat.zero_add, hxl]; omega) (by rw [← Paired.length gxs, hxl]; omega) fun G3 fs3 g3 C3 gw3 r3 hn3 bd3 go3 => ?_
        refine hN _ _ ⟨_, _, _, fs3, dt ++ [t], rfl, by rw [List.append_assoc]; exact hdt, by rw [go3 c hcx]; exact g2c, g3, C3, bd3, by rw [grow_let gw3]; exact hlt, fun u hu => ?_, fun p hp => ?_, fun y o e => ?_⟩
        · rcases List.mem_append.mp hu with hu | hu
          · exact rep_grow Cf.owned gw3 (hrp u hu)
          · rw [List.mem_singleton.mp hu]; exact r3
        · rcases hn3 p hp with z | z
          · exact hnp p z
          · rw [z, ← hdt]; simp
        · rw [go3 y fun z => by rw [hG y z] at e; cases e]
          exact X2 y o e
      · rintro ⟨x4, x6, x7, fs, dt, rfl, hdt, g2c, gxs, Cf, bdf, hlt, hrp, hnp, X2⟩
        rw [List.append_nil] at hdt
        subst hdt
        refine ⟨trivial, ?_⟩
        conv => whnf
        exact ret (q c xs fs G2 g2c gxs ndc Cf hlt hrp hnp X2 hall)
abbrev N_need_truths_x : List Str := ["many"]
structure P_need_truths_x (ws : List W) (G : GH) (R : KW) (RX : XW) : Prop where
  ex : ∃ (w : W), ws = [w] ∧ (tyW w G ≠ none) ∧ (if truthsB w = true then R .non G else RX "NoProblem" [] G)
theorem len_need_truths_x : ∀ ws G R RX, P_need_truths_x ws G R RX → ws.length = ["many"].length := by
  rintro ws G R RX ⟨⟨_, rfl, _, _⟩⟩; rfl
theorem p_need_truths_x {w : W} {G : GH} {R : KW} {RX : XW} (ty : tyW w G ≠ none) (q : if truthsB w = true then R .non G else RX "NoProblem" [] G) : P_need_truths_x [w] G R RX := ⟨w, rfl, ty, q⟩
def T_need_truths_x (RX : XW) : TWS :=
  (sIf (tOrW (tNotW (tTruW (tCall0 P_is_number [] (tCo (tV 0) tN)))) (tNotW (tTestW (tChainW leW leW (tK (.int 1)) (tV 0) (tK (.int 12)))))) (sRaise "NoProblem" (xs RX)) sNext)
theorem rd_need_truths_x (ws : List W) (G : GH) (R : KW) (RX : XW) (h : P_need_truths_x ws G R RX) : T_need_truths_x RX { nx := fun _ G' => fgt R .non G', rt := fgt R } (startW N_need_truths_x ws) G := by
  obtain ⟨w, rfl, ty, q⟩ := h
  conv => whnf
  refine p_is_number ty ?_
  have other : truthsB w = false → isInt w = false → RX "NoProblem" [] G := fun e _ => by rw [if_neg (by rw [e]; decide)] at q; exact q
  cases w with
  | int i =>
    conv => whnf
    by_cases h1 : 1 ≤ i
    · rw [decide_eq_true h1]
      conv => whnf
      by_cases h2 : i ≤ 12
      · rw [decide_eq_true h2]
        conv => whnf
        rw [if_pos (by unfold truthsB; dsimp only; rw [decide_eq_true h1, decide_eq_true h2]; rfl)] at q
        exact ret q
      · rw [decide_eq_false h2]
        conv => whnf
        rw [if_neg (by unfold truthsB; dsimp only; rw [decide_eq_false h2, Bool.and_false]; decide)] at q
        exact q
    · rw [decide_eq_false h1]
      conv => whnf
      rw [if_neg (by unfold truthsB; dsimp only; rw [decide_eq_false h1, Bool.false_and]; decide)] at q
      exact q
  | _ =>
    conv => whnf
    exact other rfl rfl
abbrev N_need_makers_x : List Str := ["many", "makers", "maker"]
structure P_need_makers_x (ws : List W) (G : GH) (R : KW) (RX : XW) : Prop where
  ex : ∃ (many : Int) (w : W), ws = [.int many, w] ∧ (AskL G w) ∧ (wishMk many w G (R .non G) (RX "TooMany" [] G) (RX "NoTurn" [] G))
theorem len_need_makers_x : ∀ ws G R RX, P_need_makers_x ws G R RX → ws.length = ["many", "makers"].length := by
  rintro ws G R RX ⟨⟨_, _, rfl, _, _⟩⟩; rfl
theorem p_need_makers_x {many : Int} {w : W} {G : GH} {R : KW} {RX : XW} (ask : AskL G w) (q : wishMk many w G (R .non G) (RX "TooMany" [] G) (RX "NoTurn" [] G)) : P_need_makers_x [.int many, w] G R RX := ⟨many, w, rfl, ask, q⟩
def T_need_makers_x (RX : XW) : TWS :=
  (sSeq (sIf (tNotW (tTruW (tCW (isiC2 .li .tu) (tCo (tV 1) (tCo (tTupW (tCo (tK (.ty "list")) (tCo (tK (.ty "tuple")) tN))) tN))))) (sRaise "NoTurn" (xs RX)) sNext)
    (sSeq (sIf (tTestW (tOpW gtW (tCW lenQ (tCo (tV 1) tN)) (tK (.int 60)))) (sRaise "TooMany" (xs RX)) sNext)
    (sIf (tNotW (tTruW (tCF (fBols fun bs => bs.all fun b => b) (tCompI (tISeq (tV 1)) (gN 2) tYesW (tCall0 P_is_turn [] (tCo (tV 2) (tCo (tV 0) tN))) [2])))) (sRaise "NoTurn" (xs RX)) sNext)))
theorem rd_need_makers_x (ws : List W) (G : GH) (R : KW) (RX : XW) (h : P_need_makers_x ws G R RX) : T_need_makers_x RX { nx := fun _ G' => fgt R .non G', rt := fgt R } (startW N_need_makers_x ws) G := by
  obtain ⟨many, w, rfl, ask, q⟩ := h
  conv => whnf
  cases e : tyW w G with
  | none => exact absurd e ask.ty
  | some t =>
    refine ⟨sz2L _ _, ?_⟩
    conv => whnf
    refine ⟨rfl, rfl, isi2W_of e ?_⟩
    rw [ty_seq e]
    unfold wishMk at q
    cases es : itemsW w G with
    | none =>
      rw [es] at q
      conv => whnf
      exact q
    | some ws =>
      rw [es] at q
      dsimp only at q
      obtain ⟨hl, hx⟩ := ask.it ws es
      conv => whnf
      rcases items_cases es with rfl | rfl | rfl | ⟨p, rfl, hp⟩
      all_goals
        conv => whnf
        (try rw [hp])
        (try conv => whnf)
        by_cases h60 : 60 < ws.length
        · rw [decide_eq_true (show (60 : Int) < (ws.length : Nat) by omega)]
          rw [if_pos h60] at q
          conv => whnf
          exact q
        · rw [decide_eq_false (show ¬ (60 : Int) < (ws.length : Nat) by omega)]
          rw [if_neg h60] at q
          conv => whnf
          (try rw [hp])
          refine compW_pureW (v := fun x => W.bl (turnB many x)) (by first | trivial | exact hp) (by rw [sizeLine_eq]; omega) (fun x hm R' q' => p_is_turn (hx x hm) q') ?_
          try unfold fBols
          try dsimp only
          rw [bls_map]
          dsimp only
          rw [all_idB]
          cases ea : ws.all (turnB many) with
          | true =>
            rw [ea] at q
            conv => whnf
            exact ret q
          | false =>
            rw [ea] at q
            conv => whnf
            exact q
abbrev N_need_letters_x : List Str := ["many", "letters", "letter"]
structure P_need_letters_x (ws : List W) (G : GH) (R : KW) (RX : XW) : Prop where
  ex : ∃ (many : Int) (w : W), ws = [.int many, w] ∧ (AskL G w) ∧ (wishLt many w G (R .non G) (RX "NoLetter" [] G))
theorem len_need_letters_x : ∀ ws G R RX, P_need_letters_x ws G R RX → ws.length = ["many", "letters"].length := by
  rintro ws G R RX ⟨⟨_, _, rfl, _, _⟩⟩; rfl
theorem p_need_letters_x {many : Int} {w : W} {G : GH} {R : KW} {RX : XW} (ask : AskL G w) (q : wishLt many w G (R .non G) (RX "NoLetter" [] G)) : P_need_letters_x [.int many, w] G R RX := ⟨many, w, rfl, ask, q⟩
def T_need_letters_x (RX : XW) : TWS :=
  (sIf (tOrW (tNotW (tTruW (tCW (isiC2 .li .tu) (tCo (tV 1) (tCo (tTupW (tCo (tK (.ty "list")) (tCo (tK (.ty "tuple")) tN))) tN))))) (tNotW (tTruW (tCF (fBols fun bs => bs.all fun b => b) (tCompI (tISeq (tV 1)) (gN 2) tYesW (tCall0 P_is_letter [] (tCo (tV 2) (tCo (tV 0) tN))) [2]))))) (sRaise "NoLetter" (xs RX)) sNext)
theorem rd_need_letters_x (ws : List W) (G : GH) (R : KW) (RX : XW) (h : P_need_letters_x ws G R RX) : T_need_letters_x RX { nx := fun _ G' => fgt R .non G', rt := fgt R } (startW N_need_letters_x ws) G := by
  obtain ⟨many, w, rfl, ask, q⟩ := h
  conv => whnf
  cases e : tyW w G with
  | none => exact absurd e ask.ty
  | some t =>
    refine ⟨sz2L _ _, ?_⟩
    conv => whnf
    refine ⟨rfl, rfl, isi2W_of e ?_⟩
    rw [ty_seq e]
    unfold wishLt at q
    cases es : itemsW w G with
    | none =>
      rw [es] at q
      conv => whnf
      exact q
    | some ws =>
      rw [es] at q
      dsimp only at q
      obtain ⟨hl, hx⟩ := ask.it ws es
      conv => whnf
      rcases items_cases es with rfl | rfl | rfl | ⟨p, rfl, hp⟩
      all_goals
        conv => whnf
        (try rw [hp])
        refine compW_pureW (v := fun x => W.bl (letterB many x)) (by first | trivial | exact hp) (by rw [sizeLine_eq]; omega) (fun x hm R' q' => p_is_letter (hx x hm).ty q') ?_
        try unfold fBols
        try dsimp only
        rw [bls_map]
        dsimp only
        rw [all_idB]
        cases ea : ws.all (letterB many) with
        | true =>
          rw [ea] at q
          conv => whnf
          exact ret q
        | false =>
          rw [ea] at q
          conv => whnf
          exact q
abbrev N_unlike : List Str := ["things", "thing"]
structure P_unlike (ws : List W) (G : GH) (R : KW) (RX : XW) : Prop where
  ex : ∃ (w : W), ws = [w] ∧ ((∃ ns : List Int, SeqI G ns w ∧ ns.length ≤ 100000 ∧ R (.fl ((dedI ns).map W.int)) G) ∨ (∃ cs : List (List Int), SeqC G cs w ∧ cs.length ≤ 100000 ∧ R (.fl ((dedX [] cs).map cTup)) G))
theorem len_unlike : ∀ ws G R RX, P_unlike ws G R RX → ws.length = ["things"].length := by
  rintro ws G R RX ⟨⟨_, rfl, _⟩⟩; rfl
theorem p_unlike {w : W} {G : GH} {R : KW} {RX : XW}  (q : (∃ ns : List Int, SeqI G ns w ∧ ns.length ≤ 100000 ∧ R (.fl ((dedI ns).map W.int)) G) ∨ (∃ cs : List (List Int), SeqC G cs w ∧ cs.length ≤ 100000 ∧ R (.fl ((dedX [] cs).map cTup)) G)) : P_unlike [w] G R RX := ⟨w, rfl, q⟩
def T_unlike : TWS :=
  (sRet (tFz (tAlt (tCW toListDW (tCo (tFz (tDictC (tISeq (tV 0)) (gN 1) tYesW (tV 1) (tK (.bl true)) [1])) tN)) (tCW toListTW (tCo (tFz (tDictT (tISeq (tV 0)) (gN 1) tYesW (tV 1) (tK (.bl true)) [1])) tN)))))
theorem rd_unlike (ws : List W) (G : GH) (R : KW) (RX : XW) (h : P_unlike ws G R RX) : T_unlike { nx := fun _ G' => fgt R .non G', rt := fgt R } (startW N_unlike ws) G := by
  obtain ⟨w, rfl, q⟩ := h
  conv => whnf
  rcases q with ⟨ns, hw, hl, q⟩ | ⟨cs, hw, hl, q⟩
  · refine .inl ?_
    rcases items_cases hw with rfl | rfl | rfl | ⟨p, rfl, hp⟩
    all_goals
      conv => whnf
      (try rw [hp])
      refine compD_pure (f := W.int) (kf := fun l => Sum.inl l) (vf := fun _ => W.bl true) (by first | trivial | exact hp) ns [] (by rw [sizeLine_eq, List.length_nil]; omega) (fun x _ R' q' => ?_) ?_
      · conv => whnf
        exact q' (.int x) rfl
      rw [merge_dedI]
      refine frz_dK ?_
      conv => whnf
      rw [List.map_map]
      exact frz_lst (ret q)
  · refine .inr ?_
    rcases items_cases hw with rfl | rfl | rfl | ⟨p, rfl, hp⟩
    all_goals
      conv => whnf
      (try rw [hp])
      refine compT_pure (f := cTup) (kf := kI) (v := W.bl true) (by first | trivial | exact hp) cs [] (by rw [sizeLine_eq]; simp; omega) (fun c hm R' q' => q' _ (by show keysOf (c.map W.int) = _; exact keysOf_ints c)) ?_
      rw [mergeT_ded]
      refine frz_dT ?_
      conv => whnf
      rw [show ((cDict (dedX [] cs)).map fun kw => ktup kw.1) = (dedX [] cs).map cTup by
        unfold cDict
        rw [List.map_map]
        exact List.map_congr_left fun c _ => ktup_kI c]
      exact frz_lst (ret q)
abbrev N_Group___init___x : List Str := ["self", "many", "makers", "base", "letter", "maker"]
structure P_Group___init___x (ws : List W) (G : GH) (R : KW) (RX : XW) : Prop where
  ex : ∃ (g : Addr) (mw kw bw : W), ws = [.ref g, mw, kw, bw] ∧ (G g = some (.ins "Group" [])) ∧ (tyW mw G ≠ none) ∧ (AskL G kw) ∧ (AskL G bw) ∧ (wishGr mw kw bw G (∀ many fl ms ch fw, mw = .int many → itemsW kw G = some (ms.map cTup) → itemsW bw G = some (fl.map W.int) → fw.tup? = some (fl.map W.int) → GrOk many fl (makersL many ms) ch → R .non (updG G g (.ins "Group" (grF many fw (makersL many ms) ch)))) (fun c => RX c [] G))
theorem len_Group___init___x : ∀ ws G R RX, P_Group___init___x ws G R RX → ws.length = ["self", "many", "makers", "base"].length := by
  rintro ws G R RX ⟨⟨_, _, _, _, rfl, _, _, _, _, _⟩⟩; rfl
theorem p_Group___init___x {g : Addr} {mw kw bw : W} {G : GH} {R : KW} {RX : XW} (gg : G g = some (.ins "Group" [])) (am : tyW mw G ≠ none) (ak : AskL G kw) (ab : AskL G bw) (q : wishGr mw kw bw G (∀ many fl ms ch fw, mw = .int many → itemsW kw G = some (ms.map cTup) → itemsW bw G = some (fl.map W.int) → fw.tup? = some (fl.map W.int) → GrOk many fl (makersL many ms) ch → R .non (updG G g (.ins "Group" (grF many fw (makersL many ms) ch)))) (fun c => RX c [] G)) : P_Group___init___x [.ref g, mw, kw, bw] G R RX := ⟨g, mw, kw, bw, rfl, gg, am, ak, ab, q⟩
def T_Group___init___x (RX : XW) : TWS :=
  (sSeq (sDrop (tCallX P_need_truths_x [] (xs RX) (tCo (tV 1) tN)))
    (sSeq (sDrop (tCallX P_need_makers_x [] (xs RX) (tCo (tV 1) (tCo (tV 2) tN))))
    (sSeq (sDrop (tCallX P_need_letters_x [] (xs RX) (tCo (tV 1) (tCo (tV 3) tN))))
    (sSeq (sIf (tTestW (tOpW ltW (tCW lenQ (tCo (tCall0 P_unlike [] (tCo (tFz (tComp (tISeq (tV 3)) (gN 4) tYesW (tCW absW (tCo (tV 4) tN)) [4])) tN)) tN)) (tCW lenQ (tCo (tV 3) tN)))) (sRaise "NoLetter" (xs RX)) sNext)
    (sSeq (sFldW "Group" "many" (tV 0) (tV 1))
    (sSeq (sFldW "Group" "firsts" (tV 0) (tCW toTupW (tCo (tV 3) tN)))
    (sSeq (sFldW "Group" "pushers" (tV 0) (tFz (tComp (tISeq (tCall0 P_unlike [] (tCo (tV 2) tN))) (gN 5) (tTestW (tOpW (eqQ true) (tV 5) (tCall0 P_still [] (tCo (tV 1) tN)))) (tV 5) [5])))
    (sFldW "Group" "chain" (tV 0) (tFzD (tCall0 P_chain_of [] (tCo (tV 1) (tCo (tV 3) (tCo (tFldW "Group" "pushers" (tV 0)) tN)))))))))))))
theorem rd_Group___init___x (ws : List W) (G : GH) (R : KW) (RX : XW) (h : P_Group___init___x ws G R RX) : T_Group___init___x RX { nx := fun _ G' => fgt R .non G', rt := fgt R } (startW N_Group___init___x ws) G := by
  obtain ⟨g, mw, kw, bw, rfl, gg, am, ak, ab, q⟩ := h
  conv => whnf
  unfold wishGr at q
  refine p_need_truths_x am ?_
  by_cases hT : truthsB mw = true
  case neg => rw [if_neg hT] at q ⊢; exact q
  rw [if_pos hT] at q ⊢
  obtain ⟨many, rfl, h0, h12⟩ : ∃ many, mw = .int many ∧ 1 ≤ many ∧ many ≤ 12 := by
    cases mw with
    | int i =>
      unfold truthsB at hT
      dsimp only at hT
      rw [Bool.and_eq_true, decide_eq_true_iff, decide_eq_true_iff] at hT
      exact ⟨i, rfl, hT⟩
    | _ => cases hT
  conv => whnf
  refine p_need_makers_x ak ?_
  unfold wishMk at q ⊢
  change match itemsW kw G with | none => _ | some ws => if 60 < ws.length then _ else if ws.all (turnB many) = true then _ else _ at q
  cases es : itemsW kw G with
  | none => rw [es] at q; exact q
  | some ws =>
  rw [es] at q
  dsimp only at q ⊢
  by_cases h60 : 60 < ws.length
  · rw [if_pos h60] at q ⊢; exact q
  rw [if_neg h60] at q ⊢
  by_cases hall : ws.all (turnB many) = true
  case neg => rw [if_neg hall] at q ⊢; exact q
  rw [if_pos hall] at q ⊢
  obtain ⟨ms, rfl, hms⟩ := turns_all hall
  conv => whnf
  refine p_need_letters_x ab ?_
  unfold wishLt at q ⊢
  change match itemsW bw G with | none => _ | some ws => if ws.all (letterB many) = true then _ else _ at q
  cases eb : itemsW bw G with
  | none => rw [eb] at q; exact q
  | some bs =>
  rw [eb] at q
  dsimp only at q ⊢
  by_cases hal : bs.all (letterB many) = true
  case neg => rw [if_neg hal] at q ⊢; exact q
  rw [if_pos hal] at q ⊢
  obtain ⟨fl, rfl, hfl⟩ := letters_all hal
  replace q := q fl rfl
  have hfl1 : fl.length ≤ 100000 := by have := (ab.it _ eb).1; rwa [List.length_map] at this
  have hml : ms.length ≤ 60 := by rw [List.length_map] at h60; omega
  rcases items_cases eb with rfl | rfl | rfl | ⟨bp, rfl, hbp⟩
  all_goals
    conv => whnf
    (try rw [hbp])
    refine compW_pure (f := W.int) (v := fun l => W.int (absI l)) (by first | trivial | exact hbp) fl [] (by rw [List.length_nil, sizeLine_eq]; omega) (fun l hl R' q' => ?_) ?_
    · conv => whnf
      exact q'
    rw [List.nil_append, show (fl.map fun l => W.int (absI l)) = (absL fl).map W.int by unfold absL; rw [List.map_map]; rfl]
    refine frz_lst ?_
    conv => whnf
    refine p_unlike (.inl ⟨absL fl, rfl, by unfold absL; rw [List.length_map]; omega, ?_⟩)
    conv => whnf
    (try (rw [hbp]; conv => whnf))
    by_cases hnd : (absL fl).Nodup
    case neg =>
      rw [if_neg hnd] at q
      rw [decide_eq_true (by rw [List.length_map, List.length_map]; have := dedI_lt.mpr hnd; unfold absL at this ⊢; rw [List.length_map] at this; omega)]
      conv => whnf
      exact q
    rw [if_pos hnd] at q
    rw [decide_eq_false (by rw [List.length_map, List.length_map, dedI_self hnd]; unfold absL; rw [List.length_map]; omega)]
    (try conv => whnf); (repeat (first | (rw [gg]; conv => whnf) | (rw [updG_same]; conv => whnf) | (refine Exists.intro _ (And.intro rfl ?_); conv => whnf) | (refine And.intro rfl ?_; conv => whnf) | (refine frz_lst ?_; conv => whnf) | (refine frz_dK ?_; conv => whnf) | (refine frz_dT ?_; conv => whnf)))
    refine ⟨Nat.zero_lt_succ _, ?_⟩
    conv => whnf
    (try (rw [updG_ne (show bp ≠ g from fun e => by rw [e, gg] at hbp; cases hbp), hbp]))
    (try conv => whnf); (repeat (first | (rw [updG_same]; conv => whnf) | (refine Exists.intro _ (And.intro rfl ?_); conv => whnf) | (refine And.intro rfl ?_; conv => whnf) | (refine frz_lst ?_; conv => whnf) | (refine frz_dK ?_; conv => whnf) | (refine frz_dT ?_; conv => whnf)))
    refine ⟨Nat.le_of_ble_eq_true rfl, ?_⟩
    conv => whnf
    refine p_unlike (.inr ⟨ms, items_upd (items_upd es gg) updG_same, by omega, ?_⟩)
    have hdm : (dedX [] ms).length ≤ 60 := by have := dedX_len ms ([] : List (List Int)); rw [List.length_nil] at this; omega
    have htd : ∀ t ∈ dedX [] ms, TurnOf many t := fun t ht => hms t (((dedX_mem _ _ _).mp ht).resolve_left (by simp))
    refine compW_pureF (f := cTup) (v := cTup) (keep := fun t => !decide (t = stillL many)) trivial (dedX [] ms) [] (by rw [List.length_nil, sizeLine_eq]; omega) (fun t ht R' N' k1 k2 => ?_) ?_
    · conv => whnf
      refine p_still (by omega) (by omega) ?_
      refine eq_ints ?_
      by_cases hs : t = stillL many
      · rw [decide_eq_true hs] at k2 ⊢
        conv => whnf
        exact k2 rfl
      · rw [decide_eq_false hs] at k1 ⊢
        conv => whnf
        exact k1 rfl
    rw [List.nil_append, show (dedX [] ms).filter (fun t => !decide (t = stillL many)) = makersL many ms from rfl]
    refine frz_lst ?_
    (try conv => whnf); (repeat (first | (rw [updG_same]; conv => whnf) | (refine Exists.intro _ (And.intro rfl ?_); conv => whnf) | (refine And.intro rfl ?_; conv => whnf) | (refine frz_lst ?_; conv => whnf) | (refine frz_dK ?_; conv => whnf) | (refine frz_dT ?_; conv => whnf)))
    refine ⟨Nat.le_of_ble_eq_true rfl, ?_⟩
    (try conv => whnf); (repeat (first | (rw [updG_same]; conv => whnf) | (refine Exists.intro _ (And.intro rfl ?_); conv => whnf) | (refine And.intro rfl ?_; conv => whnf) | (refine frz_lst ?_; conv => whnf) | (refine frz_dK ?_; conv => whnf) | (refine frz_dT ?_; conv => whnf)))
    have hmk : ∀ t ∈ makersL many ms, t ∈ ms := fun t ht => ((dedX_mem _ _ _).mp (List.mem_filter.mp ht).1).resolve_left (by simp)
    have hml2 : (makersL many ms).length ≤ 60 := Nat.le_trans (List.length_filter_le _ _) hdm
    refine p_chain_of (fl := fl) h0 h12 (items_upd (items_upd (items_upd eb gg) updG_same) updG_same) hfl hnd (fun t ht => hms t (hmk t ht)) (by omega) fun c xs ch G2 gc gx ndc C hlt hrp hnp X hnone => ?_
    refine ⟨_, _, deep_chain gc gx ndc, ?_⟩
    have hgo : g ∉ c :: xs.flatMap FA.ads := fun z => by have := hnone g z; rw [updG_same] at this; cases this
    have g2g : offs G2 (c :: xs.flatMap FA.ads) g = _ := (offs_out hgo).trans (X _ _ updG_same)
    (try conv => whnf); (repeat (first | (rw [g2g]; conv => whnf) | (refine Exists.intro _ (And.intro rfl ?_); conv => whnf) | (refine And.intro rfl ?_; conv => whnf) | (refine frz_lst ?_; conv => whnf) | (refine frz_dK ?_; conv => whnf) | (refine frz_dT ?_; conv => whnf)))
    refine ⟨Nat.le_of_ble_eq_true rfl, ?_⟩
    conv => whnf
    have O : GrOk many fl (makersL many ms) ch := ⟨h0, h12, hfl, hnd, fun t ht => hms t (hmk t ht), fun t ht => by simpa using (List.mem_filter.mp ht).2, List.Nodup.sublist List.filter_sublist (dedX_nodup ms [] .nil), hml2, C, hlt, hrp, hnp⟩
    first
      | (refine ⟨_, ?_, q many fl ms ch (.tup (fl.map W.int)) rfl (by first | rfl | exact es) (by first | rfl | exact eb) rfl O⟩
         intro y o e
         by_cases hy : y = g
         · subst hy
           rw [updG_same] at e ⊢
           exact e
         · rw [updG_ne hy] at e
           rw [updG_ne hy, offs_out fun z => by have := hnone y z; rw [updG_ne hy, updG_ne hy, updG_ne hy, e] at this; cases this]
           exact X _ _ (by rw [updG_ne hy, updG_ne hy, updG_ne hy]; exact e))
      | (refine ⟨_, ?_, q many fl ms ch (.kt (fl.map W.int)) rfl (by first | rfl | exact es) (by first | rfl | exact eb) rfl O⟩
         intro y o e
         by_cases hy : y = g
         · subst hy
           rw [updG_same] at e ⊢
           exact e
         · rw [updG_ne hy] at e
           rw [updG_ne hy, offs_out fun z => by have := hnone y z; rw [updG_ne hy, updG_ne hy, updG_ne hy, e] at this; cases this]
           exact X _ _ (by rw [updG_ne hy, updG_ne hy, updG_ne hy]; exact e))
end WS
set_option Elab.async false
set_option linter.all false
set_option maxRecDepth 100000
set_option maxHeartbeats 4000000
namespace WS
open PySem PySem.Spec PyProof.Rows L2 WL
def pw (t : List Int) : Nat → Int → Int
  | 0, l => l
  | n + 1, l => goI t (pw t n l)
theorem pw_let {many : Int} {t : List Int} (ht : TurnOf many t) {l : Int} (h : LetOf many l) : ∀ n, LetOf many (pw t n l)
  | 0 => h
  | n + 1 => ht.go (pw_let ht h n)
theorem pw_add (t : List Int) (l : Int) (n : Nat) : ∀ m, pw t (m + n) l = pw t m (pw t n l)
  | 0 => by rw [Nat.zero_add]; rfl
  | m + 1 => by rw [Nat.add_right_comm]; show goI t (pw t (m + n) l) = _; rw [pw_add t l n m]; rfl
theorem pw_comm (t : List Int) (m n : Nat) (l : Int) : pw t m (pw t n l) = pw t n (pw t m l) := by rw [← pw_add, ← pw_add, Nat.add_comm]
theorem pw_neg {many : Int} {t : List Int} (ht : TurnOf many t) {l : Int} (h : LetOf many l) : ∀ n, pw t n (-l) = -(pw t n l)
  | 0 => rfl
  | n + 1 => by
    show goI t (pw t n (-l)) = _
    rw [pw_neg ht h n, goI_neg (pw_let ht h n).1]; rfl
theorem pw_inj {many : Int} {t : List Int} (ht : TurnOf many t) {a b : Int} (ha : LetOf many a) (hb : LetOf many b) : ∀ n, pw t n a = pw t n b → a = b
  | 0, e => e
  | n + 1, e => pw_inj ht ha hb n (goI_inj ht (pw_let ht ha n) (pw_let ht hb n) e)
structure IsPer (t : List Int) (l : Int) (n : Nat) : Prop where
  pos : 1 ≤ n
  ret : pw t n l = l
  least : ∀ m, 1 ≤ m → m < n → pw t m l ≠ l
theorem pw_mul {t : List Int} {l : Int} {n : Nat} (h : pw t n l = l) : ∀ q, pw t (n * q) l = l
  | 0 => rfl
  | q + 1 => by rw [Nat.mul_succ, pw_add, h, pw_mul h q]
theorem least_of {p : Nat → Prop} : ∀ n, p n → ∃ k, k ≤ n ∧ p k ∧ ∀ m, m < k → ¬ p m := by
  intro n
  induction n using Nat.strongRecOn with
  | _ n ih =>
    intro h
    by_cases c : ∃ m, m < n ∧ p m
    · obtain ⟨m, hm, pm⟩ := c
      obtain ⟨k, hk, a, b⟩ := ih m hm pm
      exact ⟨k, by omega, a, b⟩
    · exact ⟨n, Nat.le_refl _, h, fun m hm pm => c ⟨m, hm, pm⟩⟩
theorem per_ex {many : Int} {t : List Int} (ht : TurnOf many t) {l : Int} (h : LetOf many l) : ∃ n, IsPer t l n ∧ n ≤ 2 * many.toNat := by
  have h0 := ht.h0
  have ex : ∃ n, 1 ≤ n ∧ n ≤ 2 * many.toNat ∧ pw t n l = l := by
    refine Classical.byContradiction fun no => ?_
    have no : ∀ n, 1 ≤ n → n ≤ 2 * many.toNat → pw t n l ≠ l := fun n a b e => no ⟨n, a, b, e⟩
    have nd : ((List.range (2 * many.toNat + 1)).map fun i => pw t i l).Nodup := by
      rw [List.Nodup, List.pairwise_map]
      have : (List.range (2 * many.toNat + 1)).Pairwise fun a b => a < b ∧ b < 2 * many.toNat + 1 := by
        refine List.Pairwise.imp_of_mem (R := fun a b => a < b) (fun {a b} ha hb hab => ⟨hab, List.mem_range.mp hb⟩) List.pairwise_lt_range
      refine this.imp fun {i j} hij e => ?_
      obtain ⟨hij, hj⟩ := hij
      have ej : j = i + (j - i) := by omega
      rw [ej, pw_add] at e
      exact no (j - i) (by omega) (by omega) (pw_inj ht (pw_let ht h _) h i e.symm)
    have hsub : ∀ a ∈ ((List.range (2 * many.toNat + 1)).map fun i => pw t i l), a ∈ rgI 1 (many + 1) ++ (rgI 1 (many + 1)).map fun k => -k := fun a ha => by
      obtain ⟨i, _, rfl⟩ := List.mem_map.mp ha
      rw [List.mem_append]
      rcases (pw_let ht h i).cases with ⟨a, b⟩ | ⟨k, e, a, b⟩
      · exact .inl (rgI_mem.mpr ⟨a, by omega⟩)
      · exact .inr (List.mem_map.mpr ⟨k, rgI_mem.mpr ⟨a, by omega⟩, e.symm⟩)
    have := nodup_sub_len _ _ nd hsub
    rw [List.length_map, List.length_range, List.length_append, List.length_map, rgI_length] at this
    omega
  obtain ⟨n, a, b, c⟩ := ex
  obtain ⟨k, hk, ⟨k1, k2⟩, k3⟩ := least_of (p := fun n => 1 ≤ n ∧ pw t n l = l) n ⟨a, c⟩
  exact ⟨k, ⟨k1, k2, fun m m1 m2 e => k3 m m2 ⟨m1, e⟩⟩, by omega⟩
open Classical in
noncomputable def per (t : List Int) (l : Int) : Nat := if h : ∃ n, IsPer t l n then Classical.choose h else 0
def lcmF (a : Nat) (ns : List Nat) : Nat := ns.foldl Nat.lcm a
theorem lcmF_dvd : ∀ {ns : List Nat} {a m : Nat}, lcmF a ns ∣ m ↔ a ∣ m ∧ ∀ n ∈ ns, n ∣ m
  | [], a, m => ⟨fun h => ⟨h, fun n hn => by cases hn⟩, fun h => h.1⟩
  | n :: ns, a, m => by
    show lcmF (Nat.lcm a n) ns ∣ m ↔ _
    rw [lcmF_dvd]
    constructor
    · rintro ⟨h1, h2⟩
      refine ⟨Nat.dvd_trans (Nat.dvd_lcm_left a n) h1, fun x hx => ?_⟩
      rcases List.mem_cons.mp hx with rfl | hx
      · exact Nat.dvd_trans (Nat.dvd_lcm_right a x) h1
      · exact h2 x hx
    · rintro ⟨h1, h2⟩
      exact ⟨Nat.lcm_dvd h1 (h2 n List.mem_cons_self), fun x hx => h2 x (List.mem_cons_of_mem _ hx)⟩
theorem lcmF_pos : ∀ {ns : List Nat} {a : Nat}, 1 ≤ a → (∀ n ∈ ns, 1 ≤ n) → 1 ≤ lcmF a ns
  | [], a, h, _ => h
  | n :: ns, a, h, hn => by
    show 1 ≤ lcmF (Nat.lcm a n) ns
    exact lcmF_pos (Nat.lcm_pos h (hn n List.mem_cons_self)) fun x hx => hn x (List.mem_cons_of_mem _ hx)
end WS
set_option Elab.async false
set_option linter.all false
set_option maxRecDepth 100000
set_option maxHeartbeats 4000000
namespace WS
open PySem PySem.Spec PyProof.Rows L2 WL
def chkL : Nat → Nat → Nat → Bool
  | 0, a, s => decide (a ≤ 60) && decide (s = 0)
  | f + 1, a, s => decide (a ≤ 60) && (List.range s).all fun d => chkL f (Nat.lcm a (d + 1)) (s - (d + 1))
theorem chk12 : chkL 12 1 12 = true := by decide +kernel
theorem chk_of : ∀ {f a s : Nat}, chkL f a s = true → ∀ D : List Nat, (∀ d ∈ D, 1 ≤ d) → D.sum ≤ s → lcmF a D ≤ 60
  | 0, a, s, h, D, hd, hs => by
    unfold chkL at h
    rw [Bool.and_eq_true, decide_eq_true_iff, decide_eq_true_iff] at h
    cases D with
    | nil => exact h.1
    | cons d D =>
      have := hd d List.mem_cons_self
      rw [List.sum_cons] at hs; omega
  | f + 1, a, s, h, D, hd, hs => by
    unfold chkL at h
    rw [Bool.and_eq_true, decide_eq_true_iff] at h
    cases D with
    | nil => exact h.1
    | cons d D =>
      have h1 := hd d List.mem_cons_self
      rw [List.sum_cons] at hs
      have := List.all_eq_true.mp h.2 (d - 1) (List.mem_range.mpr (by omega))
      rw [show d - 1 + 1 = d by omega] at this
      exact chk_of this D (fun x hx => hd x (List.mem_cons_of_mem _ hx)) (by omega)
section
variable {n : Int} {t : List Int}
def pa (t : List Int) (j : Nat) (k : Int) : Int := absI (pw t j k)
theorem absI_of {k : Int} (h : 1 ≤ k) : absI k = k := by unfold absI; rw [if_neg (by omega)]
theorem pw_abs (tt : TurnOf n t) {l : Int} (h : LetOf n l) (j : Nat) : absI (pw t j (absI l)) = absI (pw t j l) := by
  rcases absI_eq (a := absI l) (b := l) (by have := h.1; unfold absI; split <;> (try split) <;> omega) with e | e
  · rw [e]
  · rw [e, pw_neg tt h, absI_neg]
theorem pa_add (tt : TurnOf n t) {k : Int} (h : LetOf n k) (i j : Nat) : pa t (i + j) k = pa t i (pa t j k) := by
  unfold pa
  rw [pw_add, pw_abs tt (pw_let tt h j)]
theorem pa_let (tt : TurnOf n t) {k : Int} (h : LetOf n k) (j : Nat) : 1 ≤ pa t j k ∧ pa t j k ≤ n := pw_let tt h j
theorem pa_inj (tt : TurnOf n t) {a b : Int} (ha : 1 ≤ a ∧ a ≤ n) (hb : 1 ≤ b ∧ b ≤ n) {j : Nat} (e : pa t j a = pa t j b) : a = b := by
  have la := LetOf.ofPos ha.1 ha.2
  have lb := LetOf.ofPos hb.1 hb.2
  rcases absI_eq e with e | e
  · exact pw_inj tt la lb j e
  · rw [← pw_neg tt lb] at e
    have := pw_inj tt la lb.neg j e
    omega
theorem pa_back (tt : TurnOf n t) {k : Int} (h : 1 ≤ k ∧ k ≤ n) : ∃ c, 1 ≤ c ∧ pa t c k = k ∧ ∀ m, 1 ≤ m → m < c → pa t m k ≠ k := by
  have lk := LetOf.ofPos h.1 h.2
  obtain ⟨p, P, _⟩ := per_ex tt lk
  have hp : 1 ≤ p ∧ pw t p k = k := ⟨P.pos, P.ret⟩
  obtain ⟨c, _, hc, hm⟩ := least_of (p := fun m => 1 ≤ m ∧ pa t m k = k) p ⟨hp.1, by unfold pa; rw [hp.2, absI_of h.1]⟩
  exact ⟨c, hc.1, hc.2, fun m h1 h2 e => hm m h2 ⟨h1, e⟩⟩
def orbL (t : List Int) (k : Int) (c : Nat) : List Int := (List.range c).map fun j => pa t j k
theorem parts (tt : TurnOf n t) : ∀ (s : Nat) (S : List Int), S.length = s → S.Nodup → (∀ k ∈ S, 1 ≤ k ∧ k ≤ n) → (∀ k ∈ S, pa t 1 k ∈ S) → ∃ D : List Nat, (∀ d ∈ D, 1 ≤ d) ∧ D.sum = s ∧ ∀ k ∈ S, ∃ d ∈ D, pw t (d * 2) k = k := by
  intro s
  induction s using Nat.strongRecOn with
  | ind s ih =>
    intro S hs nd hS cl
    cases S with
    | nil => exact ⟨[], fun d h => (by cases h), by simpa using hs, fun k h => (by cases h)⟩
    | cons k S0 =>
      have hk := hS k List.mem_cons_self
      have lk := LetOf.ofPos hk.1 hk.2
      obtain ⟨c, c1, cb, cm⟩ := pa_back tt hk
      generalize hSS : k :: S0 = SS at *
      have kS : k ∈ SS := by rw [← hSS]; exact List.mem_cons_self
      have inS : ∀ j, pa t j k ∈ SS := fun j => by
        induction j with
        | zero => unfold pa; show absI k ∈ SS; rw [absI_of hk.1]; exact kS
        | succ j ih2 =>
          rw [show j + 1 = 1 + j by omega, pa_add tt lk]
          exact cl _ ih2
      have nO : (orbL t k c).Nodup := by
        unfold orbL List.Nodup
        rw [List.pairwise_map]
        refine List.Pairwise.imp_of_mem ?_ (List.pairwise_lt_range (n := c))
        intro i j hi hj hij e
        have hj := List.mem_range.mp hj
        have := pa_add tt lk i (j - i)
        rw [show i + (j - i) = j by omega, ← e] at this
        have e2 := pa_inj tt hk (pa_let tt lk (j - i)) this
        exact cm (j - i) (by omega) (by omega) e2.symm
      have Osub : ∀ l ∈ orbL t k c, l ∈ SS := fun l hl => by
        obtain ⟨j, _, rfl⟩ := List.mem_map.mp hl
        exact inS j
      have anyJ : ∀ j, pa t j k ∈ orbL t k c := fun j => by
        have : pa t j k = pa t (j % c) k := by
          have hq : ∀ q, pa t (q * c) k = k := fun q => by
            induction q with
            | zero => rw [Nat.zero_mul]; unfold pa; show absI k = k; exact absI_of hk.1
            | succ q ih3 => rw [Nat.succ_mul, pa_add tt lk, cb]; exact ih3
          conv => lhs; rw [← Nat.mod_add_div j c, Nat.mul_comm c, pa_add tt lk, hq]
        rw [this]
        exact List.mem_map.mpr ⟨_, List.mem_range.mpr (Nat.mod_lt _ c1), rfl⟩
      have Sd : (SS.filter fun l => !decide (l ∈ orbL t k c)).length + c = s := by
        have p : SS.Perm (orbL t k c ++ SS.filter fun l => !decide (l ∈ orbL t k c)) := by
          refine (List.perm_ext_iff_of_nodup nd (List.nodup_append.mpr ⟨nO, nd.sublist List.filter_sublist, fun a ha b hb e => ?_⟩)).mpr fun l => ?_
          · subst e
            have := (List.mem_filter.mp hb).2
            rw [decide_eq_true ha] at this; cases this
          · rw [List.mem_append, List.mem_filter]
            constructor
            · intro hl
              by_cases h : l ∈ orbL t k c
              · exact .inl h
              · exact .inr ⟨hl, by rw [decide_eq_false h]; rfl⟩
            · rintro (h | h)
              · exact Osub l h
              · exact h.1
        have := p.length_eq
        rw [List.length_append, hs] at this
        have lo : (orbL t k c).length = c := by unfold orbL; rw [List.length_map, List.length_range]
        omega
      obtain ⟨D, d1, d2, d3⟩ := ih (SS.filter fun l => !decide (l ∈ orbL t k c)).length (by omega) _ rfl (nd.sublist List.filter_sublist) (fun l hl => hS l (List.mem_filter.mp hl).1) fun l hl => by
        obtain ⟨h1, h2⟩ := List.mem_filter.mp hl
        refine List.mem_filter.mpr ⟨cl l h1, ?_⟩
        by_cases h : pa t 1 l ∈ orbL t k c
        · obtain ⟨j, hj, e⟩ := List.mem_map.mp h
          exfalso
          have hll := hS l h1
          -- l is the letter ahead
          have e2 : pa t 1 (pa t (j + c - 1) k) = pa t 1 l := by
            rw [← pa_add tt lk, show 1 + (j + c - 1) = j + c by omega, pa_add tt lk, cb]; exact e
          have e3 := pa_inj tt (pa_let tt lk _) hll e2
          have := anyJ (j + c - 1)
          rw [e3] at this
          rw [decide_eq_true this] at h2; cases h2
        · rw [decide_eq_false h]; rfl
      refine ⟨c :: D, fun d hd => ?_, by rw [List.sum_cons, d2]; omega, fun l hl => ?_⟩
      · rcases List.mem_cons.mp hd with rfl | hd
        · exact c1
        · exact d1 d hd
      · by_cases h : l ∈ orbL t k c
        · refine ⟨c, List.mem_cons_self, ?_⟩
          obtain ⟨j, _, rfl⟩ := List.mem_map.mp h
          have pk : pw t (c * 2) k = k := by
            rw [show c * 2 = c + c by omega, pw_add]
            rcases absI_eq (a := pw t c k) (b := k) (by rw [absI_of hk.1]; exact cb) with e | e
            · rw [e, e]
            · rw [e, pw_neg tt lk, e]; omega
          have pj : pw t (c * 2) (pw t j k) = pw t j k := by rw [pw_comm, pk]
          unfold pa
          rcases absI_eq (a := absI (pw t j k)) (b := pw t j k) (by have := (pw_let tt lk j).1; unfold absI; split <;> (try split) <;> omega) with e | e
          · rw [e]; exact pj
          · rw [e, pw_neg tt (pw_let tt lk j), pj]
        · obtain ⟨d, hd, e⟩ := d3 l (List.mem_filter.mpr ⟨hl, by rw [decide_eq_false h]; rfl⟩)
          exact ⟨d, List.mem_cons_of_mem _ hd, e⟩
theorem turn_120 (tt : TurnOf n t) (h12 : n ≤ 12) : ∃ m, 1 ≤ m ∧ m ≤ 120 ∧ ∀ k, 1 ≤ k → k ≤ n → pw t m k = k := by
  obtain ⟨D, d1, d2, d3⟩ := parts tt _ (rgI 1 (n + 1)) rfl (rgI_nodup _ _) (fun k hk => by have := rgI_mem.mp hk; omega) fun k hk => by
    have := rgI_mem.mp hk
    have h := pa_let tt (LetOf.ofPos (many := n) this.1 (by omega)) 1
    exact rgI_mem.mpr ⟨h.1, by omega⟩
  have hs : D.sum ≤ 12 := by rw [d2, rgI_length]; have := tt.h0; omega
  have hl := chk_of chk12 D d1 hs
  have hp : 1 ≤ lcmF 1 D := lcmF_pos (Nat.le_refl _) d1
  refine ⟨lcmF 1 D * 2, by omega, by omega, fun k k0 k1 => ?_⟩
  obtain ⟨d, hd, e⟩ := d3 k (rgI_mem.mpr ⟨k0, by omega⟩)
  obtain ⟨q, hq⟩ := (lcmF_dvd (ns := D) (a := 1) (m := lcmF 1 D)).mp (Nat.dvd_refl _) |>.2 d hd
  rw [hq, show d * q * 2 = d * 2 * q by rw [Nat.mul_assoc, Nat.mul_comm q 2, ← Nat.mul_assoc]]
  exact pw_mul e q
theorem go_pwL (tt : TurnOf n t) {k : Int} (hk : LetOf n k) : ∀ j, goI (pwL n t j) k = pw t j k
  | 0 => go_still hk
  | j + 1 => by
    show goI (thenL (pwL n t j) t) k = _
    rw [go_then (pw_turn tt j) hk, go_pwL tt hk j]
    rw [show j + 1 = 1 + j by omega, pw_add]; rfl
theorem gen_one (tt : TurnOf n t) (h12 : n ≤ 12) {u : List Int} (g : Gen n [t] u) : ∃ j, j < 120 ∧ u = pwL n t j := by
  obtain ⟨m, m1, m2, hm⟩ := turn_120 tt h12
  have per : ∀ j, pwL n t j = pwL n t (j % m) := fun j => turn_ext (pw_turn tt _) (pw_turn tt _) fun k k0 k1 => by
    have lk := LetOf.ofPos k0 k1
    rw [go_pwL tt lk, go_pwL tt lk]
    conv => lhs; rw [← Nat.mod_add_div j m]
    rw [pw_add, pw_mul (hm k k0 k1)]
  have : ∃ j, u = pwL n t j := by
    induction g with
    | one => exact ⟨0, rfl⟩
    | mul g hp ih =>
      obtain ⟨j, e⟩ := ih
      rw [List.mem_singleton.mp hp, e]
      exact ⟨j + 1, rfl⟩
  obtain ⟨j, e⟩ := this
  exact ⟨j % m, Nat.lt_of_lt_of_le (Nat.mod_lt _ m1) m2, by rw [e]; exact per j⟩
theorem few_one (tt : TurnOf n t) (h12 : n ≤ 12) {N : List (List Int)} (nd : N.Nodup) (h : ∀ u ∈ N, Gen n [t] u) : N.length ≤ 120 := by
  have := nodup_sub_len N ((List.range 120).map (pwL n t)) nd fun u hu => by
    obtain ⟨j, hj, e⟩ := gen_one tt h12 (h u hu)
    exact List.mem_map.mpr ⟨j, List.mem_range.mpr hj, e.symm⟩
  rwa [List.length_map, List.length_range] at this
end
end WS
set_option Elab.async false
set_option linter.all false
set_option maxRecDepth 100000
set_option maxHeartbeats 4000000
namespace WS
open PySem PySem.Spec PyProof.Rows L2 WL
structure Prods (many : Int) (ms : List (List Int)) (bound : Int) (L : List (List Int)) : Prop where
  nd : L.Nodup
  up : L.Pairwise (· ≤ ·)
  all : (L ≠ [] ∧ (∀ t, t ∈ L ↔ Gen many ms t) ∧ (L.length : Int) ≤ bound) ∨ (L = [] ∧ ∃ N : List (List Int), N.Nodup ∧ (∀ t ∈ N, Gen many ms t) ∧ bound < N.length)
theorem gen_all {many : Int} {ms fs : List (List Int)} (h : stillL many ∈ fs) (cl : ∀ t ∈ fs, ∀ m ∈ ms, thenL t m ∈ fs) {t : List Int} (g : Gen many ms t) : t ∈ fs := by
  induction g with
  | one => exact h
  | mul g hp ih => exact cl _ ih _ hp
def grW (many : Int) (fw : W) (ps : List (List Int)) (ch : List Fl) : W := .fo "Group" (grF many fw ps ch)
theorem Comp.wlen {n : Int} : ∀ {fs : List Fl} {ah : List Int}, Comp n ah fs → ∀ f ∈ fs, f.ways.length ≤ 2 * n.toNat
  | [], _, _ => fun f h => by cases h
  | f :: fs, ah, C => fun g h => by
    rcases List.mem_cons.mp h with rfl | h
    · exact C.1.len
    · exact C.2.2.2.wlen g h
theorem Prods.one {many : Int} {ms L : List (List Int)} (P : Prods many ms 400 L) (h0 : 1 ≤ many) (h12 : many ≤ 12) (hm : ∀ t ∈ ms, TurnOf many t) (hl : ms.length ≤ 1) : L ≠ [] := fun e => by
  rcases P.all with ⟨h, _⟩ | ⟨_, N, nd, hN, hb⟩
  · exact h e
  · have : N.length ≤ 120 := by
      cases ms with
      | nil =>
        have : ∀ t ∈ N, t ∈ [stillL many] := fun t ht => by
          cases hN t ht with
          | one => exact List.mem_singleton.mpr rfl
          | mul _ h => cases h
        have := nodup_sub_len N [stillL many] nd this
        rw [List.length_singleton] at this; omega
      | cons t ms =>
        cases ms with
        | nil => exact few_one (hm t List.mem_cons_self) h12 nd hN
        | cons a b => rw [List.length_cons, List.length_cons] at hl; omega
    omega
theorem cut_first (xs : List W) : cutG xs none (some 1) = xs.take 1 := by
  unfold cutG HT.sIx
  cases xs with
  | nil => rfl
  | cons a b => simp
theorem lstAt_ref {p : Addr} {G : GH} {xs : List W} (h : G p = some (.lst xs)) : lstAt (.ref p) G = some xs := by
  unfold lstAt
  dsimp only
  rw [h]
theorem ty_items {w : W} {G : GH} {ws : List W} (h : itemsW w G = some ws) : tyW w G ≠ none := by
  rcases items_cases h with rfl | rfl | rfl | ⟨p, rfl, hp⟩
  · simp [tyW]
  · simp [tyW]
  · simp [tyW]
  · simp [tyW, hp]
theorem askL_turns {w : W} {G : GH} {hs : List (List Int)} (h : itemsW w G = some (hs.map cTup)) (hl : hs.length ≤ 100000) (hb : ∀ t ∈ hs, t.length ≤ 1000) : AskL G w := ⟨ty_items h, fun ws e => by
  rw [h] at e
  cases e
  refine ⟨by rw [List.length_map]; exact hl, fun x hx => ?_⟩
  obtain ⟨t, ht, rfl⟩ := List.mem_map.mp hx
  exact ask_ints t G (hb t ht)⟩
theorem askL_ints {w : W} {G : GH} {ls : List Int} (h : itemsW w G = some (ls.map W.int)) (hl : ls.length ≤ 100000) : AskL G w := ⟨ty_items h, fun ws e => by
  rw [h] at e
  cases e
  refine ⟨by rw [List.length_map]; exact hl, fun x hx => ?_⟩
  obtain ⟨t, ht, rfl⟩ := List.mem_map.mp hx
  exact ⟨by simp [tyW], fun xs e => (by cases e), fun xs e => (by cases e)⟩⟩
theorem letterB_let {many l : Int} (h : LetOf many l) : letterB many (.int l) = true := by
  have := h
  unfold LetOf absI at this
  unfold letterB
  dsimp only
  rw [decide_eq_true this.1, decide_eq_true this.2]; rfl
theorem grp_made {many : Int} {hs : List (List Int)} {fl : List Int} {kw bw : W} {G1 : GH} {R : KW} {RX : XW} (h0 : 1 ≤ many) (h12 : many ≤ 12) (hkw : itemsW kw G1 = some (hs.map cTup)) (hbw : itemsW bw G1 = some (fl.map W.int)) (ht : ∀ t ∈ hs, TurnOf many t) (hl : hs.length ≤ 60)
    (hf : ∀ l ∈ fl, LetOf many l) (nd : (absL fl).Nodup) (q : ∀ ch fw, fw.tup? = some (fl.map W.int) → GrOk many fl (makersL many hs) ch → R (grW many fw (makersL many hs) ch) G1) :
    ∀ g, G1 g = none → P_Group___init___x [.ref g, .int many, kw, bw] (updG G1 g (.ins "Group" [])) (fun w G2 => w = .non ∧ frzK R (.ref g) G2) RX := fun g hg => by
  have x := ExtG.new (o := .ins "Group" []) hg
  have hkw' := x.items hkw
  have hbw' := x.items hbw
  have hfl := len_le_of_abs (by omega) hf nd
  refine p_Group___init___x updG_same (by simp [tyW]) (askL_turns hkw' (by omega) fun t h => by have := (ht t h).len; omega) (askL_ints hbw' (by omega)) ?_
  unfold wishGr
  rw [if_pos (by unfold truthsB; dsimp only; rw [decide_eq_true h0, decide_eq_true h12]; rfl)]
  unfold wishMk
  rw [hkw']
  dsimp only
  rw [if_neg (by rw [List.length_map]; omega), if_pos (List.all_eq_true.mpr fun x hx => by
    obtain ⟨t, h, rfl⟩ := List.mem_map.mp hx
    exact turn_yes (ht t h))]
  unfold wishLt
  rw [hbw']
  dsimp only
  rw [if_pos (List.all_eq_true.mpr fun x hx => by
    obtain ⟨l, h, rfl⟩ := List.mem_map.mp hx
    exact letterB_let (hf l h))]
  intro ls e
  have e := Option.some.inj e
  have e2 : fl = ls := by
    have := congrArg intsOf e
    rw [intsOf_map, intsOf_map] at this
    exact Option.some.inj this
  subst e2
  rw [if_pos nd]
  intro many' fl' ms ch fw e1 e2 e3 e4 O
  injection e1 with e1
  subst e1
  have e2 := Option.some.inj e2
  have e5 : hs = ms := by
    have := congrArg tupsOf e2
    rw [show hs.map cTup = hs.map fun c => W.tup (c.map W.int) from rfl, show ms.map cTup = ms.map fun c => W.tup (c.map W.int) from rfl] at this
    rw [tupsOf_map, tupsOf_map] at this
    exact Option.some.inj this
  subst e5
  have e3 := Option.some.inj e3
  have e6 : fl = fl' := by
    have := congrArg intsOf e3
    rw [intsOf_map, intsOf_map] at this
    exact Option.some.inj this
  subst e6
  refine ⟨rfl, frz_atI updG_same ?_⟩
  rw [updG_updG, offG_updG hg]
  exact q ch fw e4 O
theorem Prods.same {many bound : Int} {ms ms' L L' : List (List Int)} (P : Prods many ms' bound L') (sm : ∀ t, Gen many ms' t ↔ Gen many ms t) (La : ∀ t, t ∈ L ↔ Gen many ms t) (Ln : L.Nodup) (Lu : L.Pairwise (· ≤ ·)) (Ll : (L.length : Int) ≤ bound) : L' = L := by
  rcases P.all with ⟨_, ha, _⟩ | ⟨_, N, nd, hN, hb⟩
  · exact tups_uniq ((List.perm_ext_iff_of_nodup P.nd Ln).mpr fun t => (ha t).trans ((sm t).trans (La t).symm)) P.up Lu
  · have := nodup_sub_len N L nd fun t ht => (La t).mpr ((sm t).mp (hN t ht))
    omega
theorem GrOk.size {many : Int} {fl : List Int} {ps L : List (List Int)} {ch : List Fl} (O : GrOk many fl ps ch) (La : ∀ t, t ∈ L ↔ Gen many ps t) (Ln : L.Nodup) : sizeL ch = L.length := by
  have h0 := O.h0
  have h4 : many ≤ 400 := by have := O.h12; omega
  rw [← elems_len (n := many) ch]
  refine ((List.perm_ext_iff_of_nodup (elems_nodup h0 h4 O.C) Ln).mpr fun t => ?_).length_eq
  rw [elems_mem h0 h4 O.C, La t]
  constructor
  · rintro ⟨tt, r⟩
    exact (O.gen tt).mp r
  · intro g
    have tt := g.turn h0 h4 O.tp
    exact ⟨tt, (O.gen tt).mpr g⟩
abbrev N__law_products : List Str := ["truths", "spins", "bound", "found", "seen", "at", "maker", "turn"]
structure P__law_products (ws : List W) (G : GH) (R : KW) (RX : XW) : Prop where
  ex : ∃ (many bound : Int) (w : W) (ms : List (List Int)), ws = [.int many, w, .int bound] ∧ (1 ≤ many) ∧ (many ≤ 400) ∧ (itemsW w G = some (ms.map cTup)) ∧ (∀ t ∈ ms, TurnOf many t) ∧ (ms.length ≤ 100) ∧ (0 ≤ bound) ∧ (bound ≤ 100000) ∧ (∀ L : List (List Int), Prods many ms bound L → R (.fl (L.map cTup)) G)
theorem len__law_products : ∀ ws G R RX, P__law_products ws G R RX → ws.length = ["truths", "spins", "bound"].length := by
  rintro ws G R RX ⟨⟨_, _, _, _, rfl, _, _, _, _, _, _, _, _⟩⟩; rfl
theorem p__law_products {many bound : Int} {w : W} {ms : List (List Int)} {G : GH} {R : KW} {RX : XW} (h0 : 1 ≤ many) (h4 : many ≤ 400) (hw : itemsW w G = some (ms.map cTup)) (hms : ∀ t ∈ ms, TurnOf many t) (hml : ms.length ≤ 100) (hb0 : 0 ≤ bound) (hb1 : bound ≤ 100000) (q : ∀ L : List (List Int), Prods many ms bound L → R (.fl (L.map cTup)) G) : P__law_products [.int many, w, .int bound] G R RX := ⟨many, bound, w, ms, rfl, h0, h4, hw, hms, hml, hb0, hb1, q⟩
def T__law_products : TWS :=
  (sSeq (sSet 3 (tLstW (tCo (tTupleRg (tRg2W (tK (.int 1)) (tOpW addW (tV 0) (tK (.int 1))))) tN)))
    (sSeq (sSet 4 (tDispTW (tOpW ixW (tV 3) (tK (.int 0))) (tK (.bl true))))
    (sSeq (sSet 5 (tK (.int 0)))
    (sSeq (sWhile (tAndW (tTestW (tOpW ltW (tV 5) (tCW lenQ (tCo (tV 3) tN)))) (tTestW (tOpW leW (tCW lenQ (tCo (tV 3) tN)) (tV 2)))) (sSeq (sFor (tISeq (tV 1)) (gN 6) (sSeq (sSet 7 (tCall0 P__law_joined [] (tCo (tOpW ixW (tV 3) (tV 5)) (tCo (tV 6) tN))))
    (sIf (tTestW (tOpW (inQ true) (tV 7) (tV 4))) (sSeq (sAsg (tK (.bl true)) (gSubW (tV 4) (tV 7) setQ))
    (sDrop (tMetL appendW (tV 3) (tCo (tV 7) tN)))) sNext)))
    (sSet 5 (tOpW addW (tV 5) (tK (.int 1))))))
    (sRet (tIfE (tTestW (tOpW leW (tCW lenQ (tCo (tV 3) tN)) (tV 2))) (tFz (tCW sortedT (tCo (tV 3) tN))) (tFz (tLstW tN))))))))
theorem rd__law_products (ws : List W) (G : GH) (R : KW) (RX : XW) (h : P__law_products ws G R RX) : T__law_products { nx := fun _ G' => fgt R .non G', rt := fgt R } (startW N__law_products ws) G := by
  obtain ⟨many, bound, w, ms, rfl, h0, h4, hw, hms, hml, hb0, hb1, q⟩ := h
  rcases items_cases hw with rfl | rfl | rfl | ⟨wp, rfl, hwp⟩
  all_goals
    conv => whnf
    refine ⟨.of_le (by decide) (by omega) (by decide) (by omega), ?_⟩
    conv => whnf
    refine ⟨sz1 _, fun l hl => ?_⟩
    conv => whnf
    intro d hd
    conv => whnf
    have dl : d ≠ l := fun e => by rw [e, updG_same] at hd; cases hd
    have hdG : G d = none := by rw [updG_ne dl] at hd; exact hd
    rw [updG_ne dl.symm, updG_same]
    refine ⟨_, atI_hd _ _, ?_⟩
    conv => whnf
    refine ⟨kI (stillL many), keysOf_ints _, updG_same, ?_⟩
    rw [updG_upd]
    conv => whnf
    have hst : ∀ t ∈ [stillL many], Gen many ms t := fun t h => by rw [List.mem_singleton.mp h]; exact .one
    refine ⟨fun m S G' => ∃ (at_ : Nat) (fs : List (List Int)) (x5 x6 : Option W), S = [some (.int many), some _, some (.int bound), some (.ref l), some (.ref d), some (.int (at_ : Int)), x5, x6] ∧ G' l = some (.lst (fs.map cTup)) ∧ G' d = some (.dT (cDict fs)) ∧ ExtG G G' ∧ fs.Nodup ∧ (∀ t ∈ fs, Gen many ms t) ∧ stillL many ∈ fs ∧ at_ ≤ fs.length ∧ (∀ t ∈ fs.take at_, ∀ m ∈ ms, thenL t m ∈ fs) ∧ fs.length ≤ bound.toNat + 1 + ms.length ∧ m = bound.toNat + 1 - at_, ⟨_, 0, [stillL many], none, none, rfl, by rw [updG_ne dl.symm, updG_same]; rfl, updG_same, (ExtG.new hl).putNew hdG, by simp, hst, List.mem_singleton.mpr rfl, Nat.zero_le _, fun t h => (by cases h), (by rw [List.length_singleton]; omega), rfl⟩, ?_⟩
    rintro m S G' ⟨at_, fs, x5, x6, rfl, gl, gd, X, nd, hp, hsf, hat, hcl, hle, rfl⟩
    have done : ∀ wv : Option W, (¬ (at_ : Int) < fs.length ∨ ¬ (fs.length : Int) ≤ bound) → (sRet (tIfE (tTestW (tOpW leW (tCW lenQ (tCo (tV 3) tN)) (tV 2))) (tFz (tCW sortedT (tCo (tV 3) tN))) (tFz (tLstW tN)))) { nx := fun _ G' => fgt R .non G', rt := fgt R } [some (.int many), wv, some (.int bound), some (.ref l), some (.ref d), some (.int (at_ : Int)), x5, x6] G' := fun wv hc => by
      conv => whnf
      rw [gl]
      conv => whnf
      rw [List.length_map]
      by_cases hb : (fs.length : Int) ≤ bound
      · rw [decide_eq_true hb]
        conv => whnf
        rw [show tupsIn (.ref l) G' = some fs by
          unfold tupsIn
          dsimp only
          rw [gl]
          exact tupsOf_map fs]
        conv => whnf
        refine ⟨fun b hbm => ?_, ?_⟩
        · have := (Gen.turn h0 h4 hms (hp b hbm)).len
          rw [sizeLine_eq]; omega
        refine frz_lst ?_
        have e : fs.take at_ = fs := List.take_of_length_le (by omega)
        rw [e] at hcl
        have mm : ∀ x, x ∈ byTup fs ↔ x ∈ fs := fun x => (byTup_perm fs).mem_iff
        exact ret_ext X (q _ ⟨(byTup_perm fs).nodup_iff.mpr nd, byTup_pw fs, .inl ⟨fun e => (by have := (mm _).mpr hsf; rw [e] at this; cases this), fun t => ⟨fun ht => hp t ((mm t).mp ht), fun g => (mm t).mpr (gen_all hsf hcl g)⟩, by rw [(byTup_perm fs).length_eq]; exact hb⟩⟩)
      · rw [decide_eq_false hb]
        conv => whnf
        refine ⟨sz0, frz_lst ?_⟩
        exact ret_ext X (q [] ⟨.nil, .nil, .inr ⟨rfl, fs, nd, hp, by omega⟩⟩)
    conv => whnf
    rw [gl]
    conv => whnf
    rw [List.length_map]
    by_cases hc1 : (at_ : Int) < fs.length
    rotate_left
    · rw [decide_eq_false hc1]
      conv => whnf
      exact done _ (.inl hc1)
    rw [decide_eq_true hc1]
    conv => whnf
    rw [gl]
    conv => whnf
    rw [List.length_map]
    by_cases hc2 : (fs.length : Int) ≤ bound
    rotate_left
    · rw [decide_eq_false hc2]
      conv => whnf
      exact done _ (.inr hc2)
    rw [decide_eq_true hc2]
    conv => whnf
    have hat2 : at_ < fs.length := by omega
    obtain ⟨c, hcg⟩ : ∃ c, fs[at_]? = some c := ⟨_, List.getElem?_eq_getElem hat2⟩
    have hcm : c ∈ fs := List.mem_of_getElem? hcg
    have tc := Gen.turn h0 h4 hms (hp c hcm)
    have lG' : ∀ G2 : GH, G2 l = some (.lst (fs.map cTup)) → l ≠ d := fun _ _ => dl.symm
    (try rw [X _ _ hwp])
    refine forW_map (f := cTup) (I := fun xs S G' => ∃ (fs' : List (List Int)) (x5 x6 : Option W), S = [some (.int many), some _, some (.int bound), some (.ref l), some (.ref d), some (.int (at_ : Int)), x5, x6] ∧ G' l = some (.lst (fs'.map cTup)) ∧ G' d = some (.dT (cDict fs')) ∧ ExtG G G' ∧ fs'.Nodup ∧ (∀ t ∈ fs', Gen many ms t) ∧ (∃ ex, fs' = fs ++ ex) ∧ fs'.length + xs.length ≤ fs.length + ms.length ∧ ∃ dn : List (List Int), dn ++ xs = ms ∧ ∀ t ∈ dn, thenL c t ∈ fs') ?_ ?_ _ _ _ ⟨fs, x5, x6, rfl, gl, gd, X, nd, hp, ⟨[], by simp⟩, Nat.le_refl _, [], rfl, fun t h => (by cases h)⟩
    rotate_left
    · rintro S G2 ⟨fs', x5, x6, rfl, gl2, gd2, X2, nd2, hp2, ⟨ex, rfl⟩, hl2, dn, hdn, hc2'⟩
      rw [List.append_nil] at hdn
      subst hdn
      refine ⟨by first | trivial | exact X2 _ _ hwp, ?_⟩
      conv => whnf
      refine ⟨bound.toNat + 1 - (at_ + 1), by omega, at_ + 1, fs ++ ex, _, _, rfl, gl2, gd2, X2, nd2, hp2, List.mem_append_left _ hsf, by rw [List.length_append]; omega, fun t ht u hu => ?_, by rw [List.length_nil] at hl2; omega, rfl⟩
      rw [List.take_append_of_le_length (by omega), List.take_add_one, hcg] at ht
      rcases List.mem_append.mp ht with ht | ht
      · exact List.mem_append_left _ (hcl t ht u hu)
      · rw [List.mem_singleton.mp ht]; exact hc2' u hu
    rintro t ts S G2 ⟨fs', x5, x6, rfl, gl2, gd2, X2, nd2, hp2, ⟨ex, rfl⟩, hl2, dn, hdn, hc2'⟩ N hN
    rw [List.length_cons] at hl2
    have htm : t ∈ ms := by rw [← hdn]; exact List.mem_append_right _ List.mem_cons_self
    refine ⟨by first | trivial | exact X2 _ _ hwp, ?_⟩
    conv => whnf
    rw [gl2]
    conv => whnf
    have ea : atI ((fs ++ ex).map cTup) (at_ : Int) = some (cTup c) := by
      obtain ⟨z, z1, _, z3⟩ := atI_map (f := cTup) (xs := fs ++ ex) (i := (at_ : Int)) (by omega) (by rw [List.length_append]; omega)
      rw [Int.toNat_natCast, List.getElem?_append_left hat2, hcg] at z1
      rw [z3, ← Option.some.inj z1]
    refine ⟨_, ea, ?_⟩
    conv => whnf
    refine p__law_joined tc (hms t htm) ?_
    conv => whnf
    refine in_rDict gd2 ?_
    by_cases hin : thenL c t ∈ fs ++ ex
    · rw [decide_eq_true hin]
      conv => whnf
      exact hN _ _ ⟨fs ++ ex, _, _, rfl, gl2, gd2, X2, nd2, hp2, ⟨ex, rfl⟩, by omega, dn ++ [t], by rw [List.append_assoc]; exact hdn, fun u hu => by
        rcases List.mem_append.mp hu with hu | hu
        · exact hc2' u hu
        · rw [List.mem_singleton.mp hu]; exact hin⟩
    rw [decide_eq_false hin]
    conv => whnf
    rw [gd2]
    conv => whnf
    rw [keysOf_ints]
    conv => whnf
    refine ⟨by rw [List.length_map, sizeLine_eq]; omega, ?_⟩
    rw [put_ded (k := kI) ki_inj, show addX (fs ++ ex) (thenL c t) = fs ++ (ex ++ [thenL c t]) by unfold addX; rw [if_neg hin, List.append_assoc]]
    conv => whnf
    have gl3 : updG G2 d (.dT (cDict (fs ++ (ex ++ [thenL c t])))) l = some (.lst ((fs ++ ex).map cTup)) := by rw [updG_ne dl.symm]; exact gl2
    refine ⟨recL_lst gl3, ?_⟩
    conv => whnf
    rw [gl3]
    conv => whnf
    refine ⟨by rw [List.length_map, sizeLine_eq]; omega, ?_⟩
    rw [show (fs ++ ex).map cTup ++ [cTup (thenL c t)] = (fs ++ (ex ++ [thenL c t])).map cTup by rw [← List.append_assoc, List.map_append (l₂ := [_])]; rfl]
    refine hN _ _ ⟨fs ++ (ex ++ [thenL c t]), _, _, rfl, updG_same, by rw [updG_ne dl]; exact updG_same, (X2.putNew hdG).putNew hl, ?_, ?_, ⟨_, rfl⟩, ?_, dn ++ [t], by rw [List.append_assoc]; exact hdn, fun u hu => ?_⟩
    · rw [← List.append_assoc, List.nodup_append]
      exact ⟨nd2, by simp, fun a ha b hb => by rw [List.mem_singleton.mp hb]; rintro rfl; exact hin ha⟩
    · intro x hx
      rw [← List.append_assoc] at hx
      rcases List.mem_append.mp hx with hx | hx
      · exact hp2 x hx
      · rw [List.mem_singleton.mp hx]; exact .mul (hp c hcm) htm
    · rw [← List.append_assoc, List.length_append, List.length_singleton]; omega
    · rw [← List.append_assoc]
      rcases List.mem_append.mp hu with hu | hu
      · exact List.mem_append_left _ (hc2' u hu)
      · rw [List.mem_singleton.mp hu]; exact List.mem_append_right _ (List.mem_singleton.mpr rfl)
abbrev N__law_some : List Str := ["draw", "truths", "spins", "k", "found"]
structure P__law_some (ws : List W) (G : GH) (R : KW) (RX : XW) : Prop where
  ex : ∃ (ns : List Int) (d : Addr), ws = [.ref d] ∧ (Dr ns d G) ∧ (∀ (many : Int) (ms L : List (List Int)) G', 1 ≤ many → many ≤ 12 → (∀ t ∈ ms, TurnOf many t) → ms.length ≤ 3 → L ≠ [] → (∀ t, t ∈ L ↔ Gen many ms t) → L.Nodup → L.Pairwise (· ≤ ·) → L.length ≤ 400 → Dr ns d G' → KeepG d G G' → R (.tup [.int many, .fl (ms.map cTup), .fl (L.map cTup)]) G')
theorem len__law_some : ∀ ws G R RX, P__law_some ws G R RX → ws.length = ["draw"].length := by
  rintro ws G R RX ⟨⟨_, _, rfl, _, _⟩⟩; rfl
theorem p__law_some {ns : List Int} {d : Addr} {G : GH} {R : KW} {RX : XW} (D : Dr ns d G) (q : ∀ (many : Int) (ms L : List (List Int)) G', 1 ≤ many → many ≤ 12 → (∀ t ∈ ms, TurnOf many t) → ms.length ≤ 3 → L ≠ [] → (∀ t, t ∈ L ↔ Gen many ms t) → L.Nodup → L.Pairwise (· ≤ ·) → L.length ≤ 400 → Dr ns d G' → KeepG d G G' → R (.tup [.int many, .fl (ms.map cTup), .fl (L.map cTup)]) G') : P__law_some [.ref d] G R RX := ⟨ns, d, rfl, D, q⟩
def T__law_some : TWS :=
  (sSeq (sSet 1 (tOpW addW (tK (.int 1)) (tCall0 P__law_next [] (tCo (tV 0) (tCo (tOpW ixW (tFz (tLstW (tCo (tK (.int 4)) (tCo (tK (.int 4)) (tCo (tK (.int 7)) (tCo (tK (.int 12)) tN)))))) (tCall0 P__law_next [] (tCo (tV 0) (tCo (tK (.int 4)) tN)))) tN)))))
    (sSeq (sSet 2 (tFz (tComp (tIRng1 (tCo (tCall0 P__law_next [] (tCo (tV 0) (tCo (tK (.int 4)) tN))) tN)) (gN 3) tYesW (tCall0 P__law_turn [] (tCo (tV 0) (tCo (tV 1) tN))) [3])))
    (sSeq (sSet 4 (tCall0 P__law_products [] (tCo (tV 1) (tCo (tV 2) (tCo (tK (.int 400)) tN)))))
    (sSeq (sIf (tTestW (tOpW (eqQ false) (tV 4) (tFz (tLstW tN)))) (sSeq (sSet 2 (tFz (tSliceW (tV 2) tNoP (tP (tK (.int 1))))))
    (sSet 4 (tCall0 P__law_products [] (tCo (tV 1) (tCo (tV 2) (tCo (tK (.int 400)) tN)))))) sNext)
    (sRet (tTupW (tCo (tV 1) (tCo (tV 2) (tCo (tV 4) tN)))))))))
theorem rd__law_some (ws : List W) (G : GH) (R : KW) (RX : XW) (h : P__law_some ws G R RX) : T__law_some { nx := fun _ G' => fgt R .non G', rt := fgt R } (startW N__law_some ws) G := by
  obtain ⟨ns, d, rfl, D, q⟩ := h
  conv => whnf
  refine ⟨by rw [sizeLine_eq]; show 4 ≤ _; decide, frz_lst ?_⟩
  conv => whnf
  refine p__law_next (show (0 : Int) < 4 by decide) D fun ra G1 a0 a1 D1 k1 => ?_
  obtain ⟨tp, htp, tp0, tp1⟩ : ∃ z : Int, atI [W.int 4, W.int 4, W.int 7, W.int 12] ra = some (.int z) ∧ 1 ≤ z ∧ z ≤ 12 := by
    rcases (show ra = 0 ∨ ra = 1 ∨ ra = 2 ∨ ra = 3 by omega) with rfl | rfl | rfl | rfl
    · exact ⟨4, rfl, by omega, by omega⟩
    · exact ⟨4, rfl, by omega, by omega⟩
    · exact ⟨7, rfl, by omega, by omega⟩
    · exact ⟨12, rfl, by omega, by omega⟩
  conv => whnf
  refine ⟨_, htp, ?_⟩
  conv => whnf
  refine p__law_next (show (0 : Int) < tp by omega) D1 fun r G2 r0 r1 D2 k2 => ?_
  conv => whnf
  generalize hmany : 1 + r = many
  have h0 : 1 ≤ many := by omega
  have h12 : many ≤ 12 := by omega
  refine p__law_next (show (0 : Int) < 4 by decide) D2 fun rc G3 c0 c1 D3 k3 => ?_
  conv => whnf
  refine ⟨by omega, by omega, ?_⟩
  refine compW_draw (f := fun k : Nat => W.int (0 + (k : Int))) (g := cTup) (Pz := fun _ t => TurnOf many t) (fun _ _ => trivial) (List.range _) [] G3 .refl D3 (by rw [sizeLine_eq, List.length_range]; simp; omega) (fun x _ G' R' _ D q' => p__law_turn h0 (by omega) D fun ls G'' t D' k' => q' ls G'' t D' k') fun ms G4 hms D4 k4 => ?_
  obtain ⟨hml, hms⟩ := Paired.all2 hms
  rw [List.length_range] at hml
  rw [List.nil_append]
  refine frz_lst ?_
  conv => whnf
  have K4 : KeepG d G G4 := k1.trans (k2.trans (k3.trans k4))
  refine p__law_products h0 (by omega) rfl hms (by omega) (by decide) (by decide) fun L P => ?_
  conv => whnf
  refine ⟨sz0, frz_lst ?_⟩
  refine eq_fTups (cs := []) ?_
  rw [fbne]
  have fin : ∀ (ms' L' : List (List Int)), (∀ t ∈ ms', TurnOf many t) → ms'.length ≤ 3 → Prods many ms' 400 L' → L' ≠ [] → fgt R (.tup [.int many, .fl (ms'.map cTup), .fl (L'.map cTup)]) G4 := fun ms' L' h1 h2 P' hne => by
    rcases P'.all with ⟨_, ha, hb⟩ | ⟨e, _⟩
    · exact ret (q many ms' L' G4 h0 h12 h1 h2 hne ha P'.nd P'.up (by omega) D4 K4)
    · exact absurd e hne
  by_cases hL : L = []
  · rw [decide_eq_true hL]
    conv => whnf
    rw [cut_first, ← List.map_take]
    refine frz_lst ?_
    conv => whnf
    have h1 : ∀ t ∈ ms.take 1, TurnOf many t := fun t ht => hms t (List.mem_of_mem_take ht)
    have h2 : (ms.take 1).length ≤ 1 := by rw [List.length_take]; omega
    refine p__law_products h0 (by omega) rfl h1 (by omega) (by decide) (by decide) fun L' P' => ?_
    conv => whnf
    refine ⟨by rw [sizeLine_eq]; show 3 ≤ _; decide, ?_⟩
    exact fin _ L' h1 (by omega) P' (P'.one h0 h12 h1 h2)
  · rw [decide_eq_false hL]
    conv => whnf
    refine ⟨by rw [sizeLine_eq]; show 3 ≤ _; decide, ?_⟩
    exact fin ms L hms (by omega) P hL
end WS
set_option Elab.async false
set_option linter.all false
set_option maxRecDepth 100000
set_option maxHeartbeats 4000000
namespace WL
open PySem PySem.Spec PyProof.Rows L2
section
variable {X : Cx} {Z : GH × Hp} {a : Expr} {Ta : TW} {apos cpos tpos : Pos} {elts : List Expr} {kk : Nat}
end
inductive NoK : W → Prop
  | non : NoK .non
  | bl (b : Bool) : NoK (.bl b)
  | int (i : Int) : NoK (.int i)
  | str (x : Str) : NoK (.str x)
  | ty (n : String) : NoK (.ty n)
  | ref (a : Addr) : NoK (.ref a)
  | tup (xs : List W) (h : ∀ x ∈ xs, NoK x) : NoK (.tup xs)
  | kt (xs : List W) (h : ∀ x ∈ xs, NoK x) : NoK (.kt xs)
  | fl (xs : List W) (h : ∀ x ∈ xs, NoK x) : NoK (.fl xs)
section
variable {K : PySem.W.Frag} {H H' : Hp}
theorem rvs_noK : ∀ {vs : List V} {ws : List W}, (∀ x ∈ ws, ∀ v, RV K H v x → RV K H' v x) → RVs K H vs ws → RVs K H' vs ws
  | _, _, _, .nil => .nil
  | _, _, h, .cons r t => .cons (h _ List.mem_cons_self _ r) (rvs_noK (fun x hx => h x (List.mem_cons_of_mem _ hx)) t)
theorem NoK.rv (k : ∀ b o, H b = some o → H' b = some o ∨ ∃ z kvs, o = .frz z (.dK kvs)) {w : W} (f : NoK w) : ∀ v, RV K H v w → RV K H' v w := by
  induction f with
  | non => intro v r; cases r; exact .non
  | bl b => intro v r; cases r; exact .bl b
  | int b => intro v r; cases r; exact .int b
  | str b => intro v r; cases r; exact .str b
  | ty b => intro v r; cases r; exact .ty b
  | ref b => intro v r; cases r; exact .ref b
  | tup xs h ih =>
    intro v r
    cases r with
    | tup q rs => exact .tup ((k _ _ q).resolve_right fun ⟨_, _, e⟩ => by cases e) (rvs_noK ih rs)
  | kt xs h ih =>
    intro v r
    cases r with
    | kt q rs => exact .kt q (rvs_noK ih rs)
  | fl xs h ih =>
    intro v r
    cases r with
    | fl q rs =>
      refine .fl ?_ (rvs_noK ih rs)
      rcases q with ⟨o, q⟩ | q
      · exact .inl ⟨o, (k _ _ q).resolve_right fun ⟨_, _, e⟩ => by cases e⟩
      · exact .inr q
end
section
variable {X : Cx} {Z : GH × Hp} {st : Stmt} {T : TWS} {j : Nat}
end
def sortedR : CW := fun ws G R => match ws with
  | [.fdK kws] => ∃ ns : List Int, kws.map (·.1) = ns.map Sum.inl ∧ ns.length < 64 ∧ ∀ ms : List Int, ms.Perm ns → ms.Pairwise (· ≤ ·) → ∀ q, G q = none → R (.ref q) (updG G q (.lst (ms.map W.int)))
  | ws => sortedW ws G R
theorem call_sortedR {X : Cx} (hc : X.calm = true) : CallW X (.builtin "sorted") sortedR := by
  intro pins s σ H xs us Q I r h
  obtain ⟨ws, G, R, rs, rh, t, k⟩ := h
  unfold sortedR at t
  split at t
  · rename_i kws
    obtain ⟨ns, e1, h64, t⟩ := t
    obtain ⟨v, rfl, rv⟩ := rs.one
    cases rv with
    | @fdK a o kvs _ q e rr =>
      exact call_sortedDI hc pins s σ H _ us Q I r ⟨a, kvs, ns, rfl, .inr ⟨o, q⟩, e.trans e1, h64, fun ys p pm pw hp => k _ _ _ _ (t ys pm pw p (rh.free hp)) (.newG hp) (.ref _) (rh.newG hp ⟨_, upd_same, RVs.of_ints _⟩)⟩
  · exact call_sortedW pins s σ H _ us Q I r ⟨_, G, R, rs, rh, t, k⟩
end WL
set_option Elab.async false
set_option linter.all false
set_option maxRecDepth 100000
set_option maxHeartbeats 4000000
namespace WL
open PySem PySem.Spec PyProof PyProof.Rows L2 PySem.W
section
variable {P : Program} {w : World} {A : Around} {E : Value → Shared → Prop} {s : Shared}
end
section
variable {X : Cx} {Z : GH × Hp} {a : Expr} {Ta : TW} {p p2 q pos : Pos}
end
end WL
set_option Elab.async false
set_option linter.all false
set_option maxRecDepth 100000
set_option maxHeartbeats 4000000
namespace WS
open PySem PySem.Spec PyProof.Rows L2 WL
def leavL (S : List (List Int)) (l : Int) : List (List Int) := S.filter fun t => decide (goI t l = l)
theorem leav_mem {S : List (List Int)} {l : Int} {t : List Int} : t ∈ leavL S l ↔ t ∈ S ∧ goI t l = l := by
  unfold leavL; rw [List.mem_filter, decide_eq_true_iff]
theorem leav_self {S : List (List Int)} {l : Int} (h : ∀ t ∈ S, goI t l = l) : leavL S l = S := List.filter_eq_self.mpr fun t ht => decide_eq_true (h t ht)
theorem leav_lt {S : List (List Int)} {l : Int} : (leavL S l).length < S.length ↔ ∃ t ∈ S, goI t l ≠ l := by
  constructor
  · intro h
    refine Classical.byContradiction fun no => ?_
    rw [leav_self fun t ht => Classical.byContradiction fun z => no ⟨t, ht, z⟩] at h
    exact Nat.lt_irrefl _ h
  · rintro ⟨t, ht, z⟩
    refine Nat.lt_of_le_of_ne (List.length_filter_le _ _) fun e => z ?_
    have := List.length_filter_eq_length_iff.mp e t ht
    exact of_decide_eq_true this
structure Wk (n : Int) (ah : List Int) (fs : List Fl) (S : List (List Int)) : Prop where
  h0 : 1 ≤ n
  h4 : n ≤ 400
  C : Comp n ah fs
  nd : S.Nodup
  all : ∀ t, t ∈ S ↔ TurnOf n t ∧ Rep n fs t
section
variable {n : Int} {ah : List Int} {f : Fl} {fs : List Fl} {S : List (List Int)} {t w : List Int} {k : Int}
theorem Comp.al : ∀ {fs : List Fl} {ah : List Int}, Comp n ah fs → fs ≠ [] → ∀ l ∈ ah, LetOf n l
  | [], _, _, h => absurd rfl h
  | f :: fs, _, C, _ => C.1.al
theorem rep_fx {fs : List Fl} {ah : List Int} (h0 : 1 ≤ n) (h4 : n ≤ 400) (C : Comp n ah fs) (al : ∀ l ∈ ah, LetOf n l) (tt : TurnOf n t) (r : Rep n fs t) : Fx ah t := by
  cases fs with
  | nil =>
    have e : t = stillL n := r
    rw [e]; exact Fx.still al
  | cons f fs => exact ((rep_gen h0 h4 C tt).mp r).fx h0 h4 al C.1.psh
theorem Wk.tail_al (K : Wk n ah (f :: fs) S) : ∀ l ∈ f.letter :: ah, LetOf n l := fun l hl => by
  rcases List.mem_cons.mp hl with rfl | hl
  · exact K.C.1.lt
  · exact K.C.1.al l hl
theorem Wk.tl (K : Wk n ah (f :: fs) S) (tt : TurnOf n t) : (Rep n (f :: fs) t ∧ goI t f.letter = f.letter) ↔ Rep n fs t := by
  have F := K.C.1
  have st : thenL t (backL (stillL n)) = t := by rw [back_still K.h0 K.h4, then_still tt]
  constructor
  · rintro ⟨r, e⟩
    obtain ⟨w, e1, r⟩ := (rep_cons F).mp r
    rw [e, F.own] at e1
    cases e1
    rwa [st] at r
  · intro r
    have fx := rep_fx K.h0 K.h4 K.C.2.2.2 K.tail_al tt r
    have e : goI t f.letter = f.letter := fx _ List.mem_cons_self
    exact ⟨(rep_cons F).mpr ⟨stillL n, by rw [e]; exact F.own, by rwa [st]⟩, e⟩
theorem Wk.step (K : Wk n ah (f :: fs) S) : Wk n (f.letter :: ah) fs (leavL S f.letter) where
  h0 := K.h0
  h4 := K.h4
  C := K.C.2.2.2
  nd := K.nd.filter _
  all := fun t => by
    rw [leav_mem, K.all]
    constructor
    · rintro ⟨⟨tt, r⟩, e⟩; exact ⟨tt, (K.tl tt).mp ⟨r, e⟩⟩
    · rintro ⟨tt, r⟩
      obtain ⟨r, e⟩ := (K.tl tt).mpr r
      exact ⟨⟨tt, r⟩, e⟩
theorem Wk.way (K : Wk n ah (f :: fs) S) (h : (k, w) ∈ f.ways) : w ∈ S ∧ goI w f.letter = k := by
  obtain ⟨tw, e, _, g⟩ := K.C.1.way k w h
  exact ⟨(K.all w).mpr ⟨tw, (rep_gen K.h0 K.h4 K.C tw).mpr g⟩, e⟩
theorem Wk.goes (K : Wk n ah (f :: fs) S) : k ∈ f.ways.map (·.1) ↔ ∃ t ∈ S, goI t f.letter = k := by
  constructor
  · intro h
    obtain ⟨⟨k, w⟩, hz, rfl⟩ := List.mem_map.mp h
    exact ⟨w, K.way hz⟩
  · rintro ⟨t, ht, rfl⟩
    obtain ⟨tt, r⟩ := (K.all t).mp ht
    obtain ⟨w, e, _⟩ := (rep_cons K.C.1).mp r
    exact List.mem_map.mpr ⟨_, lookup_mem e, rfl⟩
theorem Wk.moved (K : Wk n ah (f :: fs) S) : 1 < f.ways.length ↔ ∃ t ∈ S, goI t f.letter ≠ f.letter := by
  have F := K.C.1
  have own : f.letter ∈ f.ways.map (·.1) := List.mem_map.mpr ⟨_, lookup_mem F.own, rfl⟩
  constructor
  · intro h
    refine Classical.byContradiction fun no => ?_
    have : ∀ k ∈ f.ways.map (·.1), k ∈ [f.letter] := fun k hk => by
      obtain ⟨t, ht, rfl⟩ := K.goes.mp hk
      exact List.mem_singleton.mpr (Classical.byContradiction fun z => no ⟨t, ht, z⟩)
    have := nodup_sub_len _ _ F.nd this
    rw [List.length_map, List.length_singleton] at this
    omega
  · rintro ⟨t, ht, z⟩
    have hk := K.goes.mpr ⟨t, ht, rfl⟩
    have : ∀ k ∈ [f.letter, goI t f.letter], k ∈ f.ways.map (·.1) := fun k h => by
      rcases List.mem_cons.mp h with rfl | h
      · exact own
      · rw [List.mem_singleton.mp h]; exact hk
    have := nodup_sub_len [f.letter, goI t f.letter] _ (by simp only [List.nodup_cons, List.mem_singleton, List.not_mem_nil, not_false_eq_true, List.nodup_nil, and_true]; exact fun e => z e.symm) this
    rw [List.length_map] at this
    exact this
theorem Wk.one (K : Wk n ah (f :: fs) S) (h : ¬ 1 < f.ways.length) : leavL S f.letter = S := leav_self fun t ht => Classical.byContradiction fun z => h (K.moved.mpr ⟨t, ht, z⟩)
theorem Wk.last (K : Wk n ah [] S) : S.length = 1 := by
  have e : ∀ t, t ∈ S ↔ t ∈ [stillL n] := fun t => by
    rw [K.all, List.mem_singleton]
    exact ⟨fun h => h.2, fun h => by rw [h]; exact ⟨still_turn K.h0 K.h4, rfl⟩⟩
  exact ((List.perm_ext_iff_of_nodup K.nd (by simp)).mpr e).length_eq
def toldN : Nat → List Fl → List Fl
  | _, [] => []
  | 0, f :: fs => if 1 < f.ways.length then f :: toldN 0 fs else toldN 0 fs
  | k + 1, f :: fs => f :: toldN k fs
def Tw (n : Int) (T : List Fl) (S : List (List Int)) : Prop := ∃ k ah fs, toldN k fs = T ∧ Wk n ah fs S
theorem Tw.next : ∀ {fs : List Fl} {k : Nat} {ah : List Int} {S : List (List Int)} {T : List Fl}, Wk n ah fs S → toldN k fs = f :: T → ∃ k' ah' fs', toldN k' fs' = T ∧ Wk n ah' (f :: fs') S
  | [], k, ah, S, T, K, e => by
    cases k <;> cases e
  | g :: fs, k + 1, ah, S, T, K, e => by
    obtain ⟨rfl, e2⟩ := List.cons.inj e
    exact ⟨k, ah, fs, e2, K⟩
  | g :: fs, 0, ah, S, T, K, e => by
    unfold toldN at e
    by_cases h : 1 < g.ways.length
    · rw [if_pos h] at e
      obtain ⟨rfl, e2⟩ := List.cons.inj e
      exact ⟨0, ah, fs, e2, K⟩
    · rw [if_neg h] at e
      have := K.step
      rw [K.one h] at this
      exact Tw.next this e
theorem Tw.fin : ∀ {fs : List Fl} {k : Nat} {ah : List Int} {S : List (List Int)}, Wk n ah fs S → toldN k fs = [] → S.length = 1
  | [], k, ah, S, K, e => K.last
  | g :: fs, k + 1, ah, S, K, e => by cases e
  | g :: fs, 0, ah, S, K, e => by
    unfold toldN at e
    by_cases h : 1 < g.ways.length
    · rw [if_pos h] at e; cases e
    · rw [if_neg h] at e
      have := K.step
      rw [K.one h] at this
      exact Tw.fin this e
theorem Tw.head {T : List Fl} (K : Tw n (f :: T) S) : ∃ ah fs, Wk n ah (f :: fs) S ∧ Tw n T (leavL S f.letter) := by
  obtain ⟨k, ah, fs, e, K⟩ := K
  obtain ⟨k', ah', fs', e, K⟩ := Tw.next K e
  exact ⟨ah', fs', K, k', _, fs', e, K.step⟩
theorem Tw.one (K : Tw n [] S) : S.length = 1 := let ⟨k, ah, fs, e, K⟩ := K; Tw.fin K e
def dueS : List Int → List (List Int) → List Int
  | [], _ => []
  | k :: ks, S => if (leavL S k).length < S.length then k :: dueS ks (leavL S k) else dueS ks S
def leavA (S : List (List Int)) (ls : List Int) : List (List Int) := ls.foldl leavL S
theorem Wk.base : ∀ {fl os : List Int} {ch : List Fl} {ah : List Int} {S : List (List Int)}, Wk n ah ch S → ch.map (·.letter) = fl ++ os → ∃ ch2 ah2, ch2.map (·.letter) = os ∧ (toldN fl.length ch).map (·.letter) = fl ++ (toldN 0 ch2).map (·.letter) ∧ Wk n ah2 ch2 (leavA S fl)
  | [], os, ch, ah, S, K, e => ⟨ch, ah, e, rfl, K⟩
  | l :: fl, os, [], ah, S, K, e => by cases e
  | l :: fl, os, f :: ch, ah, S, K, e => by
    rw [List.map_cons, List.cons_append] at e
    obtain ⟨e1, e2⟩ := List.cons.inj e
    have e1 : f.letter = l := e1
    subst e1
    obtain ⟨ch2, ah2, h1, h2, h3⟩ := Wk.base K.step e2
    refine ⟨ch2, ah2, h1, ?_, h3⟩
    rw [List.length_cons, toldN, List.map_cons, h2, List.cons_append]
theorem Wk.due {p : Int → Bool} : ∀ {ks : List Int} {ch : List Fl} {ah : List Int} {S : List (List Int)}, Wk n ah ch S → ch.map (·.letter) = ks.filter p → (∀ k ∈ ks, p k = false → ∀ t ∈ S, goI t k = k) → (toldN 0 ch).map (·.letter) = dueS ks S
  | [], ch, ah, S, K, e, _ => by
    cases ch with
    | nil => rfl
    | cons f ch => cases e
  | k :: ks, ch, ah, S, K, e, hp => by
    cases hk : p k with
    | false =>
      have hs := leav_self (hp k List.mem_cons_self hk)
      rw [List.filter_cons, hk] at e
      rw [dueS, hs, if_neg (Nat.lt_irrefl _)]
      exact Wk.due K e fun k h => hp k (List.mem_cons_of_mem _ h)
    | true =>
      rw [List.filter_cons, hk, if_pos rfl] at e
      cases ch with
      | nil => cases e
      | cons f ch =>
        rw [List.map_cons] at e
        obtain ⟨e1, e2⟩ := List.cons.inj e
        have e1 : f.letter = k := e1
        subst e1
        have go := Wk.due K.step e2 fun k h hf t ht => hp k (List.mem_cons_of_mem _ h) hf t (leav_mem.mp ht).1
        rw [dueS, toldN]
        by_cases h : 1 < f.ways.length
        · rw [if_pos h, if_pos (leav_lt.mpr (K.moved.mp h)), List.map_cons, go]
        · rw [if_neg h, if_neg fun z => h (K.moved.mpr (leav_lt.mp z))]
          rwa [K.one h] at go
end
end WS
set_option Elab.async false
set_option linter.all false
set_option maxRecDepth 100000
set_option maxHeartbeats 4000000
namespace WS
open PySem PySem.Spec PyProof.Rows L2 WL
def enF : Int → List Fl → List (Int × Fl)
  | _, [] => []
  | k, f :: fs => (k, f) :: enF (k + 1) fs
def enW (p : Int × Fl) : W := .tup [.int p.1, flW p.2]
theorem enF_w : ∀ (k : Int) (fs : List Fl), enumP k (fs.map flW) = (enF k fs).map enW
  | _, [] => rfl
  | k, f :: fs => by rw [List.map_cons, enumP, enF_w, enF, List.map_cons]; rfl
theorem enF_len : ∀ (k : Int) (fs : List Fl), (enF k fs).length = fs.length
  | _, [] => rfl
  | k, f :: fs => by rw [enF, List.length_cons, List.length_cons, enF_len]
def toldP (m : Nat) (p : Int × Fl) : Bool := decide (p.1 < (m : Int)) || decide ((p.2.ways.length : Int) > 1)
theorem enF_told : ∀ (fs : List Fl) (k : Nat) (j m : Nat), j + k = m ∨ (k = 0 ∧ m ≤ j) → ((enF (j : Int) fs).filter (toldP m)).map (fun p => flW p.2) = (toldN k fs).map flW
  | [], k, j, m, h => by cases k <;> rfl
  | f :: fs, k, j, m, h => by
    rw [enF, List.filter_cons]
    have hj : (j : Int) + 1 = ((j + 1 : Nat) : Int) := by omega
    cases k with
    | succ k =>
      have hp : toldP m ((j : Int), f) = true := by unfold toldP; rw [decide_eq_true (by show (j : Int) < m; omega)]; rfl
      rw [if_pos hp, List.map_cons, toldN, List.map_cons, hj, enF_told fs k (j + 1) m (by omega)]
    | zero =>
      have hp : toldP m ((j : Int), f) = decide (1 < f.ways.length) := by
        unfold toldP
        rw [decide_eq_false (by show ¬ (j : Int) < m; omega), Bool.false_or]
        exact decide_eq_decide.mpr (by show (f.ways.length : Int) > 1 ↔ _; omega)
      rw [hp, toldN, hj]
      have ih := enF_told fs 0 (j + 1) m (by omega)
      by_cases hw : 1 < f.ways.length
      · rw [if_pos (decide_eq_true hw), if_pos hw, List.map_cons, List.map_cons, ih]
      · rw [decide_eq_false hw, if_neg hw, ← ih]; rfl
theorem toldN_sub : ∀ {k : Nat} {fs : List Fl} {f : Fl}, f ∈ toldN k fs → f ∈ fs
  | k, [], f, h => by cases k <;> cases h
  | 0, g :: fs, f, h => by
    unfold toldN at h
    split at h
    · rcases List.mem_cons.mp h with rfl | h
      · exact List.mem_cons_self
      · exact List.mem_cons_of_mem _ (toldN_sub h)
    · exact List.mem_cons_of_mem _ (toldN_sub h)
  | k + 1, g :: fs, f, h => by
    rcases List.mem_cons.mp h with rfl | h
    · exact List.mem_cons_self
    · exact List.mem_cons_of_mem _ (toldN_sub h)
theorem toldN_len : ∀ (k : Nat) (fs : List Fl), (toldN k fs).length ≤ fs.length
  | k, [] => by cases k <;> exact Nat.le_refl _
  | 0, g :: fs => by
    have := toldN_len 0 fs
    unfold toldN
    split
    · rw [List.length_cons, List.length_cons]; omega
    · rw [List.length_cons]; omega
  | k + 1, g :: fs => by
    have := toldN_len k fs
    unfold toldN
    rw [List.length_cons, List.length_cons]; omega
def wayOf (f : Fl) (k : Int) : List Int := (f.ways.lookup k).getD []
def flK (f : Fl) (ms : List Int) : List (Key × W) := ms.map fun k => (.inl k, cTup (wayOf f k))
def FlD (G : GH) (D : Addr) (f : Fl) : Prop := ∃ ms : List Int, ms.Perm (f.ways.map (·.1)) ∧ ms.Pairwise (· ≤ ·) ∧ G D = some (.dK (flK f ms))
theorem ExtG.none {G G' : GH} {p : Addr} (x : ExtG G G') (h : G' p = none) : G p = none := by
  cases hg : G p with
  | none => rfl
  | some o => rw [x _ _ hg] at h; cases h
theorem FlD.ext {G G' : GH} {D : Addr} {f : Fl} (h : FlD G D f) (x : ExtG G G') : FlD G' D f := let ⟨ms, a, b, c⟩ := h; ⟨ms, a, b, x _ _ c⟩
theorem paired_l {α β : Type} {F : α → β → Prop} : ∀ {as : List α} {bs : List β} {a : α}, Paired F as bs → a ∈ as → ∃ b ∈ bs, F a b
  | _, _, _, .nil, h => by cases h
  | _, _, _, .cons r t, h => by
    rcases List.mem_cons.mp h with rfl | h
    · exact ⟨_, List.mem_cons_self, r⟩
    · obtain ⟨b, hb, e⟩ := paired_l t h
      exact ⟨b, List.mem_cons_of_mem _ hb, e⟩
theorem paired_app {α β : Type} {F : α → β → Prop} {a : α} {b : β} : ∀ {as : List α} {bs : List β}, Paired F as bs → F a b → Paired F (as ++ [a]) (bs ++ [b])
  | _, _, .nil, h => .cons h .nil
  | _, _, .cons r t, h => .cons r (paired_app t h)
theorem paired_imp {α β : Type} {F F' : α → β → Prop} : ∀ {as : List α} {bs : List β}, Paired F as bs → (∀ a b, F a b → F' a b) → Paired F' as bs
  | _, _, .nil, _ => .nil
  | _, _, .cons r t, h => .cons (h _ _ r) (paired_imp t h)
theorem putW_new : ∀ {acc : List (Key × W)} {k : Key} {v : W}, k ∉ acc.map (·.1) → putW acc k v = acc ++ [(k, v)] := fun {acc k v} h => put_new (by
  unfold valW
  have : acc.find? (fun p => decide (p.1 = k)) = none := List.find?_eq_none.mpr fun p hp e => h (List.mem_map.mpr ⟨p, hp, of_decide_eq_true e⟩)
  rw [this]; rfl)
theorem merge_nodup {g : Int → W} : ∀ {ks : List Int} {acc : List (Key × W)}, ks.Nodup → (∀ k ∈ ks, (Sum.inl k : Key) ∉ acc.map (·.1)) → mergeW acc (ks.map fun k => ((Sum.inl k : Key), g k)) = acc ++ ks.map fun k => ((Sum.inl k : Key), g k)
  | [], acc, _, _ => (List.append_nil _).symm
  | k :: ks, acc, nd, h => by
    rw [List.nodup_cons] at nd
    show mergeW (putW acc (Sum.inl k) (g k)) _ = _
    rw [putW_new (h k List.mem_cons_self), merge_nodup nd.2 fun x hx hm => ?_]
    · rw [List.append_assoc]; rfl
    · rw [List.map_append, List.mem_append] at hm
      rcases hm with hm | hm
      · exact h x (List.mem_cons_of_mem _ hx) hm
      · have e : (Sum.inl x : Key) = Sum.inl k := by simpa using hm
        cases e
        exact nd.1 hx
theorem GrOk.len {many : Int} {fl : List Int} {ps : List (List Int)} {ch : List Fl} (O : GrOk many fl ps ch) : ch.length ≤ 24 := by
  have h0 := O.h0
  have h12 := O.h12
  have h := congrArg List.length O.lt
  have h1 := len_le_of_abs (by omega) O.hf O.nd
  have h2 := List.length_filter_le (fun k => !decide (k ∈ absL fl)) (stillL many)
  unfold lettersC at h
  unfold stillL at h2
  rw [List.length_map, List.length_append] at h
  rw [rgI_length] at h2
  unfold stillL at h
  omega
theorem Comp.nds {n : Int} : ∀ {fs : List Fl} {ah : List Int}, Comp n ah fs → ∀ f ∈ fs, (f.ways.map (·.1)).Nodup
  | [], _, _ => fun f h => by cases h
  | f :: fs, ah, C => fun g h => by
    rcases List.mem_cons.mp h with rfl | h
    · exact C.1.nd
    · exact C.2.2.2.nds g h
/- listI -/
def listI : Nat := 0
abbrev N_Group_told_chain : List Str := ["self", "at", "floor"]
structure P_Group_told_chain (ws : List W) (G : GH) (R : KW) (RX : XW) : Prop where
  ex : ∃ (many : Int) (fw : W) (fl : List Int) (ps : List (List Int)) (ch : List Fl), ws = [grW many fw ps ch] ∧ (GrOk many fl ps ch) ∧ (fw.tup? = some (fl.map W.int)) ∧ (R (.fl ((toldN fl.length ch).map flW)) G)
theorem len_Group_told_chain : ∀ ws G R RX, P_Group_told_chain ws G R RX → ws.length = ["self"].length := by
  rintro ws G R RX ⟨⟨_, _, _, _, _, rfl, _, _, _⟩⟩; rfl
theorem p_Group_told_chain {many : Int} {fw : W} {fl : List Int} {ps : List (List Int)} {ch : List Fl} {G : GH} {R : KW} {RX : XW} (O : GrOk many fl ps ch) (hfw : fw.tup? = some (fl.map W.int)) (q : R (.fl ((toldN fl.length ch).map flW)) G) : P_Group_told_chain [grW many fw ps ch] G R RX := ⟨many, fw, fl, ps, ch, rfl, O, hfw, q⟩
def T_Group_told_chain : TWS :=
  (sRet (tFz (tComp (tIEnum1 (tFldW "Group" "chain" (tV 0))) (gT 2 (gsC (gN 1) (gsC (gN 2) gsN))) (tOrW (tTestW (tOpW ltW (tV 1) (tCW lenQ (tCo (tFldW "Group" "firsts" (tV 0)) tN)))) (tTestW (tOpW gtW (tCW lenR (tCo (tFldW "Floor" "ways" (tV 2)) tN)) (tK (.int 1))))) (tV 2) [1, 2])))
theorem rd_Group_told_chain (ws : List W) (G : GH) (R : KW) (RX : XW) (h : P_Group_told_chain ws G R RX) : T_Group_told_chain { nx := fun _ G' => fgt R .non G', rt := fgt R } (startW N_Group_told_chain ws) G := by
  obtain ⟨many, fw, fl, ps, ch, rfl, O, hfw, q⟩ := h
  (try conv => whnf); (repeat (first | (refine Exists.intro _ (And.intro rfl ?_); conv => whnf) | (refine And.intro rfl ?_; conv => whnf) | (refine frz_lst ?_; conv => whnf) | (refine frz_dK ?_; conv => whnf) | (refine frz_dT ?_; conv => whnf)))
  rw [enF_w]
  refine compW_pureF (f := enW) (v := fun p => flW p.2) (keep := toldP fl.length) trivial _ [] (by rw [List.length_nil, enF_len, sizeLine_eq]; have := O.len; omega) (fun p hp R' N' q1 q2 => ?_) ?_
  · conv => whnf
    refine ⟨rfl, ?_⟩
    conv => whnf
    refine ⟨rfl, ?_⟩
    conv => whnf
    refine ⟨rfl, ?_⟩
    conv => whnf
    have hfw' : fw = .tup (fl.map W.int) ∨ fw = .kt (fl.map W.int) := by cases fw <;> cases hfw <;> simp
    rcases hfw' with e | e <;> subst e
    all_goals conv => whnf
    all_goals
      rw [List.length_map]
      cases h1 : decide (p.1 < (fl.length : Int)) with
      | true =>
        have := q1 (by unfold toldP; rw [h1]; rfl)
        conv => whnf
        exact this
      | false =>
        conv => whnf
        refine ⟨rfl, ?_⟩
        conv => whnf
        rw [List.length_map]
        cases h2 : decide ((p.2.ways.length : Int) > 1) with
        | true =>
          have := q1 (by unfold toldP; rw [h1, h2]; rfl)
          conv => whnf
          exact this
        | false =>
          have := q2 (by unfold toldP; rw [h1, h2]; rfl)
          conv => whnf
          exact this
  · have e := enF_told ch fl.length 0 fl.length (.inl (Nat.zero_add _))
    rw [show ((0 : Nat) : Int) = 0 from rfl] at e
    rw [List.nil_append, e]
    exact frz_lst (ret q)
abbrev N_Group_floors : List Str := ["self", "floor", "to"]
structure P_Group_floors (ws : List W) (G : GH) (R : KW) (RX : XW) : Prop where
  ex : ∃ (many : Int) (fw : W) (fl : List Int) (ps : List (List Int)) (ch : List Fl), ws = [grW many fw ps ch] ∧ (GrOk many fl ps ch) ∧ (fw.tup? = some (fl.map W.int)) ∧ (∀ p Ds G', G' p = some (.lst (Ds.map W.ref)) → p ∉ Ds → Paired (FlD G') Ds (toldN fl.length ch) → ExtG G G' → G p = none → (∀ D ∈ Ds, G D = none) → R (.ref p) G')
theorem len_Group_floors : ∀ ws G R RX, P_Group_floors ws G R RX → ws.length = ["self"].length := by
  rintro ws G R RX ⟨⟨_, _, _, _, _, rfl, _, _, _⟩⟩; rfl
theorem p_Group_floors {many : Int} {fw : W} {fl : List Int} {ps : List (List Int)} {ch : List Fl} {G : GH} {R : KW} {RX : XW} (O : GrOk many fl ps ch) (hfw : fw.tup? = some (fl.map W.int)) (q : ∀ p Ds G', G' p = some (.lst (Ds.map W.ref)) → p ∉ Ds → Paired (FlD G') Ds (toldN fl.length ch) → ExtG G G' → G p = none → (∀ D ∈ Ds, G D = none) → R (.ref p) G') : P_Group_floors [grW many fw ps ch] G R RX := ⟨many, fw, fl, ps, ch, rfl, O, hfw, q⟩
def T_Group_floors : TWS :=
  (sRet (tComp (tISeq (tMethW "Group" "told_chain" P_Group_told_chain [] XF (tV 0) tN)) (gN 1) tYesW (tDictC (tISeq (tFz (tCW sortedR (tCo (tFldW "Floor" "ways" (tV 1)) tN)))) (gN 2) tYesW (tV 2) (tOpW ixW (tFldW "Floor" "ways" (tV 1)) (tV 2)) [2]) [1]))
theorem rd_Group_floors (ws : List W) (G : GH) (R : KW) (RX : XW) (h : P_Group_floors ws G R RX) : T_Group_floors { nx := fun _ G' => fgt R .non G', rt := fgt R } (startW N_Group_floors ws) G := by
  obtain ⟨many, fw, fl, ps, ch, rfl, O, hfw, q⟩ := h
  (try conv => whnf); (repeat (first | (refine Exists.intro _ (And.intro rfl ?_); conv => whnf) | (refine And.intro rfl ?_; conv => whnf) | (refine frz_lst ?_; conv => whnf) | (refine frz_dK ?_; conv => whnf) | (refine frz_dT ?_; conv => whnf)))
  refine p_Group_told_chain O hfw ?_
  have := toldN_len fl.length ch
  have hl := O.len
  have hw : ∀ f ∈ toldN fl.length ch, f.ways.length ≤ 24 := fun f hf => by
    have := O.C.wlen f (toldN_sub hf)
    have := O.h12
    omega
  conv => whnf
  refine compW_map (f := flW) (I := fun xs G1 acc => ∃ (ys : List Fl) (Ds : List Addr), ys ++ xs = toldN fl.length ch ∧ acc = Ds.map W.ref ∧ Paired (FlD G1) Ds ys ∧ ExtG G G1 ∧ ∀ D ∈ Ds, G D = none) (fun f fs G1 acc => ?_) (fun G1 acc => ?_) _ _ _ ⟨[], [], rfl, rfl, .nil, .refl, fun D h => by cases h⟩
  · rintro ⟨ys, Ds, e, rfl, P, X, hF⟩ N hN
    have hf : f ∈ toldN fl.length ch := by rw [← e]; simp
    refine ⟨trivial, ?_⟩
    conv => whnf
    refine ⟨rfl, ?_⟩
    conv => whnf
    refine ⟨f.ways.map (·.1), by rw [List.map_map, List.map_map]; rfl, by rw [List.length_map]; have := hw f hf; omega, fun ms pm pw => frz_lst ?_⟩
    conv => whnf
    refine compD_pure (f := W.int) (kf := Sum.inl) (vf := fun k => cTup (wayOf f k)) trivial ms [] (by rw [List.length_nil, pm.length_eq, List.length_map, sizeLine_eq]; have := hw f hf; omega) (fun k hk R' q' => ?_) ?_
    · conv => whnf
      refine ⟨rfl, ?_⟩
      conv => whnf
      have hk2 := pm.mem_iff.mp hk
      obtain ⟨⟨k2, w2⟩, hz, e2⟩ := List.mem_map.mp hk2
      have e2 : k2 = k := e2
      subst e2
      have hlk := mem_lookup (O.C.nds f (toldN_sub hf)) hz
      refine ⟨_, congrArg some ((val_way f.ways k2).trans (congrArg (Option.map cTup) hlk)), ?_⟩
      have := q' (.int k2) rfl
      rw [show wayOf f k2 = w2 by unfold wayOf; rw [hlk]; rfl] at this
      exact this
    · rw [merge_nodup ((pm.nodup_iff.mpr (O.C.nds f (toldN_sub hf)))) (fun k _ h => by cases h), List.nil_append]
      intro D hD
      conv => whnf
      have hdl : Ds.length = ys.length := P.length
      have hle := congrArg List.length e
      rw [List.length_append, List.length_cons] at hle
      refine ⟨by rw [List.length_map, sizeLine_eq]; omega, ?_⟩
      have X1 : ExtG G1 (updG G1 D (.dK (flK f ms))) := .new hD
      exact hN _ _ ⟨ys ++ [f], Ds ++ [D], by rw [List.append_assoc]; exact e, by rw [List.map_append]; rfl, paired_app (paired_imp P fun _ _ h => h.ext X1) ⟨ms, pm, pw, updG_same⟩, X.trans X1, fun D2 hD2 => by
        rcases List.mem_append.mp hD2 with h | h
        · exact hF D2 h
        · rw [List.mem_singleton.mp h]; exact WS.ExtG.none X hD⟩
  · rintro ⟨ys, Ds, e, rfl, P, X, hF⟩
    refine ⟨trivial, fun p hp => ret ?_⟩
    rw [List.append_nil] at e
    subst e
    have np : p ∉ Ds := fun h => by
      obtain ⟨f, _, ms, _, _, e⟩ := paired_l P h
      rw [hp] at e; cases e
    have X2 : ExtG G1 (updG G1 p (.lst (Ds.map W.ref))) := .new hp
    refine q p Ds _ updG_same np (paired_imp P fun _ _ h => h.ext X2) (X.trans X2) (WS.ExtG.none X hp) hF
abbrev N__law_base_drawn : List Str := ["draw", "many", "pool", "truths", "k", "truth"]
structure P__law_base_drawn (ws : List W) (G : GH) (R : KW) (RX : XW) : Prop where
  ex : ∃ (ns : List Int) (d : Addr) (many : Int), ws = [.ref d, .int many] ∧ (1 ≤ many) ∧ (many ≤ 400) ∧ (Dr ns d G) ∧ (∀ (c : List Int) G', (∀ l ∈ c, LetOf many l) → (absL c).Nodup → Dr ns d G' → KeepG d G G' → R (.fl (c.map W.int)) G')
theorem len__law_base_drawn : ∀ ws G R RX, P__law_base_drawn ws G R RX → ws.length = ["draw", "many"].length := by
  rintro ws G R RX ⟨⟨_, _, _, rfl, _, _, _, _⟩⟩; rfl
theorem p__law_base_drawn {ns : List Int} {d : Addr} {many : Int} {G : GH} {R : KW} {RX : XW} (h0 : 1 ≤ many) (h1 : many ≤ 400) (D : Dr ns d G) (q : ∀ (c : List Int) G', (∀ l ∈ c, LetOf many l) → (absL c).Nodup → Dr ns d G' → KeepG d G G' → R (.fl (c.map W.int)) G') : P__law_base_drawn [.ref d, .int many] G R RX := ⟨ns, d, many, rfl, h0, h1, D, q⟩
def T__law_base_drawn : TWS :=
  (sSeq (sSet 2 (tListRg (tRg2W (tK (.int 1)) (tOpW addW (tV 1) (tK (.int 1))))))
    (sSeq (sSet 3 (tFz (tComp (tIRng1 (tCo (tCall0 P__law_next [] (tCo (tV 0) (tCo (tOpW addW (tV 1) (tK (.int 1))) tN))) tN)) (gN 4) tYesW (tMetL popW (tV 2) (tCo (tCall0 P__law_next [] (tCo (tV 0) (tCo (tCW lenQ (tCo (tV 2) tN)) tN))) tN)) [4])))
    (sRet (tFz (tComp (tISeq (tV 3)) (gN 5) tYesW (tOpW ixW (tFz (tLstW (tCo (tV 5) (tCo (tNegW (tV 5)) tN)))) (tCall0 P__law_next [] (tCo (tV 0) (tCo (tK (.int 2)) tN)))) [5])))))
theorem rd__law_base_drawn (ws : List W) (G : GH) (R : KW) (RX : XW) (h : P__law_base_drawn ws G R RX) : T__law_base_drawn { nx := fun _ G' => fgt R .non G', rt := fgt R } (startW N__law_base_drawn ws) G := by
  obtain ⟨ns, d, many, rfl, h0, h1, D, q⟩ := h
  conv => whnf
  refine ⟨.of_le (by decide) (by omega) (by decide) (by omega), ?_⟩
  (intro p hp); (generalize eG1 : updG G p _ = G1); (have xG1 : ExtG G G1 := eG1 ▸ ExtG.new hp); (have gG1 := (congrFun eG1 p).symm); (rw [updG_same] at gG1); (clear eG1)
  have D1 := D.ext xG1
  have dp := (D.off hp).symm
  have hGp : G p = none := hp
  conv => whnf
  refine p__law_next (by omega) D1 fun m G2 a0 a1 D2 k2 => ?_
  conv => whnf
  have gp2 := k2 _ _ dp gG1
  have K2 : KeepG d G G2 := xG1.keep.trans k2
  have hlR : (rgI 1 (many + 1)).length = many.toNat := by rw [rgI_length]; congr 1; omega
  refine ⟨by omega, by omega, ?_⟩
  refine comp_pool (j := 0) (i := 2) hGp (fun _ => trivial) rfl rfl (by decide) (by decide) _ [] (rgI 1 (many + 1)) G2 gp2 K2 D2 (by rw [List.length_range, hlR]; omega) (by rw [hlR, List.length_nil]; omega) fun ls ps G4 pm hls gp4 D4 k4 => ?_
  refine frz_lst ?_
  conv => whnf
  rw [List.nil_append] at pm
  have nd : ls.Nodup := (List.nodup_append.mp (pm.nodup_iff.mpr (rgI_nodup _ _))).1
  have bm : ∀ x ∈ ls, 1 ≤ x ∧ x ≤ many := fun x hx => by
    have := rgI_mem.mp (pm.mem_iff.mp (List.mem_append_left _ hx))
    omega
  have am : absL ls = ls := by
    conv => rhs; rw [← List.map_id ls]
    exact List.map_congr_left fun x hx => by have := bm x hx; unfold absI; rw [if_neg (by omega)]; rfl
  refine comp_signs (j := 0) (fun _ _ => trivial) rfl (by decide) rfl D4 (by rw [hls, List.length_range, List.length_nil]; omega) fun zs G5 az D5 k5 => ?_
  refine frz_lst (ret (q zs G5 (fun l hl => ?_) (by rw [az, am]; exact nd) D5 (k4.trans k5)))
  have : absI l ∈ absL ls := az ▸ List.mem_map_of_mem hl
  rw [am] at this
  exact bm _ this
end WS
set_option Elab.async false
set_option linter.all false
set_option maxRecDepth 100000
set_option maxHeartbeats 4000000
namespace WL
open PySem PySem.Spec PyProof PyProof.Rows L2 PySem.W
section
variable {X : Cx}
end
section
variable {X : Cx} {Z : GH × Hp} {a : Expr} {Ta : TW} {p p2 q pos : Pos}
end
end WL
set_option Elab.async false
set_option linter.all false
set_option maxRecDepth 100000
set_option maxHeartbeats 4000000
namespace WL
open PySem PySem.Spec PyProof PyProof.Rows L2 PySem.W
structure KeG (P : Program) (w : World) (K : PySem.W.Frag) (mg : Str → Option Value) (base : Heap) (CX : CXT) (k : Nat) (c m : Str) (ps ks : List Str) (gW : List W → List W → List W) (sp : SpW) : Prop where
  ex : ∃ C f fd g gV, ClsAt K c C ∧ Cls K C ∧ Meth K C m f ∧ FnG P w K mg base CX k f fd ps (spL K sp) ∧ KBn K fd ps 1 ks g gV ∧ ∀ H vs zs ws us, RVs K H vs ws → RVs K H zs us → RVs K H (gV vs zs) (gW ws us)
def tMethKX (c m : Str) (ks : List Str) (P : SpW) (gW : List W → List W → List W) (RX : XS) (Ta : TW) (Tk : TWA) : TW := fun S G R => Ta S G fun w G1 => match insOf c w G1 with
  | some fs => fs.lookup m = none ∧ Tk S G1 fun us G2 => us.length = ks.length ∧ P (gW [w] us) G2 R fun c fs G' => RX c fs S G'
  | none => False
section
variable {X : Cx} {Z : GH × Hp} {k j : Nat} {ps ks : List Str} {m cn : Str} {pos apos : Pos} {o : Expr} {kws : List Keyword} {P : SpW} {Ta : TW} {Tk : TWA} {gW : List W → List W → List W} {RX : XS}
theorem we_mkwR (tk : TX X Z RX) (D : KeG X.prog X.w X.K X.mg X.base (L2.CX X.prog X.w) k cn m ps ks gW P) {pl : Sem Bool} (hgd : X.A.guards = some []) (hr : Room j X.A) (he : WE X Z o Ta) (hkw : WKw X Z kws Tk) (hk : k ≤ j := by decide)
    (hall : (backToKw pos (keywordEach kws X.env)).all (·.1.isSome) = true := by rfl) (hks : (backToKw pos (keywordEach kws X.env)).filterMap (·.1) = ks := by rfl)
    (hpl : ((backTo pos (starEach [] X.env)).any (·.1) || (backToKw pos (keywordEach kws X.env)).any (·.1.isNone)) = false := by rfl)
    (ht : eval (.Call (.Attribute o m apos) [] kws pos) X.env = (do
      let ov ← eval o X.env
      standAt apos.atName
      let (f, first) ← holding [ov] (getMethod ov m pl)
      callWith pos f first (backTo pos (starEach [] X.env)) (backToKw pos (keywordEach kws X.env))) := by rfl) :
    WE X Z (.Call (.Attribute o m apos) [] kws pos) (tMethKX cn m ks P gW RX Ta Tk) := by
  obtain ⟨C, f, fd, g, gV, hC, hcls, hm, F, hb, hgw⟩ := D.ex
  refine ⟨fun pins s σ H Q I h => ?_⟩
  obtain ⟨S, G, R, sr, t, kl⟩ := h
  refine PySem.W.methodCall_KW (pl := pl) (thn (he.run pins s σ H (fun x H1 => ∃ a dx fs, x = .ref a ∧ Rd H1 a (.ins C dx fs) ∧ fs.lookup m = none ∧ LfA X.K Z Tk σ H1 fun zs H2 => zs.length = ks.length ∧ spL X.K P (gV [.ref a] zs) H2 Q (EW X Z RX σ)) I (Lf.go sr t fun w G1 v H1 t1 f1 r1 h1 => ?_)) fun u s1 ⟨x, H1, I1, rx, a, dx, fs, ex, ea, l, q⟩ => ?_) ht
  · split at t1
    · rename_i fs e
      obtain ⟨hl, t1⟩ := t1
      obtain ⟨a, C', dx, fvs, rfl, hC', ha', rf⟩ := ins_of e r1 h1
      have := hC'.inj hC
      subst this
      have hl' : fvs.lookup m = none := by
        rcases RKV.lookup m rf with ⟨_, z⟩ | ⟨v, w, _, z, _⟩
        · exact z
        · rw [hl] at z; cases z
      refine ⟨a, dx, fvs, rfl, ha', hl', LfA.go (sr.next f1 h1) t1 fun us G2 zs H2 t2 f2 rz h2 => ⟨by rw [rz.length]; exact t2.1, ?_⟩⟩
      exact ⟨gW [w] us, G2, R, _, hgw _ _ _ _ _ (.cons (r1.mono f2 h1) .nil) rz, h2, t2.2, fun w G' v H' q f3 rv rh => kl w G' v H' q (f1.trans (f2.trans f3)) rv rh, TX.xl ((sr.next f1 h1).next f2 h2)⟩
    · exact t1.elim
  · subst ex
    obtain rfl : u = Value.ref a := rx
    refine getmeth_rd I1 ea hcls hm l ?_
    refine PySem.W.callWith_KW0 (first := [.ref a]) (h₀ := X.base) I.ok.mod.kin hm.kp hall (thn (hkw.run pos pins s1 σ H1 _ I1 q) fun us s2 ⟨zs, H2, I2, rz, l2, q2⟩ => ⟨I2.kIn, ?_⟩) hpl
    rw [hks]
    exact run_gNS (us := [.ref a]) (vs := [.ref a]) F hgd (hr.mono hk) hb (tk.at σ) I2 (.cons rfl .nil) rz rfl l2 q2
end
end WL
set_option Elab.async false
set_option linter.all false
set_option maxRecDepth 100000
set_option maxHeartbeats 4000000
namespace WL
open PySem PySem.Spec PyProof PyProof.Rows L2 PySem.W
def tListValsV (td : TE) : TE := fun σ H Q => td σ H fun x H1 => ∃ (a : Addr) (kvs : List (Key × V)), x = .ref a ∧ Rd H1 a (.dK kvs) ∧ ∀ p, H1 p = none → Q (.ref p) (upd H1 p (.lst (kvs.map (·.2))))
theorem vals_seconds {kvs : List (Key × V)} {vs : List (Key × Value)} : KV kvs vs → Vals (kvs.map (·.2)) (vs.map (·.2)) := fun r => by
  unfold KV at r
  induction r with
  | nil => exact .nil
  | cons r t ih => exact .cons r.2 ih
theorem pe_listVals {X : Cx} {a : Expr} {ta : TE} {p pos apos cpos : Pos} (hg : Gl X "list") (hm : X.mg "list" = none) (ha : PE X a ta) (hc : X.calm = true := by rfl)
    (hbase : attributeBase a "values" X.env (eval a X.env) = eval a X.env := by rfl) (hline : (apos.endLine == cpos.line) = true := by rfl)
    (na : starEach [Expr.Call (.Attribute a "values" apos) [] [] cpos] X.env = (false, eval (Expr.Call (.Attribute a "values" apos) [] [] cpos) X.env) :: starEach [] X.env := by rfl) :
    PE X (.Call (.Name "list" p) [.Call (.Attribute a "values" apos) [] [] cpos] [] pos) (tListValsV ta) := by
  refine ⟨fun pins s σ H Q I h => ?_⟩
  refine Call_ (ld_blt I hg hm boot_list ?_)
  refine PyProof.Rows.callWith_type1 (PyProof.Rows.args_cons (wpAny_Call_method (T := "dict") (id := "dict.values") hbase rfl hline F.plainAttrs_dict F.slot_dict_values F.type_dict_values (thn (ha.run pins s σ H _ I h) fun u s1 ⟨x, H1, I1, rx, d, kvs, ex, hd, q1⟩ => ?_)) na) na rfl
  subst ex
  obtain rfl : u = Value.ref d := rx
  obtain ⟨z, lo, vs, rel, dd⟩ := dk_rd I1.hok hd
  obtain ⟨ep, hat⟩ := dd.dictAt
  refine ⟨hat.dictOf.typeIs, hat.dictOf.mapOf.noDict, ?_⟩
  have I2 : Inv X pins σ H1 { s1 with heap := s1.heap.push { cls := .type "dict_values", data := .fields #[.ref d] } } := I1.kept (t' := s1.toks) fun b ob q => Heap.get?_push_of_some _ q
  have hat2 : (s1.heap.push { cls := .type "dict_values", data := .fields #[.ref d] }).DictAt (mixKind X.prog X.w) d vs ep := hat.push _
  show wpAny _ _ (callWith cpos (.builtin "dict.values") [.ref d] [] []) _ X.xe s1
  refine method_meetsIn F.slot_dict_values F.entry_dict_values rfl (PySem.evalArgs_none ⟨rfl, hat.dictOf.typeIs, F.args_dict_values_1 _, _, meets_dict_values (mixKind X.prog X.w) d lo, ⟨vs, hat.dictOf⟩, ?_⟩)
  refine PyProof.Rows.args_nil ?_
  refine PySem.W.kdl_call (PySem.W.kdl_values (knd := mixKind X.prog X.w) (kvs := vs) (ep := ep) (d := d)) (I2.ok.hd hc) ⟨⟨_, Heap.get?_push_size _ rfl, rfl, rfl⟩, hat2⟩ (by rw [← rel.length]; exact z) fun h' tk acc c' hk hD hacc => ?_
  have e : acc.toList = vs.map (·.2) := by
    refine List.ext_getElem? fun j => ?_
    rw [List.getElem?_map]
    by_cases hj : j < vs.length
    · have hj2 : j < acc.size := by rw [hacc.1]; exact hj
      have e1 : acc[j]? = some acc[j] := Array.getElem?_eq_getElem hj2
      obtain ⟨k, hk2⟩ := hacc.2 j acc[j] e1
      rw [Array.getElem?_toList, e1, hk2]; rfl
    · rw [List.getElem?_eq_none (by rw [Array.length_toList, hacc.1]; omega), List.getElem?_eq_none (by omega)]; rfl
  have hv : Vals (kvs.map (·.2)) acc.toList := by rw [e]; exact vals_seconds rel
  refine ⟨.ref _, upd H1 (s1.heap.push { cls := .type "dict_values", data := .fields #[.ref d] }).objs.size (.lst (kvs.map (·.2))), I2.laid (t' := tk) hk (Nat.le_refl _)
    (show ObjOk X.prog X.w _ _ _ (.lst (kvs.map (·.2))) from ⟨by rw [List.length_map]; exact z, acc.toList, c', hv, by rw [Array.toArray_toList]; exact hD⟩), rfl, q1 _ (I2.hok.fresh (Nat.le_refl _))⟩
def tListVals (Ta : TW) : TW := fun S G R => Ta S G fun w G1 => ∃ kws, dKof w G1 = some kws ∧ ∀ p, G1 p = none → R (.ref p) (updG G1 p (.lst (kws.map (·.2))))
section
variable {X : Cx} {Z : GH × Hp} {a : Expr} {Ta : TW} {p pos apos cpos : Pos}
theorem we_listVals (ha : WE X Z a Ta) (hg : Gl X "list" := by rfl) (hm : X.mg "list" = none) (hc : X.calm = true := by rfl)
    (hbase : attributeBase a "values" X.env (eval a X.env) = eval a X.env := by rfl) (hline : (apos.endLine == cpos.line) = true := by rfl)
    (na : starEach [Expr.Call (.Attribute a "values" apos) [] [] cpos] X.env = (false, eval (Expr.Call (.Attribute a "values" apos) [] [] cpos) X.env) :: starEach [] X.env := by rfl) :
    WE X Z (.Call (.Name "list" p) [.Call (.Attribute a "values" apos) [] [] cpos] [] pos) (tListVals Ta) := (pe_listVals hg hm ha hc hbase hline na).weak fun σ H Q h => by
  obtain ⟨S, G, R, sr, t, k⟩ := h
  refine Lf.go sr t fun w G1 v H1 t1 f1 r1 h1 => ?_
  obtain ⟨kws, e, t1⟩ := t1
  obtain ⟨d, kvs, rfl, hd, rk, _⟩ := dK_of e r1 h1
  exact ⟨d, kvs, rfl, hd, fun p hp => k _ _ _ _ (t1 p (h1.free hp)) (f1.trans (.newG hp)) (.ref _) (h1.newG hp ⟨_, upd_same, rk.vals.mono (.new hp) h1⟩)⟩
end
def mulT : R2W := fun w1 w2 G R => match w1, w2 with
  | .tup xs, .int n => xs ≠ [] ∧ 2 ≤ n ∧ n ≤ 1000 ∧ xs.length ≤ 1000 ∧ R (.tup (List.replicate n.toNat xs).flatten) G
  | _, _ => False
theorem op_mulT {X : Cx} : OpW X (binaryOp .Mult) mulT := by
  intro pins s σ H x y v u Q I rx ry h'
  obtain ⟨w1, w2, G, R, r1, r2, rh, t, k⟩ := h'
  cases w1 with
  | tup xs =>
    cases w2 with
    | int b =>
      cases r1 with
      | @tup a vs _ q rs =>
        cases r2
        obtain ⟨t1, t2, t3, t4, t5⟩ := t
        refine op_repT pins s σ H _ _ v u Q I rx ry ⟨_, _, vs, rfl, rfl, SqT.of q, fun e => t1 ?_, t2, t3, by rw [rs.length]; exact t4, fun r hr => k _ _ _ _ t5 (.new hr) (.tup upd_same ((rs.rep _).mono (.new hr) rh)) (rh.new hr)⟩
        subst e
        cases rs; rfl
    | _ => exact (show False from t).elim
  | _ => exact (show False from t).elim
end WL
set_option Elab.async false
set_option linter.all false
set_option maxRecDepth 100000
set_option maxHeartbeats 4000000
namespace WS
open PySem PySem.Spec PyProof.Rows L2 WL
end WS
set_option Elab.async false
set_option linter.all false
set_option maxRecDepth 100000
set_option maxHeartbeats 4000000
namespace WS
open PySem PySem.Spec PyProof.Rows L2 WL
end WS
set_option Elab.async false
set_option linter.all false
set_option maxRecDepth 100000
set_option maxHeartbeats 4000000
namespace WS
open PySem PySem.Spec PyProof.Rows L2 WL
end WS
set_option Elab.async false
set_option linter.all false
set_option maxRecDepth 100000
set_option maxHeartbeats 4000000
namespace WS
open PySem PySem.Spec PyProof.Rows L2 WL
def tupD (c : List Int) : PyData := .tuple (c.map .int)
theorem showable_all : ∀ {ds : List PyData}, (∀ d ∈ ds, d.showable = true) → PyData.showableAll ds = true
  | [], _ => rfl
  | d :: ds, h => by
    rw [PyData.showableAll, h d List.mem_cons_self, showable_all fun x hx => h x (List.mem_cons_of_mem _ hx)]; rfl
theorem shown_all {B : Nat} : ∀ {ds : List PyData}, (∀ d ∈ ds, d.shown.length ≤ B) → ((PyData.shownAll ds).map (·.length)).sum ≤ ds.length * B ∧ (PyData.shownAll ds).length = ds.length
  | [], _ => ⟨by simp [PyData.shownAll], by simp [PyData.shownAll]⟩
  | d :: ds, h => by
    have ih := shown_all (ds := ds) fun x hx => h x (List.mem_cons_of_mem _ hx)
    have e := h d List.mem_cons_self
    rw [PyData.shownAll]
    simp only [List.map_cons, List.sum_cons, List.length_cons, Nat.add_mul, Nat.one_mul]
    exact ⟨by have := ih.1; omega, by rw [ih.2]⟩
theorem depth_all {k : Nat} : ∀ {ds : List PyData}, (∀ d ∈ ds, d.depth ≤ k) → PyData.depthAll ds ≤ k
  | [], _ => by rw [PyData.depthAll]; omega
  | d :: ds, h => by
    have ih := depth_all (ds := ds) fun x hx => h x (List.mem_cons_of_mem _ hx)
    have e := h d List.mem_cons_self
    rw [PyData.depthAll]
    omega
structure Sh (d : PyData) (k B : Nat) : Prop where
  able : d.showable = true
  dep : d.depth ≤ k
  len : d.shown.length ≤ B
theorem Sh.list {ds : List PyData} {k B N : Nat} (h : ∀ d ∈ ds, Sh d k B) (hn : ds.length ≤ N) : Sh (.list ds) (k + 1) (N * (B + 2) + 3) := by
  have e := shown_all fun d hd => (h d hd).len
  have := listText_len_le (PyData.shownAll ds)
  have h2 := Nat.mul_le_mul_right (B + 2) hn
  have h3 := Nat.mul_add ds.length B 2
  exact ⟨by rw [PyData.showable]; exact showable_all fun d hd => (h d hd).able, by rw [PyData.depth]; have := depth_all fun d hd => (h d hd).dep; omega, by rw [PyData.shown]; omega⟩
theorem Sh.tuple {ds : List PyData} {k B N : Nat} (h : ∀ d ∈ ds, Sh d k B) (hn : ds.length ≤ N) : Sh (.tuple ds) (k + 1) (N * (B + 2) + 3) := by
  have e := shown_all fun d hd => (h d hd).len
  have := tupleText_len_le (PyData.shownAll ds)
  have h2 := Nat.mul_le_mul_right (B + 2) hn
  have h3 := Nat.mul_add ds.length B 2
  exact ⟨by rw [PyData.showable]; exact showable_all fun d hd => (h d hd).able, by rw [PyData.depth]; have := depth_all fun d hd => (h d hd).dep; omega, by rw [PyData.shown]; omega⟩
theorem Sh.int {n : Int} (h : n.natAbs < 10 ^ 9) : Sh (.int n) 1 10 := ⟨by rw [PyData.showable]; exact decide_eq_true (log2_lt (Nat.lt_of_lt_of_le h (Nat.le_trans (by decide : 10 ^ 9 ≤ 2 ^ 30) (Nat.pow_le_pow_right (by decide) (by decide)))) (by decide)), by rw [PyData.depth]; omega, by rw [PyData.shown]; exact txt_int_len (k := 9) (by decide) h⟩
theorem Sh.ints {c : List Int} {N : Nat} (h : ∀ l ∈ c, l.natAbs < 10 ^ 9) (hn : c.length ≤ N) : Sh (tupD c) 2 (N * 12 + 3) := Sh.tuple (fun d hd => by
  obtain ⟨n, hn, rfl⟩ := List.mem_map.mp hd
  exact Sh.int (h n hn)) (by rw [List.length_map]; exact hn)
end WS
set_option Elab.async false
set_option linter.all false
set_option maxRecDepth 100000
set_option maxHeartbeats 4000000
namespace K19
open PySem PySem.Spec PyProof.Rows L2 WL WS
def topS (i : Nat) : Stmt := PySem.Challenge.pw_turnless_k19_members_and_factors.main.body.getD i (.Pass ⟨0, 0, 0, 0⟩)
open Classical in
noncomputable def hasC (many : Int) (ps : List (List Int)) (w : W) : Bool := decide (∃ t, w = cTup t ∧ Gen many ps t)
open Classical in
theorem hasC_ex {many : Int} {ps : List (List Int)} {w : W} (h : hasC many ps w = true) : ∃ t, w = cTup t ∧ Gen many ps t := by
  unfold hasC at h
  exact of_decide_eq_true h
theorem ext_upd {G G' : GH} {r : Addr} {o : GO} (X : ExtG G G') : ExtG (updG G r o) (updG G' r o) := fun a u e => by
  by_cases h : a = r
  · subst h; rw [updG_same] at e ⊢; exact e
  · rw [updG_ne h] at e ⊢; exact X _ _ e
open Classical in
theorem hasC_turn {many : Int} {ps : List (List Int)} {t : List Int} : hasC many ps (cTup t) = true ↔ Gen many ps t := by
  unfold hasC
  rw [decide_eq_true_iff]
  constructor
  · rintro ⟨u, e, g⟩
    have : t = u := by
      have e : W.tup (t.map W.int) = W.tup (u.map W.int) := e
      have e2 := W.tup.inj e
      have e3 := congrArg intsOf e2
      rw [intsOf_map, intsOf_map] at e3
      exact Option.some.inj e3
    rw [this]; exact g
  · intro g; exact ⟨t, rfl, g⟩
open Classical in
theorem hasC_no {many : Int} {ps : List (List Int)} {w : W} (h0 : 1 ≤ many) (h4 : many ≤ 400) (ht : ∀ t ∈ ps, TurnOf many t) (h : turnB many w = false) : hasC many ps w = false := by
  unfold hasC
  rw [decide_eq_false_iff_not]
  rintro ⟨t, rfl, g⟩
  rw [turn_yes (g.turn h0 h4 ht)] at h
  cases h
inductive Fac (n : Int) : List Fl → List Int → List (List Int) → Prop
  | nil : Fac n [] (stillL n) []
  | cons {f : Fl} {T : List Fl} {t w : List Int} {ws : List (List Int)} : TurnOf n t → TurnOf n w → f.ways.lookup (goI t f.letter) = some w → LetOf n f.letter → Fac n T (thenL t (backL w)) ws → Fac n (f :: T) t (w :: ws)
section
variable {n : Int} {ah : List Int} {f : Fl} {fs T : List Fl} {S : List (List Int)} {t w : List Int} {ws : List (List Int)}
theorem wk_fac (K : Wk n ah (f :: fs) S) (ht : t ∈ S) : ∃ w, f.ways.lookup (goI t f.letter) = some w ∧ TurnOf n t ∧ TurnOf n w ∧ thenL t (backL w) ∈ leavL S f.letter := by
  obtain ⟨tt, r⟩ := (K.all t).mp ht
  obtain ⟨w, e, r⟩ := (rep_cons K.C.1).mp r
  obtain ⟨tw, _⟩ := K.C.1.get e
  have t2 := then_turn tt (back_turn tw)
  exact ⟨w, e, tt, tw, (K.step.all _).mpr ⟨t2, r⟩⟩
theorem tw_fac : ∀ {T : List Fl} {S : List (List Int)} {t : List Int}, Tw n T S → t ∈ S → ∃ ws, Fac n T t ws
  | [], S, t, K, ht => by
    obtain ⟨k, ah, fs, e, K⟩ := K
    have h1 := Tw.fin K e
    have hs : stillL n ∈ S := (K.all _).mpr ⟨still_turn K.h0 K.h4, Comp.still K.h0 K.h4 K.C⟩
    have : t = stillL n := by
      match S, h1, ht, hs with
      | [x], _, ht, hs => rw [List.mem_singleton.mp ht, List.mem_singleton.mp hs]
    rw [this]; exact ⟨[], .nil⟩
  | f :: T, S, t, K, ht => by
    obtain ⟨ah, fs, K1, K2⟩ := K.head
    obtain ⟨w, e, tt, tw, hm⟩ := wk_fac K1 ht
    obtain ⟨ws, h⟩ := tw_fac K2 hm
    exact ⟨w :: ws, .cons tt tw e K1.C.1.lt h⟩
theorem Fac.prod (h : Fac n T t ws) : ws.foldr (fun w a => thenL a w) (stillL n) = t := by
  induction h with
  | nil => rfl
  | cons tt tw e _ _ ih => rw [List.foldr_cons, ih, then_assoc tt (back_turn tw) tw, back_then tw, then_still tt]
theorem Fac.all (h : Fac n T t ws) : Paired (fun w (f : Fl) => TurnOf n w ∧ ∃ k, f.ways.lookup k = some w) ws T := by
  induction h with
  | nil => exact .nil
  | cons tt tw e _ _ ih => exact .cons ⟨tw, _, e⟩ ih
end
theorem paired_rev {α β : Type} {F : α → β → Prop} : ∀ {as : List α} {bs : List β}, Paired F as bs → Paired F as.reverse bs.reverse
  | _, _, .nil => .nil
  | _, _, .cons r t => by rw [List.reverse_cons, List.reverse_cons]; exact paired_app (paired_rev t) r
theorem grOk_wk {many : Int} {fl : List Int} {ps : List (List Int)} {ch : List Fl} (O : GrOk many fl ps ch) : Wk many [] ch (elemsL many ch) := by
  have h0 := O.h0
  have h4 : many ≤ 400 := by have := O.h12; omega
  exact ⟨h0, h4, O.C, elems_nodup h0 h4 O.C, fun t => elems_mem h0 h4 O.C⟩
theorem grOk_mem {many : Int} {fl : List Int} {ps : List (List Int)} {ch : List Fl} (O : GrOk many fl ps ch) {t : List Int} : t ∈ elemsL many ch ↔ Gen many ps t := by
  have h0 := O.h0
  have h4 : many ≤ 400 := by have := O.h12; omega
  rw [elems_mem h0 h4 O.C]
  exact ⟨fun h => (O.gen h.1).mp h.2, fun g => ⟨g.turn h0 h4 O.tp, (O.gen (g.turn h0 h4 O.tp)).mpr g⟩⟩
theorem comp_lws {n : Int} : ∀ {fs : List Fl} {ah : List Int}, Comp n ah fs → ∀ f ∈ fs, LetOf n f.letter ∧ ∀ k w, (k, w) ∈ f.ways → TurnOf n w
  | [], _, _ => fun f h => by cases h
  | f :: fs, ah, C => fun g h => by
    rcases List.mem_cons.mp h with rfl | h
    · exact ⟨C.1.lt, fun k w h => (C.1.way k w h).1⟩
    · exact comp_lws C.2.2.2 g h
theorem flv_fl {G : GH} : ∀ fs : List Fl, Paired (FlV G) (fs.map flW) fs
  | [] => .nil
  | f :: fs => .cons (.inr rfl) (flv_fl fs)
theorem zip_tr : ∀ (as : List (List Int)) (bs : List Addr), zipP (as.map cTup) (bs.map W.ref) = (as.zip bs).map fun z => W.tup [cTup z.1, .ref z.2]
  | [], bs => by cases bs <;> rfl
  | a :: as, [] => rfl
  | a :: as, b :: bs => by
    rw [List.map_cons, List.map_cons, List.zip_cons_cons, List.map_cons, ← zip_tr as bs]; rfl
def WayIn (many : Int) (G : GH) (w : List Int) (D : Addr) : Prop := TurnOf many w ∧ ∃ f ms, G D = some (.dK (flK f ms)) ∧ w ∈ ms.map (wayOf f)
theorem way_in {many : Int} {G : GH} : ∀ {T : List Fl} {ws : List (List Int)} {Ds : List Addr}, Paired (fun w (f : Fl) => TurnOf many w ∧ ∃ k, f.ways.lookup k = some w) ws T → Paired (FlD G) Ds T → Paired (WayIn many G) ws Ds
  | _, _, _, .nil, .nil => .nil
  | _, _, _, .cons ⟨tw, k, e⟩ t, .cons ⟨ms, pm, _, gD⟩ t2 => .cons ⟨tw, _, ms, gD, List.mem_map.mpr ⟨k, pm.mem_iff.mpr (List.mem_map.mpr ⟨_, lookup_mem e, rfl⟩), by unfold wayOf; rw [e]; rfl⟩⟩ (way_in t t2)
theorem WayIn.ext {many : Int} {G G' : GH} {w : List Int} {D : Addr} (h : WayIn many G w D) (X : ExtG G G') : WayIn many G' w D := let ⟨a, f, ms, b, c⟩ := h; ⟨a, f, ms, X _ _ b, c⟩
theorem still_rg {many : Int} : (W.tup ((rgI 1 (many + 1)).map W.int)) = cTup (stillL many) := rfl
theorem cTup_inj {t u : List Int} (e : cTup t = cTup u) : t = u := by
  have e2 := W.tup.inj (show W.tup (t.map W.int) = W.tup (u.map W.int) from e)
  have e3 := congrArg intsOf e2
  rw [intsOf_map, intsOf_map] at e3
  exact Option.some.inj e3
def isI : W → Bool
  | .int _ => true
  | _ => false
def Sim (x : W) : Prop := (∃ c, x = .int c) ∨ (∃ c, x = .bl c) ∨ x = .non ∨ (∃ z, x = .str z) ∨ ∃ t, x = cTup t
theorem sim_pd {G : GH} : ∀ {xs : List W}, (∀ x ∈ xs, Sim x) → ∃ ds, PDs G xs ds ∧ ∀ d ∈ ds, d.depth ≤ 2
  | [], _ => ⟨[], .nil, fun d h => by cases h⟩
  | x :: xs, h => by
    obtain ⟨ds, h1, h2⟩ := sim_pd fun y hy => h y (List.mem_cons_of_mem _ hy)
    have one : ∃ d, PD G x d ∧ d.depth ≤ 2 := by
      rcases h x List.mem_cons_self with ⟨c, rfl⟩ | ⟨c, rfl⟩ | rfl | ⟨z, rfl⟩ | ⟨t, rfl⟩
      · exact ⟨_, .int c, by rw [PyData.depth]; omega⟩
      · exact ⟨_, .bl c, by rw [PyData.depth]; omega⟩
      · exact ⟨_, .non, by rw [PyData.depth]; omega⟩
      · exact ⟨_, .str z, by rw [PyData.depth]; omega⟩
      · refine ⟨_, .tup (PDs.ints t), ?_⟩
        rw [PyData.depth]
        simp only [WL.depthAll_ints]
        omega
    obtain ⟨d, hd, h3⟩ := one
    exact ⟨d :: ds, .cons hd h1, fun e he => (List.mem_cons.mp he).elim (fun z => by rw [z]; exact h3) (h2 e)⟩
theorem atI_getD {ls : List Int} {i : Int} (h0 : 0 ≤ i) (h1 : i < ls.length) : atI (ls.map W.int) i = some (.int (ls.getD i.toNat 0)) := by
  have h2 : i.toNat < ls.length := by omega
  unfold atI ixN
  rw [if_pos h0, List.length_map, if_pos h1]
  simp [h2]
theorem ixN_at {n : Nat} {i : Int} (h0 : 0 ≤ i) (h1 : i < n) : ixN n i = some i.toNat := by
  unfold ixN
  rw [if_pos h0, if_pos h1]
def nearL (many k : Int) : List Int := rgI 1 k ++ [k + 1, k] ++ rgI (k + 2) (many + 1)
def signL (many : Int) : List Int := [-1] ++ rgI 2 (many + 1)
theorem turn_at {many : Int} {t : List Int} (h : turnB many (cTup t) = true) : TurnOf many t := by
  obtain ⟨ls, e, tt⟩ := turn_of_yes h
  have : t = ls := by
    have e2 := W.tup.inj (show W.tup (t.map W.int) = W.tup (ls.map W.int) from e)
    have e3 := congrArg intsOf e2
    rw [intsOf_map, intsOf_map] at e3
    exact Option.some.inj e3
  rw [this]; exact tt
theorem near_all : ∀ m ∈ ([5, 6, 7, 8] : List Int), ∀ k ∈ ([1, 2, 3, 4, 5, 6, 7] : List Int), k < m → turnB m (cTup (nearL m k)) = true := by decide +kernel
theorem sign_all : ∀ m ∈ ([5, 6, 7, 8] : List Int), turnB m (cTup (signL m)) = true := by decide +kernel
theorem near_turn {many k : Int} (h0 : 5 ≤ many) (h8 : many ≤ 8) (k0 : 1 ≤ k) (k1 : k < many) : TurnOf many (nearL many k) :=
  turn_at (near_all many (by simp only [List.mem_cons, List.not_mem_nil, or_false]; omega) k (by simp only [List.mem_cons, List.not_mem_nil, or_false]; omega) k1)
theorem sign_turn {many : Int} (h0 : 5 ≤ many) (h8 : many ≤ 8) : TurnOf many (signL many) :=
  turn_at (sign_all many (by simp only [List.mem_cons, List.not_mem_nil, or_false]; omega))
inductive Thing : W → Prop
  | tup (t : List Int) (h : t.length ≤ 30) : Thing (cTup t)
  | odd (a b : List Int) (x : W) (hx : (∃ c, x = .bl c) ∨ x = .non ∨ (∃ z, x = .str z) ∨ ∃ t, x = cTup t) (h : a.length + b.length ≤ 20) : Thing (.tup (a.map W.int ++ [x] ++ b.map W.int))
  | oth (w : W) (h : tyW w (fun _ => none) ≠ none) (h2 : tyW w (fun _ => none) ≠ some .tu) : Thing w
theorem ask_thing {w : W} {G : GH} (h : Thing w) : Ask G w := by
  cases h with
  | tup t ht => exact ask_ints t G (by omega)
  | odd a b x hx hl =>
    refine ⟨by simp [tyW], fun ys z => (by cases z), fun ys z => ?_⟩
    have z := W.tup.inj z
    subst z
    refine ⟨by simp only [List.length_append, List.length_map, List.length_singleton]; omega, fun y hy => ?_⟩
    have sim : Sim y := by
      rcases List.mem_append.mp hy with hy | hy
      · rcases List.mem_append.mp hy with hy | hy
        · obtain ⟨n, _, rfl⟩ := List.mem_map.mp hy; exact .inl ⟨n, rfl⟩
        · rw [List.mem_singleton.mp hy]; exact .inr hx
      · obtain ⟨n, _, rfl⟩ := List.mem_map.mp hy; exact .inl ⟨n, rfl⟩
    obtain ⟨ds, p1, p2⟩ := sim_pd (G := G) (xs := [y]) fun x hx => by rw [List.mem_singleton.mp hx]; exact sim
    cases p1 with
    | cons p q => exact ⟨_, p, Nat.le_trans (p2 _ List.mem_cons_self) (by decide)⟩
  | oth w h1 h2 =>
    refine ⟨?_, fun xs e => by subst e; exact h2 rfl, fun xs e => by subst e; exact absurd rfl h2⟩
    cases w with
    | ref p => exact absurd rfl h1
    | _ => exact h1
/- listI -/
def listI : Nat := 0
section
variable {P : Program} {w : World} {K : PySem.W.Frag} {mg : Str → Option Value} {base : Heap}
abbrev s_is_number : Stmt := topS 20
theorem sc_is_number : FnScope N_is_number ["thing"] (defScope s_is_number) := ⟨rfl, rfl, rfl, by decide +kernel, rfl, by decide +kernel, by decide +kernel⟩
theorem dv_is_number (z_isinstance : mg "isinstance" = none) (z_int : mg "int" = none) (z_bool : mg "bool" = none) {f : Addr} {cdv : Value} {A : Around} {outer : List Env} {s : Shared} {H : Hp} {E : XK} {G : GH} (hgd : A.guards = some []) (hr : Room 0 (A.deeper (envOfC "is_number" (defScope s_is_number) s.heap.objs.size f cdv))) :
    WSs (cxOf CX0 P w K mg base N_is_number "is_number" (defScope s_is_number) f cdv A outer s H E).nox (G, H) (defBody s_is_number) T_is_number :=
  (wss_one (ws_ret (we_and (we_cb (call_isiW .it) (by rfl) z_isinstance bt_isinstance (wa_cons (we_v 0) (wa_cons (we_ty (by rfl) z_int bt_int) wa_nil))) (we_one (we_not (we_cb (call_isiW .bo) (by rfl) z_isinstance bt_isinstance (wa_cons (we_v 0) (wa_cons (we_ty (by rfl) z_bool bt_bool) wa_nil))))))))
theorem ok_is_number (z_isinstance : mg "isinstance" = none) (z_int : mg "int" = none) (z_bool : mg "bool" = none) {f : Addr} {fd : FuncData} (F : Fun K "is_number" "is_number" s_is_number f fd) : FnG P w K mg base CX0 1 f fd ["thing"] (spL K P_is_number) :=
  okF F sc_is_number len_is_number fun cdv A outer s H E ws G R RX hgd hr h => ⟨T_is_number, dv_is_number z_isinstance z_int z_bool hgd hr, rd_is_number ws G R RX h⟩
abbrev s_is_letter : Stmt := topS 21
theorem sc_is_letter : FnScope N_is_letter ["thing", "many"] (defScope s_is_letter) := ⟨rfl, rfl, rfl, by decide +kernel, rfl, by decide +kernel, by decide +kernel⟩
theorem dv_is_letter (D_is_number : DfG P w K mg base CX0 1 "is_number" ["thing"] [] P_is_number) (z_abs : mg "abs" = none) {f : Addr} {cdv : Value} {A : Around} {outer : List Env} {s : Shared} {H : Hp} {E : XK} {G : GH} (hgd : A.guards = some []) (hr : Room 1 (A.deeper (envOfC "is_letter" (defScope s_is_letter) s.heap.objs.size f cdv))) :
    WSs (cxOf CX0 P w K mg base N_is_letter "is_letter" (defScope s_is_letter) f cdv A outer s H E).nox (G, H) (defBody s_is_letter) T_is_letter :=
  (wss_one (ws_ret (we_and (we_h D_is_number hgd hr (wa_cons (we_v 0) wa_nil)) (we_one (we_chain op_leW op_leW we_int (we_cb call_absW (by rfl) z_abs bt_abs (wa_cons (we_v 0) wa_nil)) (we_v 1))))))
theorem ok_is_letter (D_is_number : DfG P w K mg base CX0 1 "is_number" ["thing"] [] P_is_number) (z_abs : mg "abs" = none) {f : Addr} {fd : FuncData} (F : Fun K "is_letter" "is_letter" s_is_letter f fd) : FnG P w K mg base CX0 2 f fd ["thing", "many"] (spL K P_is_letter) :=
  okF F sc_is_letter len_is_letter fun cdv A outer s H E ws G R RX hgd hr h => ⟨T_is_letter, dv_is_letter D_is_number z_abs hgd hr, rd_is_letter ws G R RX h⟩
abbrev s_is_turn : Stmt := topS 23
theorem sc_is_turn : FnScope N_is_turn ["thing", "many"] (defScope s_is_turn) := ⟨rfl, rfl, rfl, by decide +kernel, rfl, by decide +kernel, by decide +kernel⟩
theorem dv_is_turn (z_isinstance : mg "isinstance" = none) (z_tuple : mg "tuple" = none) (z_len : mg "len" = none) (c_MOST : Gv K mg "MOST" (.int 400)) (D_is_letter : DfG P w K mg base CX0 2 "is_letter" ["thing", "many"] [] P_is_letter) (z_all : mg "all" = none) (z_abs : mg "abs" = none) {f : Addr} {cdv : Value} {A : Around} {outer : List Env} {s : Shared} {H : Hp} {E : XK} {G : GH} (hgd : A.guards = some []) (hr : Room 2 (A.deeper (envOfC "is_turn" (defScope s_is_turn) s.heap.objs.size f cdv))) :
    WSs (cxOf CX0 P w K mg base N_is_turn "is_turn" (defScope s_is_turn) f cdv A outer s H E).nox (G, H) (defBody s_is_turn) T_is_turn :=
  (wss_cons (ws_if (wp_t (wp_or (wt_not (wt_truth (we_cb (call_isiW .tu) (by rfl) z_isinstance bt_isinstance (wa_cons (we_v 0) (wa_cons (we_ty (by rfl) z_tuple bt_tuple) wa_nil))))) (wp_or (wt_cmp (op_neQ (hu64 hr)) (we_cb call_lenQ (by rfl) z_len bt_len (wa_cons (we_v 0) wa_nil)) (we_v 1) (nomark _)) (wp_or1 (wt_not (wt_chain op_leW op_leW we_int (we_cb call_lenQ (by rfl) z_len bt_len (wa_cons (we_v 0) wa_nil)) (we_g c_MOST))))))) (wss_one (ws_ret we_bl)) wss_nil)
    (wss_one (ws_ret (we_and (we_cbC (own := [("letter", 2)]) (tmp_all rfl) (by rfl) z_all bt_all rfl sc_is_turn.nd (wi_seq (we_v 0)) (blkOk_by (own := [("letter", 2)]) (N := N_is_turn) (sc := defScope s_is_turn) (by decide +kernel)) (gok_name (by decide)) (fun _ _ _ _ _ => pg_n 2 sc_is_turn.nd) (fun _ _ _ _ _ => wts_nil) (fun _ _ _ _ _ => (we_h D_is_letter hgd hr (wa_cons (we_v 2) (wa_cons (we_v 1) wa_nil))))) (we_one (we_cmp (op_eqQ (hu64 hr)) (we_lenSC (own := [("letter", 2)]) (by rfl) z_len bt_len rfl sc_is_turn.nd (wi_seq (we_v 0)) (blkOk_by (own := [("letter", 2)]) (N := N_is_turn) (sc := defScope s_is_turn) (by decide +kernel)) (gok_name (by decide)) (fun _ _ _ _ _ => pg_n 2 sc_is_turn.nd) (fun _ _ _ _ _ => wts_nil) (fun _ _ _ _ _ => (we_cb call_absW (by rfl) z_abs bt_abs (wa_cons (we_v 2) wa_nil)))) (we_v 1) (nomark _)))))))
theorem ok_is_turn (z_isinstance : mg "isinstance" = none) (z_tuple : mg "tuple" = none) (z_len : mg "len" = none) (c_MOST : Gv K mg "MOST" (.int 400)) (D_is_letter : DfG P w K mg base CX0 2 "is_letter" ["thing", "many"] [] P_is_letter) (z_all : mg "all" = none) (z_abs : mg "abs" = none) {f : Addr} {fd : FuncData} (F : Fun K "is_turn" "is_turn" s_is_turn f fd) : FnG P w K mg base CX0 3 f fd ["thing", "many"] (spL K P_is_turn) :=
  okF F sc_is_turn len_is_turn fun cdv A outer s H E ws G R RX hgd hr h => ⟨T_is_turn, dv_is_turn z_isinstance z_tuple z_len c_MOST D_is_letter z_all z_abs hgd hr, rd_is_turn ws G R RX h⟩
abbrev s_still : Stmt := topS 24
theorem sc_still : FnScope N_still ["many"] (defScope s_still) := ⟨rfl, rfl, rfl, by decide +kernel, rfl, by decide +kernel, by decide +kernel⟩
theorem dv_still (z_tuple : mg "tuple" = none) (z_range : mg "range" = none) {f : Addr} {cdv : Value} {A : Around} {outer : List Env} {s : Shared} {H : Hp} {E : XK} {G : GH} (hgd : A.guards = some []) (hr : Room 0 (A.deeper (envOfC "still" (defScope s_still) s.heap.objs.size f cdv))) :
    WSs (cxOf CX0 P w K mg base N_still "still" (defScope s_still) f cdv A outer s H E).nox (G, H) (defBody s_still) T_still :=
  (wss_one (ws_ret (we_tupleRg rfl (by rfl) z_tuple (prgW_2 (by rfl) z_range we_int (we_op op_addW (we_v 0) we_int)))))
theorem ok_still (z_tuple : mg "tuple" = none) (z_range : mg "range" = none) {f : Addr} {fd : FuncData} (F : Fun K "still" "still" s_still f fd) : FnG P w K mg base CX0 1 f fd ["many"] (spL K P_still) :=
  okF F sc_still len_still fun cdv A outer s H E ws G R RX hgd hr h => ⟨T_still, dv_still z_tuple z_range hgd hr, rd_still ws G R RX h⟩
abbrev s_led : Stmt := topS 25
theorem sc_led : FnScope N_led ["turn", "letter"] (defScope s_led) := ⟨rfl, rfl, rfl, by decide +kernel, rfl, by decide +kernel, by decide +kernel⟩
theorem dv_led  {f : Addr} {cdv : Value} {A : Around} {outer : List Env} {s : Shared} {H : Hp} {E : XK} {G : GH} (hgd : A.guards = some []) (hr : Room 0 (A.deeper (envOfC "led" (defScope s_led) s.heap.objs.size f cdv))) :
    WSs (cxOf CX0 P w K mg base N_led "led" (defScope s_led) f cdv A outer s H E).nox (G, H) (defBody s_led) T_led :=
  (wss_one (ws_ret (we_if (wt_cmp op_gtW (we_v 1) we_int (nomark _)) (we_ix (hu1 hr) (we_v 0) (we_op op_subW (we_v 1) we_int)) (we_neg (we_ix (hu1 hr) (we_v 0) (we_op op_subW (we_neg (we_v 1)) we_int))))))
theorem ok_led  {f : Addr} {fd : FuncData} (F : Fun K "led" "led" s_led f fd) : FnG P w K mg base CX0 1 f fd ["turn", "letter"] (spL K P_led) :=
  okF F sc_led len_led fun cdv A outer s H E ws G R RX hgd hr h => ⟨T_led, dv_led  hgd hr, rd_led ws G R RX h⟩
abbrev s_composed : Stmt := topS 27
theorem sc_composed : FnScope N_composed ["one", "other"] (defScope s_composed) := ⟨rfl, rfl, rfl, by decide +kernel, rfl, by decide +kernel, by decide +kernel⟩
theorem dv_composed (D_led : DfG P w K mg base CX0 1 "led" ["turn", "letter"] [] P_led) (z_tuple : mg "tuple" = none) {f : Addr} {cdv : Value} {A : Around} {outer : List Env} {s : Shared} {H : Hp} {E : XK} {G : GH} (hgd : A.guards = some []) (hr : Room 1 (A.deeper (envOfC "composed" (defScope s_composed) s.heap.objs.size f cdv))) :
    WSs (cxOf CX0 P w K mg base N_composed "composed" (defScope s_composed) f cdv A outer s H E).nox (G, H) (defBody s_composed) T_composed :=
  (wss_one (ws_ret (we_ctC (own := [("letter", 2)]) tmp_tuple (by rfl) z_tuple bt_tuple rfl sc_composed.nd (wi_seq (we_v 0)) (blkOk_by (own := [("letter", 2)]) (N := N_composed) (sc := defScope s_composed) (by decide +kernel)) (gok_name (by decide)) (fun _ _ _ _ _ => pg_n 2 sc_composed.nd) (fun _ _ _ _ _ => wts_nil) (fun _ _ _ _ _ => (we_h D_led hgd hr (wa_cons (we_v 1) (wa_cons (we_v 2) wa_nil)))))))
theorem ok_composed (D_led : DfG P w K mg base CX0 1 "led" ["turn", "letter"] [] P_led) (z_tuple : mg "tuple" = none) {f : Addr} {fd : FuncData} (F : Fun K "composed" "composed" s_composed f fd) : FnG P w K mg base CX0 2 f fd ["one", "other"] (spL K P_composed) :=
  okF F sc_composed len_composed fun cdv A outer s H E ws G R RX hgd hr h => ⟨T_composed, dv_composed D_led z_tuple hgd hr, rd_composed ws G R RX h⟩
abbrev s_inverted : Stmt := topS 28
theorem sc_inverted : FnScope N_inverted ["turn"] (defScope s_inverted) := ⟨rfl, rfl, rfl, by decide +kernel, rfl, by decide +kernel, by decide +kernel⟩
theorem dv_inverted (z_enumerate : mg "enumerate" = none) (z_abs : mg "abs" = none) (D_still : DfG P w K mg base CX0 1 "still" ["many"] [] P_still) (z_len : mg "len" = none) (z_tuple : mg "tuple" = none) {f : Addr} {cdv : Value} {A : Around} {outer : List Env} {s : Shared} {H : Hp} {E : XK} {G : GH} (hgd : A.guards = some []) (hr : Room 1 (A.deeper (envOfC "inverted" (defScope s_inverted) s.heap.objs.size f cdv))) :
    WSs (cxOf CX0 P w K mg base N_inverted "inverted" (defScope s_inverted) f cdv A outer s H E).nox (G, H) (defBody s_inverted) T_inverted :=
  (wss_cons (ws_s 1 sc_inverted.nd (we_fz (we_dictC (own := [("k", 2), ("to", 3)]) rfl sc_inverted.nd (wi_enumK (by rfl) z_enumerate (we_v 0) we_int) (blkOk_by (own := [("k", 2), ("to", 3)]) (N := N_inverted) (sc := defScope s_inverted) (by decide +kernel)) (gok_tup (gsok_cons (i := 2) (by decide) (gsok_cons (i := 3) (by decide) gsok_nil))) (fun _ _ _ _ _ => pg_tup rfl (pgs_cons (pg_n 2 sc_inverted.nd) (pgs_cons (pg_n 3 sc_inverted.nd) pgs_nil))) (fun _ _ _ _ _ => wts_nil) (fun _ _ _ _ _ => (we_cb call_absW (by rfl) z_abs bt_abs (wa_cons (we_v 3) wa_nil))) (fun _ _ _ _ _ => (we_if (wt_cmp op_gtW (we_v 3) we_int (nomark _)) (we_v 2) (we_neg (we_v 2)))))))
    (wss_one (ws_ret (we_ctC (own := [("k", 2)]) tmp_tuple (by rfl) z_tuple bt_tuple rfl sc_inverted.nd (wi_seq (we_h D_still hgd hr (wa_cons (we_cb call_lenQ (by rfl) z_len bt_len (wa_cons (we_v 0) wa_nil)) wa_nil))) (blkOk_by (own := [("k", 2)]) (N := N_inverted) (sc := defScope s_inverted) (by decide +kernel)) (gok_name (by decide)) (fun _ _ _ _ _ => pg_n 2 sc_inverted.nd) (fun _ _ _ _ _ => wts_nil) (fun _ _ _ _ _ => (we_ix (hu1 hr) (we_v 1) (we_v 2)))))))
theorem ok_inverted (z_enumerate : mg "enumerate" = none) (z_abs : mg "abs" = none) (D_still : DfG P w K mg base CX0 1 "still" ["many"] [] P_still) (z_len : mg "len" = none) (z_tuple : mg "tuple" = none) {f : Addr} {fd : FuncData} (F : Fun K "inverted" "inverted" s_inverted f fd) : FnG P w K mg base CX0 2 f fd ["turn"] (spL K P_inverted) :=
  okF F sc_inverted len_inverted fun cdv A outer s H E ws G R RX hgd hr h => ⟨T_inverted, dv_inverted z_enumerate z_abs D_still z_len z_tuple hgd hr, rd_inverted ws G R RX h⟩
abbrev s_Floor___init__ : Stmt := inClass (topS 29) 0
theorem sc_Floor___init__ : FnScope N_Floor___init__ ["self", "letter", "many"] (defScope s_Floor___init__) := ⟨rfl, rfl, rfl, by decide +kernel, rfl, by decide +kernel, by decide +kernel⟩
theorem dv_Floor___init__ (Cn_Floor : ClsD K mg "Floor") (NA_Floor_letter : NoA K "Floor" "letter") (D_still : DfG P w K mg base CX0 1 "still" ["many"] [] P_still) (NA_Floor_ways : NoA K "Floor" "ways") (NA_Floor_returns : NoA K "Floor" "returns") (NA_Floor_pushers : NoA K "Floor" "pushers") {f : Addr} {cdv : Value} {A : Around} {outer : List Env} {s : Shared} {H : Hp} {E : XK} {G : GH} (hgd : A.guards = some []) (hr : Room 1 (A.deeper (envOfC "Floor.__init__" (defScope s_Floor___init__) s.heap.objs.size f cdv))) :
    WSs (cxOf CX0 P w K mg base N_Floor___init__ "Floor.__init__" (defScope s_Floor___init__) f cdv A outer s H E).nox (G, H) (defBody s_Floor___init__) T_Floor___init__ :=
  (wss_cons (ws_fld Cn_Floor NA_Floor_letter (we_v 0) (we_v 1))
    (wss_cons (ws_fld Cn_Floor NA_Floor_ways (we_v 0) (we_dispK (wps_cons (we_v 1) (we_h D_still hgd hr (wa_cons (we_v 2) wa_nil)) wps_nil)))
    (wss_cons (ws_fld Cn_Floor NA_Floor_returns (we_v 0) (we_dispK (wps_cons (we_v 1) (we_h D_still hgd hr (wa_cons (we_v 2) wa_nil)) wps_nil)))
    (wss_one (ws_fld Cn_Floor NA_Floor_pushers (we_v 0) (we_lst wa_nil))))))
theorem ok_Floor___init__ (Cn_Floor : ClsD K mg "Floor") (NA_Floor_letter : NoA K "Floor" "letter") (D_still : DfG P w K mg base CX0 1 "still" ["many"] [] P_still) (NA_Floor_ways : NoA K "Floor" "ways") (NA_Floor_returns : NoA K "Floor" "returns") (NA_Floor_pushers : NoA K "Floor" "pushers") {f : Addr} {fd : FuncData} (F : Fun K "__init__" "Floor.__init__" s_Floor___init__ f fd) : FnG P w K mg base CX0 2 f fd ["self", "letter", "many"] (spL K P_Floor___init__) :=
  okF F sc_Floor___init__ len_Floor___init__ fun cdv A outer s H E ws G R RX hgd hr h => ⟨T_Floor___init__, dv_Floor___init__ Cn_Floor NA_Floor_letter D_still NA_Floor_ways NA_Floor_returns NA_Floor_pushers hgd hr, rd_Floor___init__ ws G R RX h⟩
abbrev s_Floor_lay : Stmt := inClass (topS 29) 1
theorem sc_Floor_lay : FnScope N_Floor_lay ["self", "to", "turn"] (defScope s_Floor_lay) := ⟨rfl, rfl, rfl, by decide +kernel, rfl, by decide +kernel, by decide +kernel⟩
theorem dv_Floor_lay (Cn_Floor : ClsD K mg "Floor") (NA_Floor_ways : NoA K "Floor" "ways") (D_inverted : DfG P w K mg base CX0 2 "inverted" ["turn"] [] P_inverted) (NA_Floor_returns : NoA K "Floor" "returns") {f : Addr} {cdv : Value} {A : Around} {outer : List Env} {s : Shared} {H : Hp} {E : XK} {G : GH} (hgd : A.guards = some []) (hr : Room 2 (A.deeper (envOfC "Floor.lay" (defScope s_Floor_lay) s.heap.objs.size f cdv))) :
    WSs (cxOf CX0 P w K mg base N_Floor_lay "Floor.lay" (defScope s_Floor_lay) f cdv A outer s H E).nox (G, H) (defBody s_Floor_lay) T_Floor_lay :=
  (wss_cons (ws_asg (we_v 2) (wg_sub (we_fld Cn_Floor NA_Floor_ways (we_v 0)) (we_v 1) (set_Q (hu1 hr))))
    (wss_one (ws_asg (we_h D_inverted hgd hr (wa_cons (we_v 2) wa_nil)) (wg_sub (we_fld Cn_Floor NA_Floor_returns (we_v 0)) (we_v 1) (set_Q (hu1 hr))))))
theorem ok_Floor_lay (Cn_Floor : ClsD K mg "Floor") (NA_Floor_ways : NoA K "Floor" "ways") (D_inverted : DfG P w K mg base CX0 2 "inverted" ["turn"] [] P_inverted) (NA_Floor_returns : NoA K "Floor" "returns") {f : Addr} {fd : FuncData} (F : Fun K "lay" "Floor.lay" s_Floor_lay f fd) : FnG P w K mg base CX0 3 f fd ["self", "to", "turn"] (spL K P_Floor_lay) :=
  okF F sc_Floor_lay len_Floor_lay fun cdv A outer s H E ws G R RX hgd hr h => ⟨T_Floor_lay, dv_Floor_lay Cn_Floor NA_Floor_ways D_inverted NA_Floor_returns hgd hr, rd_Floor_lay ws G R RX h⟩
abbrev s_rest_of : Stmt := topS 30
theorem sc_rest_of : FnScope N_rest_of ["chain", "at", "turn"] (defScope s_rest_of) := ⟨rfl, rfl, rfl, by decide +kernel, rfl, by decide +kernel, by decide +kernel⟩
theorem dv_rest_of (D_led : DfG P w K mg base CX0 1 "led" ["turn", "letter"] [] P_led) (Cn_Floor : ClsD K mg "Floor") (NA_Floor_letter : NoA K "Floor" "letter") (NA_Floor_ways : NoA K "Floor" "ways") (D_composed : DfG P w K mg base CX0 2 "composed" ["one", "other"] [] P_composed) (NA_Floor_returns : NoA K "Floor" "returns") {f : Addr} {cdv : Value} {A : Around} {outer : List Env} {s : Shared} {H : Hp} {E : XK} {G : GH} (hgd : A.guards = some []) (hr : Room 2 (A.deeper (envOfC "rest_of" (defScope s_rest_of) s.heap.objs.size f cdv))) :
    WSs (cxOf CX0 P w K mg base N_rest_of "rest_of" (defScope s_rest_of) f cdv A outer s H E).nox (G, H) (defBody s_rest_of) T_rest_of :=
  (wss_cons (ws_for PassesOwn.never rfl (wi_seq (we_fz (we_slice (we_v 0) (wo_some (we_v 1)) wo_none))) (wg_n 3 sc_rest_of.nd) (wss_cons (ws_s 4 sc_rest_of.nd (we_h D_led hgd hr (wa_cons (we_v 2) (wa_cons (we_fld Cn_Floor NA_Floor_letter (we_v 3)) wa_nil))))
    (wss_cons (ws_if (wt_cmp (op_notinQ (hu65 hr)) (we_v 4) (we_fld Cn_Floor NA_Floor_ways (we_v 3)) (by rfl)) (wss_one (ws_ret (we_v 2))) wss_nil)
    (wss_one (ws_s 2 sc_rest_of.nd (we_h D_composed hgd hr (wa_cons (we_v 2) (wa_cons (we_ix (hu1 hr) (we_fld Cn_Floor NA_Floor_returns (we_v 3)) (we_v 4)) wa_nil))))))))
    (wss_one (ws_ret (we_v 2))))
theorem ok_rest_of (D_led : DfG P w K mg base CX0 1 "led" ["turn", "letter"] [] P_led) (Cn_Floor : ClsD K mg "Floor") (NA_Floor_letter : NoA K "Floor" "letter") (NA_Floor_ways : NoA K "Floor" "ways") (D_composed : DfG P w K mg base CX0 2 "composed" ["one", "other"] [] P_composed) (NA_Floor_returns : NoA K "Floor" "returns") {f : Addr} {fd : FuncData} (F : Fun K "rest_of" "rest_of" s_rest_of f fd) : FnG P w K mg base CX0 3 f fd ["chain", "at", "turn"] (spL K P_rest_of) :=
  okF F sc_rest_of len_rest_of fun cdv A outer s H E ws G R RX hgd hr h => ⟨T_rest_of, dv_rest_of D_led Cn_Floor NA_Floor_letter NA_Floor_ways D_composed NA_Floor_returns hgd hr, rd_rest_of ws G R RX h⟩
abbrev s_let_in : Stmt := topS 31
theorem sc_let_in : FnScope N_let_in ["chain", "at", "turn"] (defScope s_let_in) := ⟨rfl, rfl, rfl, by decide +kernel, rfl, by decide +kernel, by decide +kernel⟩
theorem dv_let_in {m : Nat} {Prec : SpW} (D_rest_of : DfG P w K mg base CX0 3 "rest_of" ["chain", "at", "turn"] [] P_rest_of) (D_still : DfG P w K mg base CX0 1 "still" ["many"] [] P_still) (z_len : mg "len" = none) (Cn_Floor : ClsD K mg "Floor") (NA_Floor_pushers : NoA K "Floor" "pushers") (NA_Floor_ways : NoA K "Floor" "ways") (D_led : DfG P w K mg base CX0 1 "led" ["turn", "letter"] [] P_led) (D_composed : DfG P w K mg base CX0 2 "composed" ["one", "other"] [] P_composed) (NA_Floor_returns : NoA K "Floor" "returns") (ME_Floor_lay : MethD P w K mg base CX0 3 "Floor" "lay" ["self", "to", "turn"] [] P_Floor_lay) (D_rec : DfG P w K mg base CX0 (3 + m + 1) "let_in" ["chain", "at", "turn"] [] Prec) {f : Addr} {cdv : Value} {A : Around} {outer : List Env} {s : Shared} {H : Hp} {E : XK} {G : GH} (hgd : A.guards = some []) (hr : Room (3 + m + 1) (A.deeper (envOfC "let_in" (defScope s_let_in) s.heap.objs.size f cdv))) :
    WSs (cxOf CX0 P w K mg base N_let_in "let_in" (defScope s_let_in) f cdv A outer s H E).nox (G, H) (defBody s_let_in) (T_let_in Prec) :=
  (wss_cons (ws_if (wt_cmp (op_eqQ (hu64 hr)) (we_h D_rest_of (hk := by omega) hgd hr (wa_cons (we_v 0) (wa_cons (we_v 1) (wa_cons (we_v 2) wa_nil)))) (we_h D_still (hk := by omega) hgd hr (wa_cons (we_cb call_lenQ (by rfl) z_len bt_len (wa_cons (we_v 2) wa_nil)) wa_nil)) (nomark _)) (wss_one ws_retN) wss_nil)
    (wss_cons (ws_s 3 sc_let_in.nd (we_ix (hu1 hr) (we_v 0) (we_v 1)))
    (wss_cons (ws_expr (we_mL (pe_bm PySem.F.plainAttrs_list PySem.F.slot_list_append PySem.F.type_list_append mt_appendW (we_fld Cn_Floor NA_Floor_pushers (we_v 3)) (wa_cons (we_v 2) wa_nil))))
    (wss_cons (ws_setCK (i := 4) (j := 3) (f := "ways") (own := [("letter", 5)]) rfl sc_let_in.nd rfl rfl (sw_true rfl rfl rfl (by decide +kernel)) (wi_keys (we_fld Cn_Floor NA_Floor_ways (we_v 3))) (blkOk_by (own := [("letter", 5)]) (N := N_let_in) (sc := defScope s_let_in) (by decide +kernel)) (gok_name (by decide)) (fun _ _ _ _ _ => pg_n 5 sc_let_in.nd) (fun _ _ _ _ _ => wts_nil) (fun _ _ _ _ _ => (we_tup (wa_cons (we_v 5) (wa_cons (we_v 2) wa_nil)))))
    (wss_one (ws_while PassesOwn.never (wt_cmp (op_neQ (hu64 hr)) (we_v 4) (we_fz (we_lst wa_nil)) (nomark _)) (wss_cons (ws_asg (we_mL0 (pe_bm0 PySem.F.plainAttrs_list PySem.F.slot_list_pop PySem.F.type_list_pop mt_popW (we_v 4))) (wg_unp rfl (wgs_cons (wg_n 5 sc_let_in.nd) (wgs_cons (wg_n 6 sc_let_in.nd) wgs_nil))))
    (wss_cons (ws_asg (we_tup (wa_cons (we_h D_composed (hk := by omega) hgd hr (wa_cons (we_ix (hu1 hr) (we_fld Cn_Floor NA_Floor_ways (we_v 3)) (we_v 5)) (wa_cons (we_v 6) wa_nil))) (wa_cons (we_h D_led (hk := by omega) hgd hr (wa_cons (we_v 6) (wa_cons (we_v 5) wa_nil))) wa_nil))) (wg_unp rfl (wgs_cons (wg_n 7 sc_let_in.nd) (wgs_cons (wg_n 8 sc_let_in.nd) wgs_nil))))
    (wss_one (ws_if (wt_cmp (op_inQ (hu65 hr)) (we_v 8) (we_fld Cn_Floor NA_Floor_ways (we_v 3)) (by rfl)) (wss_one (ws_expr (we_h D_rec (hk := by omega) hgd hr (wa_cons (we_v 0) (wa_cons (we_op op_addW (we_v 1) we_int) (wa_cons (we_h D_composed (hk := by omega) hgd hr (wa_cons (we_v 7) (wa_cons (we_ix (hu1 hr) (we_fld Cn_Floor NA_Floor_returns (we_v 3)) (we_v 8)) wa_nil))) wa_nil)))))) (wss_cons (ws_expr (we_m ME_Floor_lay (hk := by omega) hgd hr (we_v 3) (wa_cons (we_v 8) (wa_cons (we_v 7) wa_nil))))
    (wss_one (ws_expr (we_mL (pe_bm PySem.F.plainAttrs_list PySem.F.slot_list_extend PySem.F.type_list_extend mt_extendW (we_v 4) (wa_cons (we_comp (own := [("one", 9)]) rfl sc_let_in.nd (wi_seq (we_fld Cn_Floor NA_Floor_pushers (we_v 3))) (blkOk_by (own := [("one", 9)]) (N := N_let_in) (sc := defScope s_let_in) (by decide +kernel)) (gok_name (by decide)) (fun _ _ _ _ _ => pg_n 9 sc_let_in.nd) (fun _ _ _ _ _ => wts_nil) (fun _ _ _ _ _ => (we_tup (wa_cons (we_v 8) (wa_cons (we_v 9) wa_nil))))) wa_nil))))))))))))))))
theorem ok_let_in (D_rest_of : DfG P w K mg base CX0 3 "rest_of" ["chain", "at", "turn"] [] P_rest_of) (D_still : DfG P w K mg base CX0 1 "still" ["many"] [] P_still) (z_len : mg "len" = none) (Cn_Floor : ClsD K mg "Floor") (NA_Floor_pushers : NoA K "Floor" "pushers") (NA_Floor_ways : NoA K "Floor" "ways") (D_led : DfG P w K mg base CX0 1 "led" ["turn", "letter"] [] P_led) (D_composed : DfG P w K mg base CX0 2 "composed" ["one", "other"] [] P_composed) (NA_Floor_returns : NoA K "Floor" "returns") (ME_Floor_lay : MethD P w K mg base CX0 3 "Floor" "lay" ["self", "to", "turn"] [] P_Floor_lay) {f : Addr} {fd : FuncData} (F : Fun K "let_in" "let_in" s_let_in f fd) (hm : mg "let_in" = some (.ref f)) : ∀ n : Nat, FnG P w K mg base CX0 (3 + n + 1) f fd ["chain", "at", "turn"] (spL K (PR_let_in n))
  | 0 => okF F sc_let_in (len_let_in 0) fun cdv A outer s H E ws G R RX hgd hr h => (no_let_in _ _ _ _ h).elim
  | n + 1 => okF F sc_let_in (len_let_in _) fun cdv A outer s H E ws G R RX hgd hr h => ⟨T_let_in (PR_let_in n), dv_let_in D_rest_of D_still z_len Cn_Floor NA_Floor_pushers NA_Floor_ways D_led D_composed NA_Floor_returns ME_Floor_lay ⟨f, fd, [], [], ok_let_in D_rest_of D_still z_len Cn_Floor NA_Floor_pushers NA_Floor_ways D_led D_composed NA_Floor_returns ME_Floor_lay F hm n, hm, F.kp, F.binds (ps := ["chain", "at", "turn"]) fun _ _ _ _ _ _ us hl => match us, hl with | [_, _, _], _ => rfl, .nil, fun _ => .nil⟩ hgd hr, rd_let_in n ws G R RX h⟩
abbrev s_chain_of : Stmt := topS 32
theorem sc_chain_of : FnScope N_chain_of ["many", "firsts", "makers"] (defScope s_chain_of) := ⟨rfl, rfl, rfl, by decide +kernel, rfl, by decide +kernel, by decide +kernel⟩
theorem dv_chain_of (z_abs : mg "abs" = none) (z_list : mg "list" = none) (D_still : DfG P w K mg base CX0 1 "still" ["many"] [] P_still) (M_Floor : MakeD P w K mg base CX0 2 "Floor" ["self", "letter", "many"] [] P_Floor___init__) (D_let_in : DfG P w K mg base CX0 18 "let_in" ["chain", "at", "turn"] [] P_let_in) {f : Addr} {cdv : Value} {A : Around} {outer : List Env} {s : Shared} {H : Hp} {E : XK} {G : GH} (hgd : A.guards = some []) (hr : Room 18 (A.deeper (envOfC "chain_of" (defScope s_chain_of) s.heap.objs.size f cdv))) :
    WSs (cxOf CX0 P w K mg base N_chain_of "chain_of" (defScope s_chain_of) f cdv A outer s H E).nox (G, H) (defBody s_chain_of) T_chain_of :=
  (wss_cons (ws_s 3 sc_chain_of.nd (we_fz (we_dictC (own := [("letter", 4)]) rfl sc_chain_of.nd (wi_seq (we_v 1)) (blkOk_by (own := [("letter", 4)]) (N := N_chain_of) (sc := defScope s_chain_of) (by decide +kernel)) (gok_name (by decide)) (fun _ _ _ _ _ => pg_n 4 sc_chain_of.nd) (fun _ _ _ _ _ => wts_nil) (fun _ _ _ _ _ => (we_cb call_absW (by rfl) z_abs bt_abs (wa_cons (we_v 4) wa_nil))) (fun _ _ _ _ _ => we_bl))))
    (wss_cons (ws_setC (i := 5) (own := [("letter", 4)]) rfl sc_chain_of.nd rfl rfl (sw_true rfl rfl rfl (by decide +kernel)) (wi_seq (we_fz (we_op op_addW (we_fz (we_ct (call_listDW rfl) (by rfl) z_list bt_list (wa_cons (we_v 1) wa_nil))) (we_fz (we_comp (own := [("k", 6)]) rfl sc_chain_of.nd (wi_seq (we_h D_still hgd hr (wa_cons (we_v 0) wa_nil))) (blkOk_by (own := [("k", 6)]) (N := N_chain_of) (sc := defScope s_chain_of) (by decide +kernel)) (gok_name (by decide)) (fun _ _ _ _ _ => pg_n 6 sc_chain_of.nd) (fun _ _ _ _ _ => wts_one (wt_cmp (op_notinQ (hu65 hr)) (we_v 6) (we_v 3) (by rfl))) (fun _ _ _ _ _ => (we_v 6))))))) (blkOk_by (own := [("letter", 4)]) (N := N_chain_of) (sc := defScope s_chain_of) (by decide +kernel)) (gok_name (by decide)) (fun _ _ _ _ _ => pg_n 4 sc_chain_of.nd) (fun _ _ _ _ _ => wts_nil) (fun _ _ _ _ _ => (we_mk M_Floor hgd hr (by rfl) (wa_cons (we_v 4) (wa_cons (we_v 0) wa_nil)))))
    (wss_cons (ws_for PassesOwn.never rfl (wi_seq (we_v 2)) (wg_n 7 sc_chain_of.nd) (wss_one (ws_expr (we_h D_let_in hgd hr (wa_cons (we_v 5) (wa_cons we_int (wa_cons (we_v 7) wa_nil)))))))
    (wss_one (ws_ret (we_v 5))))))
theorem ok_chain_of (z_abs : mg "abs" = none) (z_list : mg "list" = none) (D_still : DfG P w K mg base CX0 1 "still" ["many"] [] P_still) (M_Floor : MakeD P w K mg base CX0 2 "Floor" ["self", "letter", "many"] [] P_Floor___init__) (D_let_in : DfG P w K mg base CX0 18 "let_in" ["chain", "at", "turn"] [] P_let_in) {f : Addr} {fd : FuncData} (F : Fun K "chain_of" "chain_of" s_chain_of f fd) : FnG P w K mg base CX0 19 f fd ["many", "firsts", "makers"] (spL K P_chain_of) :=
  okF F sc_chain_of len_chain_of fun cdv A outer s H E ws G R RX hgd hr h => ⟨T_chain_of, dv_chain_of z_abs z_list D_still M_Floor D_let_in hgd hr, rd_chain_of ws G R RX h⟩
abbrev s_need_truths_x : Stmt := topS 37
theorem sc_need_truths_x : FnScope N_need_truths_x ["many"] (defScope s_need_truths_x) := ⟨rfl, rfl, rfl, by decide +kernel, rfl, by decide +kernel, by decide +kernel⟩
theorem dv_need_truths_x (D_is_number : DfG P w K mg base CX0 1 "is_number" ["thing"] [] P_is_number) (c_MOST_TRUTHS : Gv K mg "MOST_TRUTHS" (.int 12)) (XD_NoProblem : ExcD K mg "NoProblem") {f : Addr} {cdv : Value} {A : Around} {outer : List Env} {s : Shared} {H : Hp} {E : XK} {G : GH} {RX : XW} (hgd : A.guards = some []) (hr : Room 1 (A.deeper (envOfC "need_truths" (defScope s_need_truths_x) s.heap.objs.size f cdv))) (hx : XL K G H RX E) :
    WSs (cxOf (L2.CX P w) P w K mg base N_need_truths_x "need_truths" (defScope s_need_truths_x) f cdv A outer s H E) (G, H) (defBody s_need_truths_x) (T_need_truths_x RX) :=
  (wss_one (ws_if (wp_t (wp_or (wt_not (wt_truth (we_h D_is_number hgd hr (wa_cons (we_v 0) wa_nil)))) (wp_or1 (wt_not (wt_chain op_leW op_leW we_int (we_v 0) (we_g c_MOST_TRUTHS)))))) (wss_one (ws_raiseT rfl (TX.of hx) XD_NoProblem)) wss_nil))
theorem ok_need_truths_x (D_is_number : DfG P w K mg base CX0 1 "is_number" ["thing"] [] P_is_number) (c_MOST_TRUTHS : Gv K mg "MOST_TRUTHS" (.int 12)) (XD_NoProblem : ExcD K mg "NoProblem") {f : Addr} {fd : FuncData} (F : Fun K "need_truths" "need_truths" s_need_truths_x f fd) : FnG P w K mg base (L2.CX P w) 2 f fd ["many"] (spL K P_need_truths_x) :=
  okFX F sc_need_truths_x len_need_truths_x fun cdv A outer s H E ws G R RX hgd hr hx h => ⟨T_need_truths_x RX, dv_need_truths_x D_is_number c_MOST_TRUTHS XD_NoProblem hgd hr hx, rd_need_truths_x ws G R RX h⟩
abbrev s_need_makers_x : Stmt := topS 38
theorem sc_need_makers_x : FnScope N_need_makers_x ["many", "makers"] (defScope s_need_makers_x) := ⟨rfl, rfl, rfl, by decide +kernel, rfl, by decide +kernel, by decide +kernel⟩
theorem dv_need_makers_x (z_isinstance : mg "isinstance" = none) (z_list : mg "list" = none) (z_tuple : mg "tuple" = none) (XD_NoTurn : ExcD K mg "NoTurn") (z_len : mg "len" = none) (c_MOST_MAKERS : Gv K mg "MOST_MAKERS" (.int 60)) (XD_TooMany : ExcD K mg "TooMany") (D_is_turn : DfG P w K mg base CX0 3 "is_turn" ["thing", "many"] [] P_is_turn) (z_all : mg "all" = none) {f : Addr} {cdv : Value} {A : Around} {outer : List Env} {s : Shared} {H : Hp} {E : XK} {G : GH} {RX : XW} (hgd : A.guards = some []) (hr : Room 3 (A.deeper (envOfC "need_makers" (defScope s_need_makers_x) s.heap.objs.size f cdv))) (hx : XL K G H RX E) :
    WSs (cxOf (L2.CX P w) P w K mg base N_need_makers_x "need_makers" (defScope s_need_makers_x) f cdv A outer s H E) (G, H) (defBody s_need_makers_x) (T_need_makers_x RX) :=
  (wss_cons (ws_if (wt_not (wt_truth (we_cb (call_isi2W .li .tu) (by rfl) z_isinstance bt_isinstance (wa_cons (we_v 1) (wa_cons (we_tup (wa_cons (we_ty (by rfl) z_list bt_list) (wa_cons (we_ty (by rfl) z_tuple bt_tuple) wa_nil))) wa_nil))))) (wss_one (ws_raiseT rfl (TX.of hx) XD_NoTurn)) wss_nil)
    (wss_cons (ws_if (wt_cmp op_gtW (we_cb call_lenQ (by rfl) z_len bt_len (wa_cons (we_v 1) wa_nil)) (we_g c_MOST_MAKERS) (nomark _)) (wss_one (ws_raiseT rfl (TX.of hx) XD_TooMany)) wss_nil)
    (wss_one (ws_if (wt_not (wt_truth (we_cbC (own := [("maker", 2)]) (tmp_all rfl) (by rfl) z_all bt_all rfl sc_need_makers_x.nd (wi_seq (we_v 1)) (blkOk_by (own := [("maker", 2)]) (N := N_need_makers_x) (sc := defScope s_need_makers_x) (by decide +kernel)) (gok_name (by decide)) (fun _ _ _ _ _ => pg_n 2 sc_need_makers_x.nd) (fun _ _ _ _ _ => wts_nil) (fun _ _ _ _ _ => (we_h D_is_turn hgd hr (wa_cons (we_v 2) (wa_cons (we_v 0) wa_nil))))))) (wss_one (ws_raiseT rfl (TX.of hx) XD_NoTurn)) wss_nil))))
theorem ok_need_makers_x (z_isinstance : mg "isinstance" = none) (z_list : mg "list" = none) (z_tuple : mg "tuple" = none) (XD_NoTurn : ExcD K mg "NoTurn") (z_len : mg "len" = none) (c_MOST_MAKERS : Gv K mg "MOST_MAKERS" (.int 60)) (XD_TooMany : ExcD K mg "TooMany") (D_is_turn : DfG P w K mg base CX0 3 "is_turn" ["thing", "many"] [] P_is_turn) (z_all : mg "all" = none) {f : Addr} {fd : FuncData} (F : Fun K "need_makers" "need_makers" s_need_makers_x f fd) : FnG P w K mg base (L2.CX P w) 4 f fd ["many", "makers"] (spL K P_need_makers_x) :=
  okFX F sc_need_makers_x len_need_makers_x fun cdv A outer s H E ws G R RX hgd hr hx h => ⟨T_need_makers_x RX, dv_need_makers_x z_isinstance z_list z_tuple XD_NoTurn z_len c_MOST_MAKERS XD_TooMany D_is_turn z_all hgd hr hx, rd_need_makers_x ws G R RX h⟩
abbrev s_need_letters_x : Stmt := topS 39
theorem sc_need_letters_x : FnScope N_need_letters_x ["many", "letters"] (defScope s_need_letters_x) := ⟨rfl, rfl, rfl, by decide +kernel, rfl, by decide +kernel, by decide +kernel⟩
theorem dv_need_letters_x (z_isinstance : mg "isinstance" = none) (z_list : mg "list" = none) (z_tuple : mg "tuple" = none) (D_is_letter : DfG P w K mg base CX0 2 "is_letter" ["thing", "many"] [] P_is_letter) (z_all : mg "all" = none) (XD_NoLetter : ExcD K mg "NoLetter") {f : Addr} {cdv : Value} {A : Around} {outer : List Env} {s : Shared} {H : Hp} {E : XK} {G : GH} {RX : XW} (hgd : A.guards = some []) (hr : Room 2 (A.deeper (envOfC "need_letters" (defScope s_need_letters_x) s.heap.objs.size f cdv))) (hx : XL K G H RX E) :
    WSs (cxOf (L2.CX P w) P w K mg base N_need_letters_x "need_letters" (defScope s_need_letters_x) f cdv A outer s H E) (G, H) (defBody s_need_letters_x) (T_need_letters_x RX) :=
  (wss_one (ws_if (wp_t (wp_or (wt_not (wt_truth (we_cb (call_isi2W .li .tu) (by rfl) z_isinstance bt_isinstance (wa_cons (we_v 1) (wa_cons (we_tup (wa_cons (we_ty (by rfl) z_list bt_list) (wa_cons (we_ty (by rfl) z_tuple bt_tuple) wa_nil))) wa_nil))))) (wp_or1 (wt_not (wt_truth (we_cbC (own := [("letter", 2)]) (tmp_all rfl) (by rfl) z_all bt_all rfl sc_need_letters_x.nd (wi_seq (we_v 1)) (blkOk_by (own := [("letter", 2)]) (N := N_need_letters_x) (sc := defScope s_need_letters_x) (by decide +kernel)) (gok_name (by decide)) (fun _ _ _ _ _ => pg_n 2 sc_need_letters_x.nd) (fun _ _ _ _ _ => wts_nil) (fun _ _ _ _ _ => (we_h D_is_letter hgd hr (wa_cons (we_v 2) (wa_cons (we_v 0) wa_nil)))))))))) (wss_one (ws_raiseT rfl (TX.of hx) XD_NoLetter)) wss_nil))
theorem ok_need_letters_x (z_isinstance : mg "isinstance" = none) (z_list : mg "list" = none) (z_tuple : mg "tuple" = none) (D_is_letter : DfG P w K mg base CX0 2 "is_letter" ["thing", "many"] [] P_is_letter) (z_all : mg "all" = none) (XD_NoLetter : ExcD K mg "NoLetter") {f : Addr} {fd : FuncData} (F : Fun K "need_letters" "need_letters" s_need_letters_x f fd) : FnG P w K mg base (L2.CX P w) 3 f fd ["many", "letters"] (spL K P_need_letters_x) :=
  okFX F sc_need_letters_x len_need_letters_x fun cdv A outer s H E ws G R RX hgd hr hx h => ⟨T_need_letters_x RX, dv_need_letters_x z_isinstance z_list z_tuple D_is_letter z_all XD_NoLetter hgd hr hx, rd_need_letters_x ws G R RX h⟩
abbrev s_unlike : Stmt := topS 40
theorem sc_unlike : FnScope N_unlike ["things"] (defScope s_unlike) := ⟨rfl, rfl, rfl, by decide +kernel, rfl, by decide +kernel, by decide +kernel⟩
theorem dv_unlike (z_list : mg "list" = none) {f : Addr} {cdv : Value} {A : Around} {outer : List Env} {s : Shared} {H : Hp} {E : XK} {G : GH} (hgd : A.guards = some []) (hr : Room 0 (A.deeper (envOfC "unlike" (defScope s_unlike) s.heap.objs.size f cdv))) :
    WSs (cxOf CX0 P w K mg base N_unlike "unlike" (defScope s_unlike) f cdv A outer s H E).nox (G, H) (defBody s_unlike) T_unlike :=
  (wss_one (ws_ret (we_fz (we_alt (we_ct (call_listDW rfl) (by rfl) z_list bt_list (wa_cons (we_fz (we_dictC (own := [("thing", 1)]) rfl sc_unlike.nd (wi_seq (we_v 0)) (blkOk_by (own := [("thing", 1)]) (N := N_unlike) (sc := defScope s_unlike) (by decide +kernel)) (gok_name (by decide)) (fun _ _ _ _ _ => pg_n 1 sc_unlike.nd) (fun _ _ _ _ _ => wts_nil) (fun _ _ _ _ _ => (we_v 1)) (fun _ _ _ _ _ => we_bl))) wa_nil)) (we_ct (call_listTW rfl) (by rfl) z_list bt_list (wa_cons (we_fz (we_dictT (own := [("thing", 1)]) (hu0 hr) rfl sc_unlike.nd (wi_seq (we_v 0)) (blkOk_by (own := [("thing", 1)]) (N := N_unlike) (sc := defScope s_unlike) (by decide +kernel)) (gok_name (by decide)) (fun _ _ _ _ _ => pg_n 1 sc_unlike.nd) (fun _ _ _ _ _ => wts_nil) (fun _ _ _ _ _ => (we_v 1)) (fun _ _ _ _ _ => we_bl))) wa_nil))))))
theorem ok_unlike (z_list : mg "list" = none) {f : Addr} {fd : FuncData} (F : Fun K "unlike" "unlike" s_unlike f fd) : FnG P w K mg base CX0 1 f fd ["things"] (spL K P_unlike) :=
  okF F sc_unlike len_unlike fun cdv A outer s H E ws G R RX hgd hr h => ⟨T_unlike, dv_unlike z_list hgd hr, rd_unlike ws G R RX h⟩
abbrev s_Group___init___x : Stmt := inClass (topS 41) 0
theorem sc_Group___init___x : FnScope N_Group___init___x ["self", "many", "makers", "base"] (defScope s_Group___init___x) := ⟨rfl, rfl, rfl, by decide +kernel, rfl, by decide +kernel, by decide +kernel⟩
theorem dv_Group___init___x (D_need_truths_x : DfG P w K mg base (L2.CX P w) 2 "need_truths" ["many"] [] P_need_truths_x) (D_need_makers_x : DfG P w K mg base (L2.CX P w) 4 "need_makers" ["many", "makers"] [] P_need_makers_x) (D_need_letters_x : DfG P w K mg base (L2.CX P w) 3 "need_letters" ["many", "letters"] [] P_need_letters_x) (D_unlike : DfG P w K mg base CX0 1 "unlike" ["things"] [] P_unlike) (z_abs : mg "abs" = none) (z_len : mg "len" = none) (XD_NoLetter : ExcD K mg "NoLetter") (Cn_Group : ClsD K mg "Group") (NA_Group_many : NoA K "Group" "many") (z_tuple : mg "tuple" = none) (NA_Group_firsts : NoA K "Group" "firsts") (D_still : DfG P w K mg base CX0 1 "still" ["many"] [] P_still) (NA_Group_pushers : NoA K "Group" "pushers") (D_chain_of : DfG P w K mg base CX0 19 "chain_of" ["many", "firsts", "makers"] [] P_chain_of) (NA_Group_chain : NoA K "Group" "chain") {f : Addr} {cdv : Value} {A : Around} {outer : List Env} {s : Shared} {H : Hp} {E : XK} {G : GH} {RX : XW} (hgd : A.guards = some []) (hr : Room 19 (A.deeper (envOfC "Group.__init__" (defScope s_Group___init___x) s.heap.objs.size f cdv))) (hx : XL K G H RX E) :
    WSs (cxOf (L2.CX P w) P w K mg base N_Group___init___x "Group.__init__" (defScope s_Group___init___x) f cdv A outer s H E) (G, H) (defBody s_Group___init___x) (T_Group___init___x RX) :=
  (wss_cons (ws_expr (we_hR (TX.of hx) D_need_truths_x hgd hr (wa_cons (we_v 1) wa_nil)))
    (wss_cons (ws_expr (we_hR (TX.of hx) D_need_makers_x hgd hr (wa_cons (we_v 1) (wa_cons (we_v 2) wa_nil))))
    (wss_cons (ws_expr (we_hR (TX.of hx) D_need_letters_x hgd hr (wa_cons (we_v 1) (wa_cons (we_v 3) wa_nil))))
    (wss_cons (ws_if (wt_cmp (op_ltW (hu0 hr)) (we_cb call_lenQ (by rfl) z_len bt_len (wa_cons (we_h D_unlike hgd hr (wa_cons (we_fz (we_comp (own := [("letter", 4)]) rfl sc_Group___init___x.nd (wi_seq (we_v 3)) (blkOk_by (own := [("letter", 4)]) (N := N_Group___init___x) (sc := defScope s_Group___init___x) (by decide +kernel)) (gok_name (by decide)) (fun _ _ _ _ _ => pg_n 4 sc_Group___init___x.nd) (fun _ _ _ _ _ => wts_nil) (fun _ _ _ _ _ => (we_cb call_absW (by rfl) z_abs bt_abs (wa_cons (we_v 4) wa_nil))))) wa_nil)) wa_nil)) (we_cb call_lenQ (by rfl) z_len bt_len (wa_cons (we_v 3) wa_nil)) (nomark _)) (wss_one (ws_raiseT rfl (TX.of hx) XD_NoLetter)) wss_nil)
    (wss_cons (ws_fld Cn_Group NA_Group_many (we_v 0) (we_v 1))
    (wss_cons (ws_fld Cn_Group NA_Group_firsts (we_v 0) (we_ct call_tupW (by rfl) z_tuple bt_tuple (wa_cons (we_v 3) wa_nil)))
    (wss_cons (ws_fld Cn_Group NA_Group_pushers (we_v 0) (we_fz (we_comp (own := [("maker", 5)]) rfl sc_Group___init___x.nd (wi_seq (we_h D_unlike hgd hr (wa_cons (we_v 2) wa_nil))) (blkOk_by (own := [("maker", 5)]) (N := N_Group___init___x) (sc := defScope s_Group___init___x) (by decide +kernel)) (gok_name (by decide)) (fun _ _ _ _ _ => pg_n 5 sc_Group___init___x.nd) (fun _ _ _ _ _ => wts_one (wt_cmp (op_neQ (hu64 hr)) (we_v 5) (we_h D_still hgd hr (wa_cons (we_v 1) wa_nil)) (nomark _))) (fun _ _ _ _ _ => (we_v 5)))))
    (wss_one (ws_fld Cn_Group NA_Group_chain (we_v 0) (we_fzD (we_h D_chain_of hgd hr (wa_cons (we_v 1) (wa_cons (we_v 3) (wa_cons (we_fld Cn_Group NA_Group_pushers (we_v 0)) wa_nil))))))))))))))
theorem ok_Group___init___x (D_need_truths_x : DfG P w K mg base (L2.CX P w) 2 "need_truths" ["many"] [] P_need_truths_x) (D_need_makers_x : DfG P w K mg base (L2.CX P w) 4 "need_makers" ["many", "makers"] [] P_need_makers_x) (D_need_letters_x : DfG P w K mg base (L2.CX P w) 3 "need_letters" ["many", "letters"] [] P_need_letters_x) (D_unlike : DfG P w K mg base CX0 1 "unlike" ["things"] [] P_unlike) (z_abs : mg "abs" = none) (z_len : mg "len" = none) (XD_NoLetter : ExcD K mg "NoLetter") (Cn_Group : ClsD K mg "Group") (NA_Group_many : NoA K "Group" "many") (z_tuple : mg "tuple" = none) (NA_Group_firsts : NoA K "Group" "firsts") (D_still : DfG P w K mg base CX0 1 "still" ["many"] [] P_still) (NA_Group_pushers : NoA K "Group" "pushers") (D_chain_of : DfG P w K mg base CX0 19 "chain_of" ["many", "firsts", "makers"] [] P_chain_of) (NA_Group_chain : NoA K "Group" "chain") {f : Addr} {fd : FuncData} {dvs : List V} {kws : List (Str × V)} (F : FunD K "__init__" "Group.__init__" (defArgs s_Group___init___x) (defBody s_Group___init___x) (defScope s_Group___init___x) dvs kws f fd) : FnG P w K mg base (L2.CX P w) 20 f fd ["self", "many", "makers", "base"] (spL K P_Group___init___x) :=
  okFDX F sc_Group___init___x len_Group___init___x fun cdv A outer s H E ws G R RX hgd hr hx h => ⟨T_Group___init___x RX, dv_Group___init___x D_need_truths_x D_need_makers_x D_need_letters_x D_unlike z_abs z_len XD_NoLetter Cn_Group NA_Group_many z_tuple NA_Group_firsts D_still NA_Group_pushers D_chain_of NA_Group_chain hgd hr hx, rd_Group___init___x ws G R RX h⟩
abbrev s_Group_size : Stmt := inClass (topS 41) 7
abbrev s_Group_truths : Stmt := inClass (topS 41) 2
abbrev s_Group_makers : Stmt := inClass (topS 41) 3
abbrev s_Group_told_chain : Stmt := inClass (topS 41) 4
theorem sc_Group_told_chain : FnScope N_Group_told_chain ["self"] (defScope s_Group_told_chain) := ⟨rfl, rfl, rfl, by decide +kernel, rfl, by decide +kernel, by decide +kernel⟩
theorem dv_Group_told_chain (Cn_Group : ClsD K mg "Group") (NA_Group_chain : NoA K "Group" "chain") (z_enumerate : mg "enumerate" = none) (NA_Group_firsts : NoA K "Group" "firsts") (z_len : mg "len" = none) (Cn_Floor : ClsD K mg "Floor") (NA_Floor_ways : NoA K "Floor" "ways") {f : Addr} {cdv : Value} {A : Around} {outer : List Env} {s : Shared} {H : Hp} {E : XK} {G : GH} (hgd : A.guards = some []) (hr : Room 0 (A.deeper (envOfC "Group.told_chain" (defScope s_Group_told_chain) s.heap.objs.size f cdv))) :
    WSs (cxOf CX0 P w K mg base N_Group_told_chain "Group.told_chain" (defScope s_Group_told_chain) f cdv A outer s H E).nox (G, H) (defBody s_Group_told_chain) T_Group_told_chain :=
  (wss_one (ws_ret (we_fz (we_comp (own := [("at", 1), ("floor", 2)]) rfl sc_Group_told_chain.nd (wi_enum1 (by rfl) z_enumerate (we_fld Cn_Group NA_Group_chain (we_v 0))) (blkOk_by (own := [("at", 1), ("floor", 2)]) (N := N_Group_told_chain) (sc := defScope s_Group_told_chain) (by decide +kernel)) (gok_tup (gsok_cons (i := 1) (by decide) (gsok_cons (i := 2) (by decide) gsok_nil))) (fun _ _ _ _ _ => pg_tup rfl (pgs_cons (pg_n 1 sc_Group_told_chain.nd) (pgs_cons (pg_n 2 sc_Group_told_chain.nd) pgs_nil))) (fun _ _ _ _ _ => wts_one (wp_t (wp_or (wt_cmp (op_ltW (hu0 hr)) (we_v 1) (we_cb call_lenQ (by rfl) z_len bt_len (wa_cons (we_fld Cn_Group NA_Group_firsts (we_v 0)) wa_nil)) (nomark _)) (wp_or1 (wt_cmp op_gtW (we_cb call_lenR (by rfl) z_len bt_len (wa_cons (we_fld Cn_Floor NA_Floor_ways (we_v 2)) wa_nil)) we_int (nomark _)))))) (fun _ _ _ _ _ => (we_v 2))))))
theorem ok_Group_told_chain (Cn_Group : ClsD K mg "Group") (NA_Group_chain : NoA K "Group" "chain") (z_enumerate : mg "enumerate" = none) (NA_Group_firsts : NoA K "Group" "firsts") (z_len : mg "len" = none) (Cn_Floor : ClsD K mg "Floor") (NA_Floor_ways : NoA K "Floor" "ways") {f : Addr} {fd : FuncData} (F : Fun K "told_chain" "Group.told_chain" s_Group_told_chain f fd) : FnG P w K mg base CX0 1 f fd ["self"] (spL K P_Group_told_chain) :=
  okF F sc_Group_told_chain len_Group_told_chain fun cdv A outer s H E ws G R RX hgd hr h => ⟨T_Group_told_chain, dv_Group_told_chain Cn_Group NA_Group_chain z_enumerate NA_Group_firsts z_len Cn_Floor NA_Floor_ways hgd hr, rd_Group_told_chain ws G R RX h⟩
abbrev s_Group_base : Stmt := inClass (topS 41) 5
abbrev s_Group_floors : Stmt := inClass (topS 41) 6
theorem sc_Group_floors : FnScope N_Group_floors ["self"] (defScope s_Group_floors) := ⟨rfl, rfl, rfl, by decide +kernel, rfl, by decide +kernel, by decide +kernel⟩
theorem dv_Group_floors (ME_Group_told_chain : MethD P w K mg base CX0 1 "Group" "told_chain" ["self"] [] P_Group_told_chain) (Cn_Floor : ClsD K mg "Floor") (NA_Floor_ways : NoA K "Floor" "ways") (z_sorted : mg "sorted" = none) {f : Addr} {cdv : Value} {A : Around} {outer : List Env} {s : Shared} {H : Hp} {E : XK} {G : GH} (hgd : A.guards = some []) (hr : Room 1 (A.deeper (envOfC "Group.floors" (defScope s_Group_floors) s.heap.objs.size f cdv))) :
    WSs (cxOf CX0 P w K mg base N_Group_floors "Group.floors" (defScope s_Group_floors) f cdv A outer s H E).nox (G, H) (defBody s_Group_floors) T_Group_floors :=
  (wss_one (ws_ret (we_comp (own := [("floor", 1)]) rfl sc_Group_floors.nd (wi_seq (we_m0 ME_Group_told_chain hgd hr (we_v 0))) (blkOk_by (own := [("floor", 1)]) (N := N_Group_floors) (sc := defScope s_Group_floors) (by decide +kernel)) (gok_name (by decide)) (fun _ _ _ _ _ => pg_n 1 sc_Group_floors.nd) (fun _ _ _ _ _ => wts_nil) (fun _ _ _ _ _ => (we_dictC (own := [("to", 2)]) rfl sc_Group_floors.nd (wi_seq (we_fz (we_cb (call_sortedR rfl) (by rfl) z_sorted bt_sorted (wa_cons (we_fld Cn_Floor NA_Floor_ways (we_v 1)) wa_nil)))) (blkOk_by (own := [("to", 2)]) (N := N_Group_floors) (sc := _) (by rfl)) (gok_name (by decide)) (fun _ _ _ _ _ => pg_n 2 sc_Group_floors.nd) (fun _ _ _ _ _ => wts_nil) (fun _ _ _ _ _ => (we_v 2)) (fun _ _ _ _ _ => (we_ix (hu1 hr) (we_fld Cn_Floor NA_Floor_ways (we_v 1)) (we_v 2))))))))
theorem ok_Group_floors (ME_Group_told_chain : MethD P w K mg base CX0 1 "Group" "told_chain" ["self"] [] P_Group_told_chain) (Cn_Floor : ClsD K mg "Floor") (NA_Floor_ways : NoA K "Floor" "ways") (z_sorted : mg "sorted" = none) {f : Addr} {fd : FuncData} (F : Fun K "floors" "Group.floors" s_Group_floors f fd) : FnG P w K mg base CX0 2 f fd ["self"] (spL K P_Group_floors) :=
  okF F sc_Group_floors len_Group_floors fun cdv A outer s H E ws G R RX hgd hr h => ⟨T_Group_floors, dv_Group_floors ME_Group_told_chain Cn_Floor NA_Floor_ways z_sorted hgd hr, rd_Group_floors ws G R RX h⟩
abbrev N_Group_has_x : List Str := ["self", "thing"]
structure P_Group_has_x (ws : List W) (G : GH) (R : KW) (RX : XW) : Prop where
  ex : ∃ (many : Int) (fw w : W) (fl : List Int) (ps : List (List Int)) (ch : List Fl), ws = [grW many fw ps ch, w] ∧ (GrOk many fl ps ch) ∧ (Ask G w) ∧ (R (.bl (hasC many ps w)) G)
theorem len_Group_has_x : ∀ ws G R RX, P_Group_has_x ws G R RX → ws.length = ["self", "thing"].length := by
  rintro ws G R RX ⟨⟨_, _, _, _, _, _, rfl, _, _, _⟩⟩; rfl
theorem p_Group_has_x {many : Int} {fw w : W} {fl : List Int} {ps : List (List Int)} {ch : List Fl} {G : GH} {R : KW} {RX : XW} (O : GrOk many fl ps ch) (ask : Ask G w) (q : R (.bl (hasC many ps w)) G) : P_Group_has_x [grW many fw ps ch, w] G R RX := ⟨many, fw, w, fl, ps, ch, rfl, O, ask, q⟩
def T_Group_has_x (RX : XW) : TWS :=
  (sRet (tAndE (tCall0 P_is_turn [] (tCo (tV 1) (tCo (tFldW "Group" "many" (tV 0)) tN))) (tOpW (eqQ false) (tCall0 P_rest_of [] (tCo (tFldW "Group" "chain" (tV 0)) (tCo (tK (.int 0)) (tCo (tV 1) tN)))) (tCall0 P_still [] (tCo (tFldW "Group" "many" (tV 0)) tN)))))
theorem rd_Group_has_x (ws : List W) (G : GH) (R : KW) (RX : XW) (h : P_Group_has_x ws G R RX) : T_Group_has_x RX { nx := fun _ G' => fgt R .non G', rt := fgt R } (startW N_Group_has_x ws) G := by
  obtain ⟨many, fw, w, fl, ps, ch, rfl, O, ask, q⟩ := h
  have h0 := O.h0
  have h12 := O.h12
  (try conv => whnf); (repeat (first | (refine Exists.intro _ (And.intro rfl ?_); conv => whnf) | (refine And.intro rfl ?_; conv => whnf) | (refine frz_lst ?_; conv => whnf) | (refine frz_dK ?_; conv => whnf) | (refine frz_dT ?_; conv => whnf)))
  refine p_is_turn ask ?_
  cases hb : turnB many w with
  | false =>
    conv => whnf
    rw [hasC_no h0 (by omega) O.tp hb] at q
    exact ret q
  | true =>
  obtain ⟨t, rfl, tt⟩ := turn_of_yes hb
  conv => whnf
  refine ⟨rfl, ?_⟩
  conv => whnf
  refine p_rest_of (ws1 := []) (ws2 := ch.map flW) (fs := ch) (many := many) rfl (.inl rfl) (flv_fl ch) tt (comp_lws O.C) (by rw [List.nil_append, List.length_map]; have := O.len; omega) ?_
  conv => whnf
  refine ⟨rfl, ?_⟩
  conv => whnf
  refine p_still (by omega) (by omega) ?_
  conv => whnf
  refine eq_ints ?_
  rw [fbne]
  have e : decide (restL ch t = stillL many) = hasC many ps (cTup t) := by
    rw [Bool.eq_iff_iff, decide_eq_true_iff, hasC_turn]
    exact O.gen tt
  rw [e]
  exact ret q
abbrev s_Group_has_x : Stmt := inClass (topS 41) 8
theorem sc_Group_has_x : FnScope N_Group_has_x ["self", "thing"] (defScope s_Group_has_x) := ⟨rfl, rfl, rfl, by decide +kernel, rfl, by decide +kernel, by decide +kernel⟩
theorem dv_Group_has_x (D_is_turn : DfG P w K mg base CX0 3 "is_turn" ["thing", "many"] [] P_is_turn) (Cn_Group : ClsD K mg "Group") (NA_Group_many : NoA K "Group" "many") (D_rest_of : DfG P w K mg base CX0 3 "rest_of" ["chain", "at", "turn"] [] P_rest_of) (NA_Group_chain : NoA K "Group" "chain") (D_still : DfG P w K mg base CX0 1 "still" ["many"] [] P_still) {f : Addr} {cdv : Value} {A : Around} {outer : List Env} {s : Shared} {H : Hp} {E : XK} {G : GH} {RX : XW} (hgd : A.guards = some []) (hr : Room 3 (A.deeper (envOfC "Group.has" (defScope s_Group_has_x) s.heap.objs.size f cdv))) (hx : XL K G H RX E) :
    WSs (cxOf (L2.CX P w) P w K mg base N_Group_has_x "Group.has" (defScope s_Group_has_x) f cdv A outer s H E) (G, H) (defBody s_Group_has_x) (T_Group_has_x RX) :=
  (wss_one (ws_ret (we_and (we_h D_is_turn hgd hr (wa_cons (we_v 1) (wa_cons (we_fld Cn_Group NA_Group_many (we_v 0)) wa_nil))) (we_one (we_cmp (op_eqQ (hu64 hr)) (we_h D_rest_of hgd hr (wa_cons (we_fld Cn_Group NA_Group_chain (we_v 0)) (wa_cons we_int (wa_cons (we_v 1) wa_nil)))) (we_h D_still hgd hr (wa_cons (we_fld Cn_Group NA_Group_many (we_v 0)) wa_nil)) (nomark _))))))
theorem ok_Group_has_x (D_is_turn : DfG P w K mg base CX0 3 "is_turn" ["thing", "many"] [] P_is_turn) (Cn_Group : ClsD K mg "Group") (NA_Group_many : NoA K "Group" "many") (D_rest_of : DfG P w K mg base CX0 3 "rest_of" ["chain", "at", "turn"] [] P_rest_of) (NA_Group_chain : NoA K "Group" "chain") (D_still : DfG P w K mg base CX0 1 "still" ["many"] [] P_still) {f : Addr} {fd : FuncData} (F : Fun K "has" "Group.has" s_Group_has_x f fd) : FnG P w K mg base (L2.CX P w) 4 f fd ["self", "thing"] (spL K P_Group_has_x) :=
  okFX F sc_Group_has_x len_Group_has_x fun cdv A outer s H E ws G R RX hgd hr hx h => ⟨T_Group_has_x RX, dv_Group_has_x D_is_turn Cn_Group NA_Group_many D_rest_of NA_Group_chain D_still hgd hr hx, rd_Group_has_x ws G R RX h⟩
abbrev N_Group_factors_x : List Str := ["self", "turn", "found", "rest", "floor", "to"]
structure P_Group_factors_x (ws : List W) (G : GH) (R : KW) (RX : XW) : Prop where
  ex : ∃ (many : Int) (fw w : W) (fl : List Int) (ps : List (List Int)) (ch : List Fl), ws = [grW many fw ps ch, w] ∧ (GrOk many fl ps ch) ∧ (fw.tup? = some (fl.map W.int)) ∧ (Ask G w) ∧ (if hasC many ps w = true then ∀ t ws, w = cTup t → Fac many (toldN fl.length ch) t ws → ∀ p, G p = none → R (.ref p) (updG G p (.lst (ws.reverse.map cTup))) else RX "NotThere" [("at", .non)] G)
theorem len_Group_factors_x : ∀ ws G R RX, P_Group_factors_x ws G R RX → ws.length = ["self", "turn"].length := by
  rintro ws G R RX ⟨⟨_, _, _, _, _, _, rfl, _, _, _, _⟩⟩; rfl
theorem p_Group_factors_x {many : Int} {fw w : W} {fl : List Int} {ps : List (List Int)} {ch : List Fl} {G : GH} {R : KW} {RX : XW} (O : GrOk many fl ps ch) (hfw : fw.tup? = some (fl.map W.int)) (ask : Ask G w) (q : if hasC many ps w = true then ∀ t ws, w = cTup t → Fac many (toldN fl.length ch) t ws → ∀ p, G p = none → R (.ref p) (updG G p (.lst (ws.reverse.map cTup))) else RX "NotThere" [("at", .non)] G) : P_Group_factors_x [grW many fw ps ch, w] G R RX := ⟨many, fw, w, fl, ps, ch, rfl, O, hfw, ask, q⟩
def T_Group_factors_x (RX : XW) : TWS :=
  (sSeq (sIf (tNotW (tTruW (tMethX "Group" "has" P_Group_has_x [] (xs RX) (tV 0) (tCo (tV 1) tN)))) (sRaiseF "NotThere" "at" (tK .non) (xs RX)) sNext)
    (sSeq (sPar 2 3 (tCo (tLstW tN) (tCo (tV 1) tN)))
    (sSeq (sFor (tISeq (tMethW "Group" "told_chain" P_Group_told_chain [] XF (tV 0) tN)) (gN 4) (sSeq (sSet 5 (tCall0 P_led [] (tCo (tV 3) (tCo (tFldW "Floor" "letter" (tV 4)) tN))))
    (sSeq (sDrop (tMetL appendW (tV 2) (tCo (tOpW ixW (tFldW "Floor" "ways" (tV 4)) (tV 5)) tN)))
    (sSet 3 (tCall0 P_composed [] (tCo (tV 3) (tCo (tOpW ixW (tFldW "Floor" "returns" (tV 4)) (tV 5)) tN)))))))
    (sRet (tRevW (tV 2))))))
theorem rd_Group_factors_x (ws : List W) (G : GH) (R : KW) (RX : XW) (h : P_Group_factors_x ws G R RX) : T_Group_factors_x RX { nx := fun _ G' => fgt R .non G', rt := fgt R } (startW N_Group_factors_x ws) G := by
  obtain ⟨many, fw, w, fl, ps, ch, rfl, O, hfw, ask, q⟩ := h
  have h0 := O.h0
  have h12 := O.h12
  (try conv => whnf); (repeat (first | (refine Exists.intro _ (And.intro rfl ?_); conv => whnf) | (refine And.intro rfl ?_; conv => whnf) | (refine frz_lst ?_; conv => whnf) | (refine frz_dK ?_; conv => whnf) | (refine frz_dT ?_; conv => whnf)))
  refine p_Group_has_x O ask ?_
  by_cases hb : hasC many ps w = true
  case neg =>
    rw [if_neg hb] at q
    rw [show hasC many ps w = false by simpa using hb]
    conv => whnf
    exact q
  rw [if_pos hb] at q
  rw [hb]
  obtain ⟨t, rfl, g⟩ := hasC_ex hb
  have hTw : Tw many (toldN fl.length ch) (elemsL many ch) := ⟨_, _, _, rfl, grOk_wk O⟩
  obtain ⟨ws, F⟩ := tw_fac hTw ((grOk_mem O).mpr g)
  have q := q t ws rfl F
  have hlen : (toldN fl.length ch).length ≤ 24 := Nat.le_trans (toldN_len _ _) O.len
  have hwl : ws.length ≤ 24 := by rw [F.all.length]; exact hlen
  have hsub : ∀ f ∈ toldN fl.length ch, f ∈ ch := fun f hf => toldN_sub hf
  conv => whnf
  refine ⟨sz0, fun p hp => ?_⟩
  conv => whnf
  refine ⟨rfl, ?_⟩
  conv => whnf
  refine p_Group_told_chain O hfw ?_
  conv => whnf
  refine forW_map (f := flW) (I := fun T' S G' => ∃ (dn ws' : List (List Int)) (t' : List Int) (x4 x5 : Option W), S = [some (grW many fw ps ch), some (cTup t), some (.ref p), some (cTup t'), x4, x5] ∧ G' p = some (.lst (dn.map cTup)) ∧ ExtG G G' ∧ dn ++ ws' = ws ∧ Fac many T' t' ws' ∧ ∀ f ∈ T', f ∈ ch) (fun f T' S G' => ?_) (fun S G' => ?_) _ _ _ ⟨[], ws, t, _, _, rfl, updG_same, .new hp, rfl, F, hsub⟩
  · rintro ⟨dn, ws', t', x4, x5, rfl, gp, X, e, F', hin⟩ N hN
    refine ⟨trivial, ?_⟩
    cases F' with
    | @cons _ _ _ w1 ws1 tt tw hlk hlt F1 =>
    have hk : (goI t' f.letter, w1) ∈ f.ways := lookup_mem hlk
    have hle := congrArg List.length e
    rw [List.length_append, List.length_cons] at hle
    conv => whnf
    refine ⟨rfl, ?_⟩
    conv => whnf
    refine p_led tt hlt ?_
    conv => whnf
    refine ⟨recL_lst gp, ?_⟩
    conv => whnf
    refine ⟨rfl, ?_⟩
    conv => whnf
    refine ⟨_, congrArg some ((val_way f.ways _).trans (congrArg (Option.map cTup) hlk)), ?_⟩
    conv => whnf
    rw [gp]
    conv => whnf
    refine ⟨by rw [List.length_map, sizeLine_eq]; omega, ?_⟩
    conv => whnf
    refine ⟨rfl, ?_⟩
    conv => whnf
    refine ⟨_, congrArg some ((val_ret f.ways _).trans (congrArg (Option.map fun w => cTup (backL w)) hlk)), ?_⟩
    conv => whnf
    refine p_composed tt (back_turn tw) ?_
    refine hN _ _ ⟨dn ++ [w1], ws1, _, _, _, rfl, by rw [updG_same, List.map_append]; rfl, X.putNew hp, by rw [List.append_assoc]; exact e, F1, fun g hg => hin g (List.mem_cons_of_mem _ hg)⟩
  · rintro ⟨dn, ws', t', x4, x5, rfl, gp, X, e, F', _⟩
    refine ⟨trivial, ?_⟩
    cases F'
    rw [List.append_nil] at e
    subst e
    conv => whnf
    rw [gp]
    intro r hr
    rw [← List.map_reverse]
    exact ret_ext (ext_upd X) (q r (WS.ExtG.none X hr))
abbrev s_Group_factors_x : Stmt := inClass (topS 41) 9
theorem sc_Group_factors_x : FnScope N_Group_factors_x ["self", "turn"] (defScope s_Group_factors_x) := ⟨rfl, rfl, rfl, by decide +kernel, rfl, by decide +kernel, by decide +kernel⟩
theorem dv_Group_factors_x (ME_Group_has_x : MethD P w K mg base (L2.CX P w) 4 "Group" "has" ["self", "thing"] [] P_Group_has_x) (XF_NotThere : ExcF P w K mg base "NotThere" "at") (ME_Group_told_chain : MethD P w K mg base CX0 1 "Group" "told_chain" ["self"] [] P_Group_told_chain) (D_led : DfG P w K mg base CX0 1 "led" ["turn", "letter"] [] P_led) (Cn_Floor : ClsD K mg "Floor") (NA_Floor_letter : NoA K "Floor" "letter") (NA_Floor_ways : NoA K "Floor" "ways") (D_composed : DfG P w K mg base CX0 2 "composed" ["one", "other"] [] P_composed) (NA_Floor_returns : NoA K "Floor" "returns") {f : Addr} {cdv : Value} {A : Around} {outer : List Env} {s : Shared} {H : Hp} {E : XK} {G : GH} {RX : XW} (hgd : A.guards = some []) (hr : Room 4 (A.deeper (envOfC "Group.factors" (defScope s_Group_factors_x) s.heap.objs.size f cdv))) (hx : XL K G H RX E) :
    WSs (cxOf (L2.CX P w) P w K mg base N_Group_factors_x "Group.factors" (defScope s_Group_factors_x) f cdv A outer s H E) (G, H) (defBody s_Group_factors_x) (T_Group_factors_x RX) :=
  (wss_cons (ws_if (wt_not (wt_truth (we_mR (TX.of hx) ME_Group_has_x hgd hr (we_v 0) (wa_cons (we_v 1) wa_nil)))) (wss_one (ws_raiseF rfl (TX.of hx) XF_NotThere hr we_non)) wss_nil)
    (wss_cons (ws_par (i := 2) (j := 3) rfl sc_Group_factors_x.nd rfl rfl (by decide) rfl rfl (wa_cons (we_lst wa_nil) (wa_cons (we_v 1) wa_nil)) (by rfl))
    (wss_cons (ws_for (passes_of rfl) rfl (wi_seq (we_m0 ME_Group_told_chain hgd hr (we_v 0))) (wg_n 4 sc_Group_factors_x.nd) (wss_cons (ws_s 5 sc_Group_factors_x.nd (we_h D_led hgd hr (wa_cons (we_v 3) (wa_cons (we_fld Cn_Floor NA_Floor_letter (we_v 4)) wa_nil))))
    (wss_cons (ws_expr (we_mL (pe_bm PySem.F.plainAttrs_list PySem.F.slot_list_append PySem.F.type_list_append mt_appendW (we_v 2) (wa_cons (we_ix (hu1 hr) (we_fld Cn_Floor NA_Floor_ways (we_v 4)) (we_v 5)) wa_nil))))
    (wss_one (ws_s 3 sc_Group_factors_x.nd (we_h D_composed hgd hr (wa_cons (we_v 3) (wa_cons (we_ix (hu1 hr) (we_fld Cn_Floor NA_Floor_returns (we_v 4)) (we_v 5)) wa_nil))))))))
    (wss_one (ws_ret (we_rev (we_v 2)))))))
theorem ok_Group_factors_x (ME_Group_has_x : MethD P w K mg base (L2.CX P w) 4 "Group" "has" ["self", "thing"] [] P_Group_has_x) (XF_NotThere : ExcF P w K mg base "NotThere" "at") (ME_Group_told_chain : MethD P w K mg base CX0 1 "Group" "told_chain" ["self"] [] P_Group_told_chain) (D_led : DfG P w K mg base CX0 1 "led" ["turn", "letter"] [] P_led) (Cn_Floor : ClsD K mg "Floor") (NA_Floor_letter : NoA K "Floor" "letter") (NA_Floor_ways : NoA K "Floor" "ways") (D_composed : DfG P w K mg base CX0 2 "composed" ["one", "other"] [] P_composed) (NA_Floor_returns : NoA K "Floor" "returns") {f : Addr} {fd : FuncData} (F : Fun K "factors" "Group.factors" s_Group_factors_x f fd) : FnG P w K mg base (L2.CX P w) 5 f fd ["self", "turn"] (spL K P_Group_factors_x) :=
  okFX F sc_Group_factors_x len_Group_factors_x fun cdv A outer s H E ws G R RX hgd hr hx h => ⟨T_Group_factors_x RX, dv_Group_factors_x ME_Group_has_x XF_NotThere ME_Group_told_chain D_led Cn_Floor NA_Floor_letter NA_Floor_ways D_composed NA_Floor_returns hgd hr hx, rd_Group_factors_x ws G R RX h⟩
abbrev s__law_mixed : Stmt := topS 43
theorem sc__law_mixed : FnScope N__law_mixed ["cell", "k"] (defScope s__law_mixed) := ⟨rfl, rfl, rfl, by decide +kernel, rfl, by decide +kernel, by decide +kernel⟩
theorem dv__law_mixed  {f : Addr} {cdv : Value} {A : Around} {outer : List Env} {s : Shared} {H : Hp} {E : XK} {G : GH} (hgd : A.guards = some []) (hr : Room 0 (A.deeper (envOfC "_law_mixed" (defScope s__law_mixed) s.heap.objs.size f cdv))) :
    WSs (cxOf CX0 P w K mg base N__law_mixed "_law_mixed" (defScope s__law_mixed) f cdv A outer s H E).nox (G, H) (defBody s__law_mixed) T__law_mixed :=
  (wss_cons (ws_s 2 sc__law_mixed.nd (we_op op_modW (we_op op_powW (we_op op_modW (we_op op_mulWW (we_op op_addW (we_op op_addW (we_op op_modW (we_v 0) we_int) (we_op op_mulWW we_int (we_v 1))) we_int) we_int) we_int) we_int) we_int))
    (wss_cons (ws_if (wt_cmp (op_ltW (hu0 hr)) (we_v 0) (we_op op_powW we_int we_int) (nomark _)) (wss_one (ws_ret (we_v 2))) wss_nil)
    (wss_one (ws_ret (we_op op_modW (we_op op_addW (we_v 2) (we_op op_modW (we_op op_fdivWW (we_v 0) (we_op op_powW we_int we_int)) (we_op op_addW we_int (we_op op_mulWW (we_op op_addW (we_v 1) we_int) we_int)))) we_int)))))
theorem ok__law_mixed  {f : Addr} {fd : FuncData} (F : Fun K "_law_mixed" "_law_mixed" s__law_mixed f fd) : FnG P w K mg base CX0 1 f fd ["cell", "k"] (spL K P__law_mixed) :=
  okF F sc__law_mixed len__law_mixed fun cdv A outer s H E ws G R RX hgd hr h => ⟨T__law_mixed, dv__law_mixed  hgd hr, rd__law_mixed ws G R RX h⟩
abbrev s__law_next : Stmt := topS 44
theorem sc__law_next : FnScope N__law_next ["draw", "size"] (defScope s__law_next) := ⟨rfl, rfl, rfl, by decide +kernel, rfl, by decide +kernel, by decide +kernel⟩
theorem dv__law_next (z_len : mg "len" = none) (z_max : mg "max" = none) (D__law_mixed : DfG P w K mg base CX0 1 "_law_mixed" ["cell", "k"] [] P__law_mixed) {f : Addr} {cdv : Value} {A : Around} {outer : List Env} {s : Shared} {H : Hp} {E : XK} {G : GH} (hgd : A.guards = some []) (hr : Room 1 (A.deeper (envOfC "_law_next" (defScope s__law_next) s.heap.objs.size f cdv))) :
    WSs (cxOf CX0 P w K mg base N__law_next "_law_next" (defScope s__law_next) f cdv A outer s H E).nox (G, H) (defBody s__law_next) T__law_next :=
  (wss_cons (ws_s 2 sc__law_next.nd (we_ix (hu1 hr) (we_v 0) we_int))
    (wss_cons (ws_asg (we_op op_addW (we_v 2) we_int) (wg_sub (we_v 0) we_int (set_Q (hu1 hr))))
    (wss_cons (ws_s 3 sc__law_next.nd (we_cb (call_max2W rfl) (by rfl) z_max bt_max (wa_cons we_int (wa_cons (we_cb call_lenQ (by rfl) z_len bt_len (wa_cons (we_ix (hu1 hr) (we_v 0) we_int) wa_nil)) wa_nil))))
    (wss_cons (ws_s 4 sc__law_next.nd we_int)
    (wss_cons (ws_if (wt_cmp (op_neQ (hu64 hr)) (we_ix (hu1 hr) (we_v 0) we_int) (we_fz (we_lst wa_nil)) (nomark _)) (wss_one (ws_s 4 sc__law_next.nd (we_ix (hu1 hr) (we_ix (hu1 hr) (we_v 0) we_int) (we_op op_modW (we_v 2) (we_v 3))))) wss_nil)
    (wss_one (ws_ret (we_op op_modW (we_op op_fdivWW (we_h D__law_mixed hgd hr (wa_cons (we_v 4) (wa_cons (we_op op_modW (we_op op_fdivWW (we_v 2) (we_v 3)) we_int) wa_nil))) we_int) (we_v 1)))))))))
theorem ok__law_next (z_len : mg "len" = none) (z_max : mg "max" = none) (D__law_mixed : DfG P w K mg base CX0 1 "_law_mixed" ["cell", "k"] [] P__law_mixed) {f : Addr} {fd : FuncData} (F : Fun K "_law_next" "_law_next" s__law_next f fd) : FnG P w K mg base CX0 2 f fd ["draw", "size"] (spL K P__law_next) :=
  okF F sc__law_next len__law_next fun cdv A outer s H E ws G R RX hgd hr h => ⟨T__law_next, dv__law_next z_len z_max D__law_mixed hgd hr, rd__law_next ws G R RX h⟩
abbrev s__law_goes : Stmt := topS 45
theorem sc__law_goes : FnScope N__law_goes ["turn", "letter"] (defScope s__law_goes) := ⟨rfl, rfl, rfl, by decide +kernel, rfl, by decide +kernel, by decide +kernel⟩
theorem dv__law_goes  {f : Addr} {cdv : Value} {A : Around} {outer : List Env} {s : Shared} {H : Hp} {E : XK} {G : GH} (hgd : A.guards = some []) (hr : Room 0 (A.deeper (envOfC "_law_goes" (defScope s__law_goes) s.heap.objs.size f cdv))) :
    WSs (cxOf CX0 P w K mg base N__law_goes "_law_goes" (defScope s__law_goes) f cdv A outer s H E).nox (G, H) (defBody s__law_goes) T__law_goes :=
  (wss_one (ws_ret (we_if (wt_cmp op_gtW (we_v 1) we_int (nomark _)) (we_ix (hu1 hr) (we_v 0) (we_op op_subW (we_v 1) we_int)) (we_neg (we_ix (hu1 hr) (we_v 0) (we_op op_subW (we_neg (we_v 1)) we_int))))))
theorem ok__law_goes  {f : Addr} {fd : FuncData} (F : Fun K "_law_goes" "_law_goes" s__law_goes f fd) : FnG P w K mg base CX0 1 f fd ["turn", "letter"] (spL K P__law_goes) :=
  okF F sc__law_goes len__law_goes fun cdv A outer s H E ws G R RX hgd hr h => ⟨T__law_goes, dv__law_goes  hgd hr, rd__law_goes ws G R RX h⟩
abbrev s__law_joined : Stmt := topS 46
theorem sc__law_joined : FnScope N__law_joined ["one", "other"] (defScope s__law_joined) := ⟨rfl, rfl, rfl, by decide +kernel, rfl, by decide +kernel, by decide +kernel⟩
theorem dv__law_joined (D__law_goes : DfG P w K mg base CX0 1 "_law_goes" ["turn", "letter"] [] P__law_goes) (z_tuple : mg "tuple" = none) {f : Addr} {cdv : Value} {A : Around} {outer : List Env} {s : Shared} {H : Hp} {E : XK} {G : GH} (hgd : A.guards = some []) (hr : Room 1 (A.deeper (envOfC "_law_joined" (defScope s__law_joined) s.heap.objs.size f cdv))) :
    WSs (cxOf CX0 P w K mg base N__law_joined "_law_joined" (defScope s__law_joined) f cdv A outer s H E).nox (G, H) (defBody s__law_joined) T__law_joined :=
  (wss_one (ws_ret (we_ctC (own := [("letter", 2)]) tmp_tuple (by rfl) z_tuple bt_tuple rfl sc__law_joined.nd (wi_seq (we_v 0)) (blkOk_by (own := [("letter", 2)]) (N := N__law_joined) (sc := defScope s__law_joined) (by decide +kernel)) (gok_name (by decide)) (fun _ _ _ _ _ => pg_n 2 sc__law_joined.nd) (fun _ _ _ _ _ => wts_nil) (fun _ _ _ _ _ => (we_h D__law_goes hgd hr (wa_cons (we_v 1) (wa_cons (we_v 2) wa_nil)))))))
theorem ok__law_joined (D__law_goes : DfG P w K mg base CX0 1 "_law_goes" ["turn", "letter"] [] P__law_goes) (z_tuple : mg "tuple" = none) {f : Addr} {fd : FuncData} (F : Fun K "_law_joined" "_law_joined" s__law_joined f fd) : FnG P w K mg base CX0 2 f fd ["one", "other"] (spL K P__law_joined) :=
  okF F sc__law_joined len__law_joined fun cdv A outer s H E ws G R RX hgd hr h => ⟨T__law_joined, dv__law_joined D__law_goes z_tuple hgd hr, rd__law_joined ws G R RX h⟩
abbrev s__law_turn : Stmt := topS 47
theorem sc__law_turn : FnScope N__law_turn ["draw", "many"] (defScope s__law_turn) := ⟨rfl, rfl, rfl, by decide +kernel, rfl, by decide +kernel, by decide +kernel⟩
theorem dv__law_turn (D__law_next : DfG P w K mg base CX0 2 "_law_next" ["draw", "size"] [] P__law_next) (z_list : mg "list" = none) (z_range : mg "range" = none) (z_len : mg "len" = none) (z_tuple : mg "tuple" = none) {f : Addr} {cdv : Value} {A : Around} {outer : List Env} {s : Shared} {H : Hp} {E : XK} {G : GH} (hgd : A.guards = some []) (hr : Room 2 (A.deeper (envOfC "_law_turn" (defScope s__law_turn) s.heap.objs.size f cdv))) :
    WSs (cxOf CX0 P w K mg base N__law_turn "_law_turn" (defScope s__law_turn) f cdv A outer s H E).nox (G, H) (defBody s__law_turn) T__law_turn :=
  (wss_cons (ws_par3 (i := 2) (j := 3) (l := 4) rfl sc__law_turn.nd rfl rfl rfl (by decide) (by decide) (by decide) rfl rfl rfl (wa_cons (we_h D__law_next hgd hr (wa_cons (we_v 0) (wa_cons we_int wa_nil))) (wa_cons (we_h D__law_next hgd hr (wa_cons (we_v 0) (wa_cons (we_v 1) wa_nil))) (wa_cons (we_h D__law_next hgd hr (wa_cons (we_v 0) (wa_cons (we_v 1) wa_nil))) wa_nil))) (by rfl))
    (wss_cons (ws_s 5 sc__law_turn.nd (we_listRg rfl (by rfl) z_list (prgW_2 (by rfl) z_range we_int (we_op op_addW (we_v 1) we_int))))
    (wss_cons (ws_if (wt_cmp (op_eqQ (hu64 hr)) (we_v 2) we_int (nomark _)) (wss_one (ws_asg (we_tup (wa_cons (we_ix (hu1 hr) (we_v 5) (we_v 4)) (wa_cons (we_ix (hu1 hr) (we_v 5) (we_v 3)) wa_nil))) (wg_unp rfl (wgs_cons (wg_sub (we_v 5) (we_v 3) (set_Q (hu1 hr))) (wgs_cons (wg_sub (we_v 5) (we_v 4) (set_Q (hu1 hr))) wgs_nil))))) (wss_one (ws_if (wt_cmp (op_eqQ (hu64 hr)) (we_v 2) we_int (nomark _)) (wss_one (ws_asg (we_neg (we_ix (hu1 hr) (we_v 5) (we_v 3))) (wg_sub (we_v 5) (we_v 3) (set_Q (hu1 hr))))) (wss_one (ws_if (wt_cmp (op_eqQ (hu64 hr)) (we_v 2) we_int (nomark _)) (wss_one (ws_asg (we_tup (wa_cons (we_neg (we_ix (hu1 hr) (we_v 5) (we_v 4))) (wa_cons (we_neg (we_ix (hu1 hr) (we_v 5) (we_v 3))) wa_nil))) (wg_unp rfl (wgs_cons (wg_sub (we_v 5) (we_v 3) (set_Q (hu1 hr))) (wgs_cons (wg_sub (we_v 5) (we_v 4) (set_Q (hu1 hr))) wgs_nil))))) (wss_one (ws_if (wt_cmp (op_eqQ (hu64 hr)) (we_v 2) we_int (nomark _)) (wss_one (ws_s 5 sc__law_turn.nd (we_op op_addW (we_fz (we_slice (we_v 5) (wo_some (we_v 3)) wo_none)) (we_fz (we_slice (we_v 5) wo_none (wo_some (we_v 3))))))) (wss_cons (ws_s 6 sc__law_turn.nd (we_ct (call_listDW rfl) (by rfl) z_list bt_list (wa_cons (we_v 5) wa_nil)))
    (wss_cons (ws_setC (i := 5) (own := [("k", 7)]) rfl sc__law_turn.nd rfl rfl (sw_true rfl rfl rfl (by decide +kernel)) (wi_range1 (by rfl) z_range (wa_cons (we_v 1) wa_nil)) (blkOk_by (own := [("k", 7)]) (N := N__law_turn) (sc := defScope s__law_turn) (by decide +kernel)) (gok_name (by decide)) (fun _ _ _ _ _ => pg_n 7 sc__law_turn.nd) (fun _ _ _ _ _ => wts_nil) (fun _ _ _ _ _ => (we_mL (pe_bm PySem.F.plainAttrs_list PySem.F.slot_list_pop PySem.F.type_list_pop mt_popW (we_v 6) (wa_cons (we_h D__law_next hgd hr (wa_cons (we_v 0) (wa_cons (we_cb call_lenQ (by rfl) z_len bt_len (wa_cons (we_v 6) wa_nil)) wa_nil))) wa_nil)))))
    (wss_one (ws_setC (i := 5) (own := [("truth", 8)]) rfl sc__law_turn.nd rfl rfl (sw_true rfl rfl rfl (by decide +kernel)) (wi_seq (we_v 5)) (blkOk_by (own := [("truth", 8)]) (N := N__law_turn) (sc := defScope s__law_turn) (by decide +kernel)) (gok_name (by decide)) (fun _ _ _ _ _ => pg_n 8 sc__law_turn.nd) (fun _ _ _ _ _ => wts_nil) (fun _ _ _ _ _ => (we_ix (hu1 hr) (we_fz (we_lst (wa_cons (we_v 8) (wa_cons (we_neg (we_v 8)) wa_nil)))) (we_h D__law_next hgd hr (wa_cons (we_v 0) (wa_cons we_int wa_nil))))))))))))))))
    (wss_one (ws_ret (we_ct call_tupW (by rfl) z_tuple bt_tuple (wa_cons (we_v 5) wa_nil)))))))
theorem ok__law_turn (D__law_next : DfG P w K mg base CX0 2 "_law_next" ["draw", "size"] [] P__law_next) (z_list : mg "list" = none) (z_range : mg "range" = none) (z_len : mg "len" = none) (z_tuple : mg "tuple" = none) {f : Addr} {fd : FuncData} (F : Fun K "_law_turn" "_law_turn" s__law_turn f fd) : FnG P w K mg base CX0 3 f fd ["draw", "many"] (spL K P__law_turn) :=
  okF F sc__law_turn len__law_turn fun cdv A outer s H E ws G R RX hgd hr h => ⟨T__law_turn, dv__law_turn D__law_next z_list z_range z_len z_tuple hgd hr, rd__law_turn ws G R RX h⟩
abbrev N__law_products : List Str := ["many", "makers", "bound", "found", "seen", "at", "maker", "turn"]
abbrev s__law_products : Stmt := topS 48
theorem sc__law_products : FnScope N__law_products ["many", "makers", "bound"] (defScope s__law_products) := ⟨rfl, rfl, rfl, by decide +kernel, rfl, by decide +kernel, by decide +kernel⟩
theorem dv__law_products (z_tuple : mg "tuple" = none) (z_range : mg "range" = none) (z_len : mg "len" = none) (D__law_joined : DfG P w K mg base CX0 2 "_law_joined" ["one", "other"] [] P__law_joined) (z_sorted : mg "sorted" = none) {f : Addr} {cdv : Value} {A : Around} {outer : List Env} {s : Shared} {H : Hp} {E : XK} {G : GH} (hgd : A.guards = some []) (hr : Room 2 (A.deeper (envOfC "_law_products" (defScope s__law_products) s.heap.objs.size f cdv))) :
    WSs (cxOf CX0 P w K mg base N__law_products "_law_products" (defScope s__law_products) f cdv A outer s H E).nox (G, H) (defBody s__law_products) T__law_products :=
  (wss_cons (ws_s 3 sc__law_products.nd (we_lst (wa_cons (we_tupleRg rfl (by rfl) z_tuple (prgW_2 (by rfl) z_range we_int (we_op op_addW (we_v 0) we_int))) wa_nil)))
    (wss_cons (ws_s 4 sc__law_products.nd (we_dispT (hu0 hr) (we_ix (hu1 hr) (we_v 3) we_int) we_bl))
    (wss_cons (ws_s 5 sc__law_products.nd we_int)
    (wss_cons (ws_while PassesOwn.never (wp_t (wp_and (wt_cmp (op_ltW (hu0 hr)) (we_v 5) (we_cb call_lenQ (by rfl) z_len bt_len (wa_cons (we_v 3) wa_nil)) (nomark _)) (wp_and1 (wt_cmp op_leW (we_cb call_lenQ (by rfl) z_len bt_len (wa_cons (we_v 3) wa_nil)) (we_v 2) (nomark _))))) (wss_cons (ws_for PassesOwn.never rfl (wi_seq (we_v 1)) (wg_n 6 sc__law_products.nd) (wss_cons (ws_s 7 sc__law_products.nd (we_h D__law_joined hgd hr (wa_cons (we_ix (hu1 hr) (we_v 3) (we_v 5)) (wa_cons (we_v 6) wa_nil))))
    (wss_one (ws_if (wt_cmp (op_notinQ (hu65 hr)) (we_v 7) (we_v 4) (by rfl)) (wss_cons (ws_asg we_bl (wg_sub (we_v 4) (we_v 7) (set_Q (hu1 hr))))
    (wss_one (ws_expr (we_mL (pe_bm PySem.F.plainAttrs_list PySem.F.slot_list_append PySem.F.type_list_append mt_appendW (we_v 3) (wa_cons (we_v 7) wa_nil)))))) wss_nil))))
    (wss_one (ws_s 5 sc__law_products.nd (we_op op_addW (we_v 5) we_int)))))
    (wss_one (ws_ret (we_if (wt_cmp op_leW (we_cb call_lenQ (by rfl) z_len bt_len (wa_cons (we_v 3) wa_nil)) (we_v 2) (nomark _)) (we_fz (we_cb (call_sortedT rfl (hu20 hr)) (by rfl) z_sorted bt_sorted (wa_cons (we_v 3) wa_nil))) (we_fz (we_lst wa_nil)))))))))
theorem ok__law_products (z_tuple : mg "tuple" = none) (z_range : mg "range" = none) (z_len : mg "len" = none) (D__law_joined : DfG P w K mg base CX0 2 "_law_joined" ["one", "other"] [] P__law_joined) (z_sorted : mg "sorted" = none) {f : Addr} {fd : FuncData} (F : Fun K "_law_products" "_law_products" s__law_products f fd) : FnG P w K mg base CX0 3 f fd ["many", "makers", "bound"] (spL K P__law_products) :=
  okF F sc__law_products len__law_products fun cdv A outer s H E ws G R RX hgd hr h => ⟨T__law_products, dv__law_products z_tuple z_range z_len D__law_joined z_sorted hgd hr, rd__law_products ws G R RX h⟩
abbrev N__law_some : List Str := ["draw", "many", "makers", "k", "found"]
abbrev s__law_some : Stmt := topS 49
theorem sc__law_some : FnScope N__law_some ["draw"] (defScope s__law_some) := ⟨rfl, rfl, rfl, by decide +kernel, rfl, by decide +kernel, by decide +kernel⟩
theorem dv__law_some (D__law_next : DfG P w K mg base CX0 2 "_law_next" ["draw", "size"] [] P__law_next) (z_range : mg "range" = none) (D__law_turn : DfG P w K mg base CX0 3 "_law_turn" ["draw", "many"] [] P__law_turn) (D__law_products : DfG P w K mg base CX0 3 "_law_products" ["many", "makers", "bound"] [] P__law_products) {f : Addr} {cdv : Value} {A : Around} {outer : List Env} {s : Shared} {H : Hp} {E : XK} {G : GH} (hgd : A.guards = some []) (hr : Room 3 (A.deeper (envOfC "_law_some" (defScope s__law_some) s.heap.objs.size f cdv))) :
    WSs (cxOf CX0 P w K mg base N__law_some "_law_some" (defScope s__law_some) f cdv A outer s H E).nox (G, H) (defBody s__law_some) T__law_some :=
  (wss_cons (ws_s 1 sc__law_some.nd (we_op op_addW we_int (we_h D__law_next hgd hr (wa_cons (we_v 0) (wa_cons (we_ix (hu1 hr) (we_fz (we_lst (wa_cons we_int (wa_cons we_int (wa_cons we_int (wa_cons we_int wa_nil)))))) (we_h D__law_next hgd hr (wa_cons (we_v 0) (wa_cons we_int wa_nil)))) wa_nil)))))
    (wss_cons (ws_setCF (i := 2) (own := [("k", 3)]) rfl sc__law_some.nd rfl rfl (sw_true rfl rfl rfl (by decide +kernel)) (wi_range1 (by rfl) z_range (wa_cons (we_h D__law_next hgd hr (wa_cons (we_v 0) (wa_cons we_int wa_nil))) wa_nil)) (blkOk_by (own := [("k", 3)]) (N := N__law_some) (sc := defScope s__law_some) (by decide +kernel)) (gok_name (by decide)) (fun _ _ _ _ _ => pg_n 3 sc__law_some.nd) (fun _ _ _ _ _ => wts_nil) (fun _ _ _ _ _ => (we_h D__law_turn hgd hr (wa_cons (we_v 0) (wa_cons (we_v 1) wa_nil)))))
    (wss_cons (ws_s 4 sc__law_some.nd (we_h D__law_products hgd hr (wa_cons (we_v 1) (wa_cons (we_v 2) (wa_cons we_int wa_nil)))))
    (wss_cons (ws_if (wt_cmp (op_eqQ (hu64 hr)) (we_v 4) (we_fz (we_lst wa_nil)) (nomark _)) (wss_cons (ws_s 2 sc__law_some.nd (we_fz (we_slice (we_v 2) wo_none (wo_some we_int))))
    (wss_one (ws_s 4 sc__law_some.nd (we_h D__law_products hgd hr (wa_cons (we_v 1) (wa_cons (we_v 2) (wa_cons we_int wa_nil))))))) wss_nil)
    (wss_one (ws_ret (we_tup (wa_cons (we_v 1) (wa_cons (we_v 2) (wa_cons (we_v 4) wa_nil))))))))))
theorem ok__law_some (D__law_next : DfG P w K mg base CX0 2 "_law_next" ["draw", "size"] [] P__law_next) (z_range : mg "range" = none) (D__law_turn : DfG P w K mg base CX0 3 "_law_turn" ["draw", "many"] [] P__law_turn) (D__law_products : DfG P w K mg base CX0 3 "_law_products" ["many", "makers", "bound"] [] P__law_products) {f : Addr} {fd : FuncData} (F : Fun K "_law_some" "_law_some" s__law_some f fd) : FnG P w K mg base CX0 4 f fd ["draw"] (spL K P__law_some) :=
  okF F sc__law_some len__law_some fun cdv A outer s H E ws G R RX hgd hr h => ⟨T__law_some, dv__law_some D__law_next z_range D__law_turn D__law_products hgd hr, rd__law_some ws G R RX h⟩
abbrev N__law_word : List Str := ["e", "found", "words"]
structure P__law_word (ws : List W) (G : GH) (R : KW) (RX : XW) : Prop where
  ex : ∃ (fs : List (Str × W)), ws = [.ex "NotThere" fs] ∧ (R (.str "there") G)
theorem len__law_word : ∀ ws G R RX, P__law_word ws G R RX → ws.length = ["e"].length := by
  rintro ws G R RX ⟨⟨_, rfl, _⟩⟩; rfl
theorem p__law_word {fs : List (Str × W)} {G : GH} {R : KW} {RX : XW}  (q : R (.str "there") G) : P__law_word [.ex "NotThere" fs] G R RX := ⟨fs, rfl, q⟩
def T__law_word : TWS :=
  (sSeq (sSet 1 (tFz (tLstW (tCo (tIsX ["NoProblem"] ["NoTurn", "TooMany", "NoLetter", "NotThere"] (tV 0)) (tCo (tIsX [] ["NoProblem", "NoTurn", "TooMany", "NoLetter", "NotThere"] (tV 0)) (tCo (tIsX ["TooMany"] ["NoProblem", "NoTurn", "NoLetter", "NotThere"] (tV 0)) (tCo (tIsX [] ["NoProblem", "NoTurn", "TooMany", "NoLetter", "NotThere"] (tV 0)) tN)))))))
    (sSeq (sSet 1 (tFz (tOpW addW (tV 1) (tFz (tLstW (tCo (tIsX ["NoTurn"] ["NoProblem", "TooMany", "NoLetter", "NotThere"] (tV 0)) (tCo (tIsX ["NoLetter"] ["NoProblem", "NoTurn", "TooMany", "NotThere"] (tV 0)) (tCo (tIsX ["NotThere"] ["NoProblem", "NoTurn", "TooMany", "NoLetter"] (tV 0)) (tCo (tIsX [] ["NoProblem", "NoTurn", "TooMany", "NoLetter", "NotThere"] (tV 0)) tN)))))))))
    (sSeq (sSet 1 (tFz (tOpW addW (tV 1) (tFz (tLstW (tCo (tIsX [] ["NoProblem", "NoTurn", "TooMany", "NoLetter", "NotThere"] (tV 0)) (tCo (tIsX [] ["NoProblem", "NoTurn", "TooMany", "NoLetter", "NotThere"] (tV 0)) (tCo (tIsX [] ["NoProblem", "NoTurn", "TooMany", "NoLetter", "NotThere"] (tV 0)) (tCo (tIsX [] ["NoProblem", "NoTurn", "TooMany", "NoLetter", "NotThere"] (tV 0)) tN)))))))))
    (sSeq (sSet 1 (tFz (tOpW addW (tV 1) (tFz (tLstW (tCo (tIsX [] ["NoProblem", "NoTurn", "TooMany", "NoLetter", "NotThere"] (tV 0)) (tCo (tIsX [] ["NoProblem", "NoTurn", "TooMany", "NoLetter", "NotThere"] (tV 0)) (tCo (tIsX [] ["NoProblem", "NoTurn", "TooMany", "NoLetter", "NotThere"] (tV 0)) tN))))))))
    (sSeq (sSet 2 (tFz (tLstW (tCo (tK (.str "problem")) (tCo (tK (.str "clause")) (tCo (tK (.str "many")) (tCo (tK (.str "text")) (tCo (tK (.str "turn")) (tCo (tK (.str "letter")) (tCo (tK (.str "there")) (tCo (tK (.str "step")) (tCo (tK (.str "log")) (tCo (tK (.str "way")) (tCo (tK (.str "part")) (tCo (tK (.str "answer")) tN)))))))))))))))
    (sSeq (sSet 2 (tFz (tOpW addW (tV 2) (tFz (tLstW (tCo (tK (.str "ask")) (tCo (tK (.str "twice")) (tCo (tK (.str "deed")) tN))))))))
    (sSeq (sIf (tOrW (tTestW (tOpW (eqQ true) (tMetL countB (tV 1) (tCo (tK (.bl true)) tN)) (tK (.int 1)))) (tNotW (tTruW (tIsX ["NoProblem", "NoTurn", "TooMany", "NoLetter", "NotThere"] [] (tV 0))))) (sRet (tK (.str "other"))) sNext)
    (sRet (tOpW ixW (tV 2) (tMetL indexB (tV 1) (tCo (tK (.bl true)) tN)))))))))))
theorem rd__law_word (ws : List W) (G : GH) (R : KW) (RX : XW) (h : P__law_word ws G R RX) : T__law_word { nx := fun _ G' => fgt R .non G', rt := fgt R } (startW N__law_word ws) G := by
  obtain ⟨fs, rfl, q⟩ := h
  (try conv => whnf); (repeat (first | (refine Exists.intro _ (And.intro rfl ?_); conv => whnf) | (refine And.intro rfl ?_; conv => whnf) | (refine frz_lst ?_; conv => whnf) | (refine frz_dK ?_; conv => whnf) | (refine frz_dT ?_; conv => whnf) | (refine And.intro trivial ?_; conv => whnf) | (refine And.intro recL_upd ?_; conv => whnf) | (refine And.intro (Nat.le_of_ble_eq_true rfl) ?_; conv => whnf) | (refine And.intro (by (try simp only [List.length_cons, List.length_nil, List.length_map, List.length_append, List.length_drop, List.length_take, sizeLine_eq]); omega) ?_; conv => whnf)))
  refine ⟨[false, false, false, false, false, false, true, false, false, false, false, false, false, false, false], rfl, ?_⟩
  (try conv => whnf); (repeat (first | (refine Exists.intro _ (And.intro rfl ?_); conv => whnf) | (refine And.intro rfl ?_; conv => whnf) | (refine frz_lst ?_; conv => whnf) | (refine frz_dK ?_; conv => whnf) | (refine frz_dT ?_; conv => whnf) | (refine And.intro trivial ?_; conv => whnf) | (refine And.intro recL_upd ?_; conv => whnf) | (refine And.intro (Nat.le_of_ble_eq_true rfl) ?_; conv => whnf) | (refine And.intro (by (try simp only [List.length_cons, List.length_nil, List.length_map, List.length_append, List.length_drop, List.length_take, sizeLine_eq]); omega) ?_; conv => whnf)))
  refine ⟨[false, false, false, false, false, false, true, false, false, false, false, false, false, false, false], 6, rfl, rfl, by decide, ?_⟩
  conv => whnf
  refine ⟨.str "there", rfl, ?_⟩
  exact ret q
abbrev s__law_word : Stmt := topS 50
theorem sc__law_word : FnScope N__law_word ["e"] (defScope s__law_word) := ⟨rfl, rfl, rfl, by decide +kernel, rfl, by decide +kernel, by decide +kernel⟩
theorem dv__law_word (XC_NoText : XcD K mg "NoText" [] ["NoProblem", "NoTurn", "TooMany", "NoLetter", "NotThere"]) (z_isinstance : mg "isinstance" = none) (XC_TooMany : XcD K mg "TooMany" ["TooMany"] ["NoProblem", "NoTurn", "NoLetter", "NotThere"]) (XC_NoClause : XcD K mg "NoClause" [] ["NoProblem", "NoTurn", "TooMany", "NoLetter", "NotThere"]) (XC_NoProblem : XcD K mg "NoProblem" ["NoProblem"] ["NoTurn", "TooMany", "NoLetter", "NotThere"]) (XC_NoStep : XcD K mg "NoStep" [] ["NoProblem", "NoTurn", "TooMany", "NoLetter", "NotThere"]) (XC_NotThere : XcD K mg "NotThere" ["NotThere"] ["NoProblem", "NoTurn", "TooMany", "NoLetter"]) (XC_NoLetter : XcD K mg "NoLetter" ["NoLetter"] ["NoProblem", "NoTurn", "TooMany", "NotThere"]) (XC_NoTurn : XcD K mg "NoTurn" ["NoTurn"] ["NoProblem", "TooMany", "NoLetter", "NotThere"]) (XC_NoAnswer : XcD K mg "NoAnswer" [] ["NoProblem", "NoTurn", "TooMany", "NoLetter", "NotThere"]) (XC_NoPart : XcD K mg "NoPart" [] ["NoProblem", "NoTurn", "TooMany", "NoLetter", "NotThere"]) (XC_NoWay : XcD K mg "NoWay" [] ["NoProblem", "NoTurn", "TooMany", "NoLetter", "NotThere"]) (XC_NoLog : XcD K mg "NoLog" [] ["NoProblem", "NoTurn", "TooMany", "NoLetter", "NotThere"]) (XC_NoDeed : XcD K mg "NoDeed" [] ["NoProblem", "NoTurn", "TooMany", "NoLetter", "NotThere"]) (XC_Twice : XcD K mg "Twice" [] ["NoProblem", "NoTurn", "TooMany", "NoLetter", "NotThere"]) (XC_NoAsk : XcD K mg "NoAsk" [] ["NoProblem", "NoTurn", "TooMany", "NoLetter", "NotThere"]) (XB_ValueError : XbD K "ValueError" ["NoProblem", "NoTurn", "TooMany", "NoLetter", "NotThere"]) (z_ValueError : mg "ValueError" = none) {f : Addr} {cdv : Value} {A : Around} {outer : List Env} {s : Shared} {H : Hp} {E : XK} {G : GH} (hgd : A.guards = some []) (hr : Room 2 (A.deeper (envOfC "_law_word" (defScope s__law_word) s.heap.objs.size f cdv))) :
    WSs (cxOf CX0 P w K mg base N__law_word "_law_word" (defScope s__law_word) f cdv A outer s H E).nox (G, H) (defBody s__law_word) T__law_word :=
  (wss_cons (ws_s 1 sc__law_word.nd (we_fz (we_lst (wa_cons (we_isX XC_NoProblem (by rfl) z_isinstance bt_isinstance (we_v 0)) (wa_cons (we_isX XC_NoClause (by rfl) z_isinstance bt_isinstance (we_v 0)) (wa_cons (we_isX XC_TooMany (by rfl) z_isinstance bt_isinstance (we_v 0)) (wa_cons (we_isX XC_NoText (by rfl) z_isinstance bt_isinstance (we_v 0)) wa_nil)))))))
    (wss_cons (ws_s 1 sc__law_word.nd (we_fz (we_op op_addW (we_v 1) (we_fz (we_lst (wa_cons (we_isX XC_NoTurn (by rfl) z_isinstance bt_isinstance (we_v 0)) (wa_cons (we_isX XC_NoLetter (by rfl) z_isinstance bt_isinstance (we_v 0)) (wa_cons (we_isX XC_NotThere (by rfl) z_isinstance bt_isinstance (we_v 0)) (wa_cons (we_isX XC_NoStep (by rfl) z_isinstance bt_isinstance (we_v 0)) wa_nil)))))))))
    (wss_cons (ws_s 1 sc__law_word.nd (we_fz (we_op op_addW (we_v 1) (we_fz (we_lst (wa_cons (we_isX XC_NoLog (by rfl) z_isinstance bt_isinstance (we_v 0)) (wa_cons (we_isX XC_NoWay (by rfl) z_isinstance bt_isinstance (we_v 0)) (wa_cons (we_isX XC_NoPart (by rfl) z_isinstance bt_isinstance (we_v 0)) (wa_cons (we_isX XC_NoAnswer (by rfl) z_isinstance bt_isinstance (we_v 0)) wa_nil)))))))))
    (wss_cons (ws_s 1 sc__law_word.nd (we_fz (we_op op_addW (we_v 1) (we_fz (we_lst (wa_cons (we_isX XC_NoAsk (by rfl) z_isinstance bt_isinstance (we_v 0)) (wa_cons (we_isX XC_Twice (by rfl) z_isinstance bt_isinstance (we_v 0)) (wa_cons (we_isX XC_NoDeed (by rfl) z_isinstance bt_isinstance (we_v 0)) wa_nil))))))))
    (wss_cons (ws_s 2 sc__law_word.nd (we_fz (we_lst (wa_cons we_str (wa_cons we_str (wa_cons we_str (wa_cons we_str (wa_cons we_str (wa_cons we_str (wa_cons we_str (wa_cons we_str (wa_cons we_str (wa_cons we_str (wa_cons we_str (wa_cons we_str wa_nil)))))))))))))))
    (wss_cons (ws_s 2 sc__law_word.nd (we_fz (we_op op_addW (we_v 2) (we_fz (we_lst (wa_cons we_str (wa_cons we_str (wa_cons we_str wa_nil))))))))
    (wss_cons (ws_if (wp_t (wp_or (wt_cmp (op_neQ (hu64 hr)) (we_mL (pe_bm PySem.F.plainAttrs_list PySem.F.slot_list_count PySem.F.type_list_count mt_countB (we_v 1) (wa_cons we_bl wa_nil))) we_int (nomark _)) (wp_or1 (wt_not (wt_truth (we_isXb XB_ValueError (by rfl) z_isinstance bt_isinstance z_ValueError bt_ValueError (we_v 0))))))) (wss_one (ws_ret we_str)) wss_nil)
    (wss_one (ws_ret (we_ix (hu1 hr) (we_v 2) (we_mL (pe_bm PySem.F.plainAttrs_list PySem.F.slot_list_index PySem.F.type_list_index mt_indexB (we_v 1) (wa_cons we_bl wa_nil)))))))))))))
theorem ok__law_word (XC_NoText : XcD K mg "NoText" [] ["NoProblem", "NoTurn", "TooMany", "NoLetter", "NotThere"]) (z_isinstance : mg "isinstance" = none) (XC_TooMany : XcD K mg "TooMany" ["TooMany"] ["NoProblem", "NoTurn", "NoLetter", "NotThere"]) (XC_NoClause : XcD K mg "NoClause" [] ["NoProblem", "NoTurn", "TooMany", "NoLetter", "NotThere"]) (XC_NoProblem : XcD K mg "NoProblem" ["NoProblem"] ["NoTurn", "TooMany", "NoLetter", "NotThere"]) (XC_NoStep : XcD K mg "NoStep" [] ["NoProblem", "NoTurn", "TooMany", "NoLetter", "NotThere"]) (XC_NotThere : XcD K mg "NotThere" ["NotThere"] ["NoProblem", "NoTurn", "TooMany", "NoLetter"]) (XC_NoLetter : XcD K mg "NoLetter" ["NoLetter"] ["NoProblem", "NoTurn", "TooMany", "NotThere"]) (XC_NoTurn : XcD K mg "NoTurn" ["NoTurn"] ["NoProblem", "TooMany", "NoLetter", "NotThere"]) (XC_NoAnswer : XcD K mg "NoAnswer" [] ["NoProblem", "NoTurn", "TooMany", "NoLetter", "NotThere"]) (XC_NoPart : XcD K mg "NoPart" [] ["NoProblem", "NoTurn", "TooMany", "NoLetter", "NotThere"]) (XC_NoWay : XcD K mg "NoWay" [] ["NoProblem", "NoTurn", "TooMany", "NoLetter", "NotThere"]) (XC_NoLog : XcD K mg "NoLog" [] ["NoProblem", "NoTurn", "TooMany", "NoLetter", "NotThere"]) (XC_NoDeed : XcD K mg "NoDeed" [] ["NoProblem", "NoTurn", "TooMany", "NoLetter", "NotThere"]) (XC_Twice : XcD K mg "Twice" [] ["NoProblem", "NoTurn", "TooMany", "NoLetter", "NotThere"]) (XC_NoAsk : XcD K mg "NoAsk" [] ["NoProblem", "NoTurn", "TooMany", "NoLetter", "NotThere"]) (XB_ValueError : XbD K "ValueError" ["NoProblem", "NoTurn", "TooMany", "NoLetter", "NotThere"]) (z_ValueError : mg "ValueError" = none) {f : Addr} {fd : FuncData} (F : Fun K "_law_word" "_law_word" s__law_word f fd) : FnG P w K mg base CX0 3 f fd ["e"] (spL K P__law_word) :=
  okF F sc__law_word len__law_word fun cdv A outer s H E ws G R RX hgd hr h => ⟨T__law_word, dv__law_word XC_NoText z_isinstance XC_TooMany XC_NoClause XC_NoProblem XC_NoStep XC_NotThere XC_NoLetter XC_NoTurn XC_NoAnswer XC_NoPart XC_NoWay XC_NoLog XC_NoDeed XC_Twice XC_NoAsk XB_ValueError z_ValueError hgd hr, rd__law_word ws G R RX h⟩
abbrev s__law_base_drawn : Stmt := topS 51
theorem sc__law_base_drawn : FnScope N__law_base_drawn ["draw", "many"] (defScope s__law_base_drawn) := ⟨rfl, rfl, rfl, by decide +kernel, rfl, by decide +kernel, by decide +kernel⟩
theorem dv__law_base_drawn (z_list : mg "list" = none) (z_range : mg "range" = none) (D__law_next : DfG P w K mg base CX0 2 "_law_next" ["draw", "size"] [] P__law_next) (z_len : mg "len" = none) {f : Addr} {cdv : Value} {A : Around} {outer : List Env} {s : Shared} {H : Hp} {E : XK} {G : GH} (hgd : A.guards = some []) (hr : Room 2 (A.deeper (envOfC "_law_base_drawn" (defScope s__law_base_drawn) s.heap.objs.size f cdv))) :
    WSs (cxOf CX0 P w K mg base N__law_base_drawn "_law_base_drawn" (defScope s__law_base_drawn) f cdv A outer s H E).nox (G, H) (defBody s__law_base_drawn) T__law_base_drawn :=
  (wss_cons (ws_s 2 sc__law_base_drawn.nd (we_listRg rfl (by rfl) z_list (prgW_2 (by rfl) z_range we_int (we_op op_addW (we_v 1) we_int))))
    (wss_cons (ws_setCF (i := 3) (own := [("k", 4)]) rfl sc__law_base_drawn.nd rfl rfl (sw_true rfl rfl rfl (by decide +kernel)) (wi_range1 (by rfl) z_range (wa_cons (we_h D__law_next hgd hr (wa_cons (we_v 0) (wa_cons (we_op op_addW (we_v 1) we_int) wa_nil))) wa_nil)) (blkOk_by (own := [("k", 4)]) (N := N__law_base_drawn) (sc := defScope s__law_base_drawn) (by decide +kernel)) (gok_name (by decide)) (fun _ _ _ _ _ => pg_n 4 sc__law_base_drawn.nd) (fun _ _ _ _ _ => wts_nil) (fun _ _ _ _ _ => (we_mL (pe_bm PySem.F.plainAttrs_list PySem.F.slot_list_pop PySem.F.type_list_pop mt_popW (we_v 2) (wa_cons (we_h D__law_next hgd hr (wa_cons (we_v 0) (wa_cons (we_cb call_lenQ (by rfl) z_len bt_len (wa_cons (we_v 2) wa_nil)) wa_nil))) wa_nil)))))
    (wss_one (ws_ret (we_fz (we_comp (own := [("truth", 5)]) rfl sc__law_base_drawn.nd (wi_seq (we_v 3)) (blkOk_by (own := [("truth", 5)]) (N := N__law_base_drawn) (sc := defScope s__law_base_drawn) (by decide +kernel)) (gok_name (by decide)) (fun _ _ _ _ _ => pg_n 5 sc__law_base_drawn.nd) (fun _ _ _ _ _ => wts_nil) (fun _ _ _ _ _ => (we_ix (hu1 hr) (we_fz (we_lst (wa_cons (we_v 5) (wa_cons (we_neg (we_v 5)) wa_nil)))) (we_h D__law_next hgd hr (wa_cons (we_v 0) (wa_cons we_int wa_nil)))))))))))
theorem ok__law_base_drawn (z_list : mg "list" = none) (z_range : mg "range" = none) (D__law_next : DfG P w K mg base CX0 2 "_law_next" ["draw", "size"] [] P__law_next) (z_len : mg "len" = none) {f : Addr} {fd : FuncData} (F : Fun K "_law_base_drawn" "_law_base_drawn" s__law_base_drawn f fd) : FnG P w K mg base CX0 3 f fd ["draw", "many"] (spL K P__law_base_drawn) :=
  okF F sc__law_base_drawn len__law_base_drawn fun cdv A outer s H E ws G R RX hgd hr h => ⟨T__law_base_drawn, dv__law_base_drawn z_list z_range D__law_next z_len hgd hr, rd__law_base_drawn ws G R RX h⟩
abbrev N__law_thing : List Str := ["draw", "many", "found", "way", "at", "other", "turn", "near", "some"]
structure P__law_thing (ws : List W) (G : GH) (R : KW) (RX : XW) : Prop where
  ex : ∃ (ns : List Int) (d : Addr) (many : Int) (L : List (List Int)), ws = [.ref d, .int many, .fl (L.map cTup)] ∧ (1 ≤ many) ∧ (many ≤ 12) ∧ (∀ t ∈ L, TurnOf many t) ∧ (L ≠ []) ∧ (L.length ≤ 400) ∧ (Dr ns d G) ∧ (∀ (w : W) G', Thing w → Dr ns d G' → KeepG d G G' → R w G')
theorem len__law_thing : ∀ ws G R RX, P__law_thing ws G R RX → ws.length = ["draw", "many", "found"].length := by
  rintro ws G R RX ⟨⟨_, _, _, _, rfl, _, _, _, _, _, _, _⟩⟩; rfl
theorem p__law_thing {ns : List Int} {d : Addr} {many : Int} {L : List (List Int)} {G : GH} {R : KW} {RX : XW} (h0 : 1 ≤ many) (h12 : many ≤ 12) (hL : ∀ t ∈ L, TurnOf many t) (hne : L ≠ []) (hl : L.length ≤ 400) (D : Dr ns d G) (q : ∀ (w : W) G', Thing w → Dr ns d G' → KeepG d G G' → R w G') : P__law_thing [.ref d, .int many, .fl (L.map cTup)] G R RX := ⟨ns, d, many, L, rfl, h0, h12, hL, hne, hl, D, q⟩
def T__law_thing : TWS :=
  (sSeq (sPar3 3 4 5 (tCo (tCall0 P__law_next [] (tCo (tV 0) (tCo (tK (.int 6)) tN))) (tCo (tCall0 P__law_next [] (tCo (tV 0) (tCo (tV 1) tN))) (tCo (tCall0 P__law_next [] (tCo (tV 0) (tCo (tV 1) tN))) tN))))
    (sSeq (sSet 6 (tOpW ixW (tV 2) (tCall0 P__law_next [] (tCo (tV 0) (tCo (tCW lenQ (tCo (tV 2) tN)) tN)))))
    (sSeq (sSet 7 (tCW toListDW (tCo (tV 6) tN)))
    (sSeq (sIf (tTestW (tOpW ltW (tV 3) (tK (.int 2)))) (sRet (tV 6)) sNext)
    (sSeq (sIf (tTestW (tOpW (eqQ false) (tV 3) (tK (.int 2)))) (sRet (tCall0 P__law_turn [] (tCo (tV 0) (tCo (tV 1) tN)))) sNext)
    (sSeq (sIf (tTestW (tOpW (eqQ false) (tV 3) (tK (.int 3)))) (sSeq (sAsg (tTupW (tCo (tOpW ixW (tV 7) (tV 5)) (tCo (tOpW ixW (tV 7) (tV 4)) tN))) (gU 2 (gsC (gSubW (tV 7) (tV 4) setQ) (gsC (gSubW (tV 7) (tV 5) setQ) gsN))))
    (sRet (tCW toTupW (tCo (tV 7) tN)))) sNext)
    (sSeq (sIf (tTestW (tOpW (eqQ false) (tV 3) (tK (.int 4)))) (sSeq (sAsg (tNegW (tOpW ixW (tV 7) (tV 4))) (gSubW (tV 7) (tV 4) setQ))
    (sRet (tCW toTupW (tCo (tV 7) tN)))) sNext)
    (sSeq (sSet 8 (tFz (tLstW (tCo (tOpW addW (tV 6) (tTupW (tCo (tOpW addW (tV 1) (tK (.int 1))) tN))) (tCo (tFz (tSliceW (tV 6) tNoP (tP (tNegW (tK (.int 1)))))) (tCo (tFz (tCW toListDW (tCo (tV 6) tN))) (tCo (tK .non) (tCo (tTupW tN) (tCo (tK (.int 5)) (tCo (tK (.str "1")) (tCo (tFz (tOpW addW (tFz (tOpW addW (tFz (tSliceW (tV 6) tNoP (tP (tV 4)))) (tTupW (tCo (tK (.int 0)) tN)))) (tFz (tSliceW (tV 6) (tP (tOpW addW (tV 4) (tK (.int 1)))) tNoP)))) (tCo (tK (.bl true)) (tCo (tFz tDict0) tN)))))))))))))
    (sSeq (sSet 8 (tFz (tOpW addW (tV 8) (tFz (tLstW (tCo (tFz (tOpW addW (tFz (tOpW addW (tFz (tSliceW (tV 6) tNoP (tP (tV 4)))) (tTupW (tCo (tOpW addW (tV 1) (tK (.int 1))) tN)))) (tFz (tSliceW (tV 6) (tP (tOpW addW (tV 4) (tK (.int 1)))) tNoP)))) (tCo (tFz (tOpW addW (tFz (tOpW addW (tFz (tSliceW (tV 6) tNoP (tP (tV 4)))) (tTupW (tCo (tK (.bl true)) tN)))) (tFz (tSliceW (tV 6) (tP (tOpW addW (tV 4) (tK (.int 1)))) tNoP)))) (tCo (tFz (tLstW (tCo (tV 6) tN))) (tCo (tTupW (tCo (tV 6) tN)) tN)))))))))
    (sSeq (sSet 8 (tFz (tOpW addW (tV 8) (tFz (tLstW (tCo (tFz (tOpW addW (tFz (tOpW addW (tFz (tSliceW (tV 6) tNoP (tP (tV 4)))) (tTupW (tCo (tK (.str "1")) tN)))) (tFz (tSliceW (tV 6) (tP (tOpW addW (tV 4) (tK (.int 1)))) tNoP)))) (tCo (tFz (tOpW addW (tFz (tOpW addW (tFz (tSliceW (tV 6) tNoP (tP (tV 4)))) (tTupW (tCo (tK .non) tN)))) (tFz (tSliceW (tV 6) (tP (tOpW addW (tV 4) (tK (.int 1)))) tNoP)))) (tCo (tOpW mulT (tV 6) (tK (.int 2))) tN))))))))
    (sRet (tOpW ixW (tV 8) (tCall0 P__law_next [] (tCo (tV 0) (tCo (tCW lenQ (tCo (tV 8) tN)) tN)))))))))))))))
theorem rd__law_thing (ws : List W) (G : GH) (R : KW) (RX : XW) (h : P__law_thing ws G R RX) : T__law_thing { nx := fun _ G' => fgt R .non G', rt := fgt R } (startW N__law_thing ws) G := by
  obtain ⟨ns, d, many, L, rfl, h0, h12, hL, hne, hl, D, q⟩ := h
  conv => whnf
  refine p__law_next (show (0 : Int) < 6 by decide) D fun way G1 a0 a1 D1 k1 => ?_
  conv => whnf
  refine p__law_next (show (0 : Int) < many by omega) D1 fun at_ G2 b0 b1 D2 k2 => ?_
  conv => whnf
  refine p__law_next (show (0 : Int) < many by omega) D2 fun other G3 c0 c1 D3 k3 => ?_
  have K3 : KeepG d G G3 := k1.trans (k2.trans k3)
  have hpos : 0 < L.length := List.length_pos_iff.mpr hne
  conv => whnf
  refine p__law_next (show (0 : Int) < ((L.map cTup).length : Nat) by rw [List.length_map]; omega) D3 fun r G4 r0 r1 D4 k4 => ?_
  rw [List.length_map] at r1
  have hr : r.toNat < L.length := by omega
  have hat : atI (L.map cTup) r = some (cTup L[r.toNat]) := by
    unfold atI ixN
    rw [if_pos r0, List.length_map, if_pos r1]
    simp [hr]
  have tt := hL _ (List.getElem_mem hr)
  generalize L[r.toNat] = t at hat tt
  have K4 : KeepG d G G4 := K3.trans k4
  have hlt := tt.len
  conv => whnf
  refine ⟨_, hat, ?_⟩
  conv => whnf
  intro p hp
  have pd : p ≠ d := fun e => D4.off hp e.symm
  have hpG : G p = none := by
    cases e : G p with
    | none => rfl
    | some o => have := K4 _ _ pd e; rw [hp] at this; cases this
  have D5 := D4.new (o := .lst (t.map W.int)) hp
  have K5 : KeepG d G (updG G4 p (.lst (t.map W.int))) := K4.trans (ExtG.keep (.new hp))
  conv => whnf
  by_cases w2 : way < 2
  · rw [decide_eq_true w2]
    conv => whnf
    exact ret (q _ _ (.tup t (by omega)) D5 K5)
  rw [decide_eq_false w2]
  conv => whnf
  rw [fbne]
  by_cases w3 : way = 2
  · rw [decide_eq_true w3]
    conv => whnf
    exact p__law_turn h0 (by omega) D5 fun ls G6 tl D6 k6 => ret (q _ _ (.tup ls (by have := tl.len; omega)) D6 (K5.trans k6))
  rw [decide_eq_false w3]
  conv => whnf
  rw [fbne]
  by_cases w4 : way = 3
  · rw [decide_eq_true w4]
    conv => whnf
    rw [updG_same]
    conv => whnf
    refine ⟨_, atI_getD c0 (by omega), ?_⟩
    conv => whnf
    rw [updG_same]
    conv => whnf
    refine ⟨_, atI_getD b0 (by omega), ?_⟩
    conv => whnf
    refine ⟨sz2 _ _, ?_⟩
    conv => whnf
    refine ⟨rfl, ?_⟩
    conv => whnf
    rw [updG_same]
    conv => whnf
    refine ⟨at_.toNat, ixN_at b0 (by rw [List.length_map]; omega), ?_⟩
    rw [updG_upd]
    conv => whnf
    rw [updG_same]
    conv => whnf
    refine ⟨other.toNat, ixN_at c0 (by rw [List.length_set, List.length_map]; omega), ?_⟩
    rw [updG_upd]
    conv => whnf
    refine ⟨rfl, ?_⟩
    conv => whnf
    rw [updG_same]
    conv => whnf
    rw [← List.map_set, ← List.map_set]
    exact ret (q _ _ (.tup _ (by rw [List.length_set, List.length_set]; omega)) (D4.upd pd.symm) (K4.putNew hpG))
  rw [decide_eq_false w4]
  conv => whnf
  rw [fbne]
  by_cases w5 : way = 4
  · rw [decide_eq_true w5]
    conv => whnf
    rw [updG_same]
    conv => whnf
    refine ⟨_, atI_getD b0 (by omega), ?_⟩
    conv => whnf
    rw [updG_same]
    conv => whnf
    refine ⟨at_.toNat, ixN_at b0 (by rw [List.length_map]; omega), ?_⟩
    rw [updG_upd]
    conv => whnf
    rw [updG_same]
    conv => whnf
    rw [← List.map_set]
    exact ret (q _ _ (.tup _ (by rw [List.length_set]; omega)) (D4.upd pd.symm) (K4.putNew hpG))
  rw [decide_eq_false w5]
  conv => whnf
  generalize updG G4 p (.lst (t.map W.int)) = G5 at D5 K5
  have e1 : cutG (t.map W.int) none (some (-1)) = t.dropLast.map W.int := cutG_last
  have e2 : cutG (t.map W.int) none (some at_) = (t.take at_.toNat).map W.int := cutG_hi b0 (by omega)
  have e3 : cutG (t.map W.int) (some (at_ + 1)) none = (t.drop (at_ + 1).toNat).map W.int := cutG_lo (by omega) (by omega)
  refine ⟨sz1 _, ?_⟩
  conv => whnf
  refine ⟨by simp only [List.length_map, List.length_singleton, sizeLine_eq]; omega, ?_⟩
  conv => whnf
  rw [e1]
  conv => whnf
  refine frz_lst ?_
  conv => whnf
  refine ⟨sz0, ?_⟩
  conv => whnf
  rw [e2]
  conv => whnf
  refine ⟨sz1 _, ?_⟩
  conv => whnf
  refine ⟨by simp only [List.length_map, List.length_take, List.length_singleton, sizeLine_eq]; omega, ?_⟩
  conv => whnf
  rw [e3]
  conv => whnf
  refine ⟨by simp only [List.length_append, List.length_map, List.length_take, List.length_drop, List.length_singleton, sizeLine_eq]; omega, ?_⟩
  conv => whnf
  refine frz_dK ?_
  conv => whnf
  refine ⟨by rw [sizeLine_eq]; show 10 ≤ _; decide, frz_lst ?_⟩
  conv => whnf
  rw [e2]
  conv => whnf
  refine ⟨sz1 _, ?_⟩
  conv => whnf
  refine ⟨by simp only [List.length_map, List.length_take, List.length_singleton, sizeLine_eq]; omega, ?_⟩
  conv => whnf
  rw [e3]
  conv => whnf
  refine ⟨by simp only [List.length_append, List.length_map, List.length_take, List.length_drop, List.length_singleton, sizeLine_eq]; omega, ?_⟩
  conv => whnf
  rw [e2]
  conv => whnf
  refine ⟨sz1 _, ?_⟩
  conv => whnf
  refine ⟨by simp only [List.length_map, List.length_take, List.length_singleton, sizeLine_eq]; omega, ?_⟩
  conv => whnf
  rw [e3]
  conv => whnf
  refine ⟨by simp only [List.length_append, List.length_map, List.length_take, List.length_drop, List.length_singleton, sizeLine_eq]; omega, ?_⟩
  conv => whnf
  refine ⟨sz1 _, frz_lst ?_⟩
  conv => whnf
  refine ⟨sz1 _, ?_⟩
  conv => whnf
  refine ⟨by rw [sizeLine_eq]; show 4 ≤ _; decide, frz_lst ?_⟩
  conv => whnf
  refine ⟨by rw [sizeLine_eq]; show 14 ≤ _; decide, frz_lst ?_⟩
  conv => whnf
  rw [e2]
  conv => whnf
  refine ⟨sz1 _, ?_⟩
  conv => whnf
  refine ⟨by simp only [List.length_map, List.length_take, List.length_singleton, sizeLine_eq]; omega, ?_⟩
  conv => whnf
  rw [e3]
  conv => whnf
  refine ⟨by simp only [List.length_append, List.length_map, List.length_take, List.length_drop, List.length_singleton, sizeLine_eq]; omega, ?_⟩
  conv => whnf
  rw [e2]
  conv => whnf
  refine ⟨sz1 _, ?_⟩
  conv => whnf
  refine ⟨by simp only [List.length_map, List.length_take, List.length_singleton, sizeLine_eq]; omega, ?_⟩
  conv => whnf
  rw [e3]
  conv => whnf
  refine ⟨by simp only [List.length_append, List.length_map, List.length_take, List.length_drop, List.length_singleton, sizeLine_eq]; omega, ?_⟩
  conv => whnf
  refine ⟨by cases t with
    | nil => exact absurd hlt (by simp; omega)
    | cons a b => simp, by decide, by decide, by rw [List.length_map]; omega, ?_⟩
  conv => whnf
  refine ⟨by rw [sizeLine_eq]; show 3 ≤ _; decide, frz_lst ?_⟩
  conv => whnf
  refine ⟨by rw [sizeLine_eq]; show 17 ≤ _; decide, frz_lst ?_⟩
  conv => whnf
  refine p__law_next (by show (0 : Int) < (17 : Nat); decide) D5 fun r2 G6 s0 s1 D6 k6 => ?_
  have s1 : r2 < (17 : Nat) := s1
  conv => whnf
  have K6 := K5.trans k6
  have la : (t.take at_.toNat).length + (t.drop (at_ + 1).toNat).length ≤ 20 := by rw [List.length_take, List.length_drop]; omega
  have ct : ∀ i : Int, Thing (.tup ((t.take at_.toNat).map W.int ++ [.int i] ++ (t.drop (at_ + 1).toNat).map W.int)) := fun i => by
    have : (t.take at_.toNat).map W.int ++ [.int i] ++ (t.drop (at_ + 1).toNat).map W.int = (t.take at_.toNat ++ [i] ++ t.drop (at_ + 1).toNat).map W.int := by rw [List.map_append, List.map_append]; rfl
    rw [this]
    exact .tup _ (by simp only [List.length_append, List.length_singleton]; omega)
  have od : ∀ x : W, ((∃ c, x = .bl c) ∨ x = .non ∨ (∃ z, x = .str z) ∨ ∃ t, x = cTup t) → Thing (.tup ((t.take at_.toNat).map W.int ++ [x] ++ (t.drop (at_ + 1).toNat).map W.int)) := fun x hx => .odd _ _ _ hx la
  suffices h : ∃ w, atI ([W.tup (t.map W.int ++ [.int (many + 1)]), .tup (t.dropLast.map W.int), .fl (t.map W.int), .non, .tup [], .int 5, .str "1", .tup ((t.take at_.toNat).map W.int ++ [.int 0] ++ (t.drop (at_ + 1).toNat).map W.int), .bl true, .fdK []] ++
      [.tup ((t.take at_.toNat).map W.int ++ [.int (many + 1)] ++ (t.drop (at_ + 1).toNat).map W.int), .tup ((t.take at_.toNat).map W.int ++ [.bl true] ++ (t.drop (at_ + 1).toNat).map W.int), .fl [cTup t], .tup [cTup t]] ++
      [.tup ((t.take at_.toNat).map W.int ++ [.str "1"] ++ (t.drop (at_ + 1).toNat).map W.int), .tup ((t.take at_.toNat).map W.int ++ [.non] ++ (t.drop (at_ + 1).toNat).map W.int), .tup (List.replicate (Int.toNat 2) (t.map W.int)).flatten]) r2 = some w ∧ Thing w by
    obtain ⟨w, h1, h2⟩ := h
    exact ⟨w, h1, ret (q w G6 h2 D6 K6)⟩
  rcases (show r2 = 0 ∨ r2 = 1 ∨ r2 = 2 ∨ r2 = 3 ∨ r2 = 4 ∨ r2 = 5 ∨ r2 = 6 ∨ r2 = 7 ∨ r2 = 8 ∨ r2 = 9 ∨ r2 = 10 ∨ r2 = 11 ∨ r2 = 12 ∨ r2 = 13 ∨ r2 = 14 ∨ r2 = 15 ∨ r2 = 16 by omega) with rfl | rfl | rfl | rfl | rfl | rfl | rfl | rfl | rfl | rfl | rfl | rfl | rfl | rfl | rfl | rfl | rfl
  · refine ⟨_, rfl, ?_⟩
    rw [show t.map W.int ++ [.int (many + 1)] = (t ++ [many + 1]).map W.int by rw [List.map_append]; rfl]
    exact .tup _ (by simp only [List.length_append, List.length_singleton]; omega)
  · exact ⟨_, rfl, .tup _ (by rw [List.length_dropLast]; omega)⟩
  · exact ⟨_, rfl, .oth _ (by simp [tyW]) (by simp [tyW])⟩
  · exact ⟨_, rfl, .oth _ (by simp [tyW]) (by simp [tyW])⟩
  · exact ⟨_, rfl, .tup [] (Nat.zero_le _)⟩
  · exact ⟨_, rfl, .oth _ (by simp [tyW]) (by simp [tyW])⟩
  · exact ⟨_, rfl, .oth _ (by simp [tyW]) (by simp [tyW])⟩
  · exact ⟨_, rfl, ct 0⟩
  · exact ⟨_, rfl, .oth _ (by simp [tyW]) (by simp [tyW])⟩
  · exact ⟨_, rfl, .oth _ (by simp [tyW]) (by simp [tyW])⟩
  · exact ⟨_, rfl, ct _⟩
  · exact ⟨_, rfl, od _ (.inl ⟨_, rfl⟩)⟩
  · exact ⟨_, rfl, .oth _ (by simp [tyW]) (by simp [tyW])⟩
  · exact ⟨_, rfl, .odd [] [] _ (.inr (.inr (.inr ⟨t, rfl⟩))) (Nat.zero_le _)⟩
  · exact ⟨_, rfl, od _ (.inr (.inr (.inl ⟨_, rfl⟩)))⟩
  · exact ⟨_, rfl, od _ (.inr (.inl rfl))⟩
  · refine ⟨_, rfl, ?_⟩
    rw [show (List.replicate (Int.toNat 2) (t.map W.int)).flatten = (t ++ t).map W.int by rw [List.map_append]; show (List.replicate 2 (t.map W.int)).flatten = _; simp [List.replicate]]
    exact .tup _ (by rw [List.length_append]; omega)
abbrev s__law_thing : Stmt := topS 52
theorem sc__law_thing : FnScope N__law_thing ["draw", "many", "found"] (defScope s__law_thing) := ⟨rfl, rfl, rfl, by decide +kernel, rfl, by decide +kernel, by decide +kernel⟩
theorem dv__law_thing (D__law_next : DfG P w K mg base CX0 2 "_law_next" ["draw", "size"] [] P__law_next) (z_len : mg "len" = none) (z_list : mg "list" = none) (D__law_turn : DfG P w K mg base CX0 3 "_law_turn" ["draw", "many"] [] P__law_turn) (z_tuple : mg "tuple" = none) {f : Addr} {cdv : Value} {A : Around} {outer : List Env} {s : Shared} {H : Hp} {E : XK} {G : GH} (hgd : A.guards = some []) (hr : Room 3 (A.deeper (envOfC "_law_thing" (defScope s__law_thing) s.heap.objs.size f cdv))) :
    WSs (cxOf CX0 P w K mg base N__law_thing "_law_thing" (defScope s__law_thing) f cdv A outer s H E).nox (G, H) (defBody s__law_thing) T__law_thing :=
  (wss_cons (ws_par3 (i := 3) (j := 4) (l := 5) rfl sc__law_thing.nd rfl rfl rfl (by decide) (by decide) (by decide) rfl rfl rfl (wa_cons (we_h D__law_next hgd hr (wa_cons (we_v 0) (wa_cons we_int wa_nil))) (wa_cons (we_h D__law_next hgd hr (wa_cons (we_v 0) (wa_cons (we_v 1) wa_nil))) (wa_cons (we_h D__law_next hgd hr (wa_cons (we_v 0) (wa_cons (we_v 1) wa_nil))) wa_nil))) (by rfl))
    (wss_cons (ws_s 6 sc__law_thing.nd (we_ix (hu1 hr) (we_v 2) (we_h D__law_next hgd hr (wa_cons (we_v 0) (wa_cons (we_cb call_lenQ (by rfl) z_len bt_len (wa_cons (we_v 2) wa_nil)) wa_nil)))))
    (wss_cons (ws_s 7 sc__law_thing.nd (we_ct (call_listDW rfl) (by rfl) z_list bt_list (wa_cons (we_v 6) wa_nil)))
    (wss_cons (ws_if (wt_cmp (op_ltW (hu0 hr)) (we_v 3) we_int (nomark _)) (wss_one (ws_ret (we_v 6))) wss_nil)
    (wss_cons (ws_if (wt_cmp (op_eqQ (hu64 hr)) (we_v 3) we_int (nomark _)) (wss_one (ws_ret (we_h D__law_turn hgd hr (wa_cons (we_v 0) (wa_cons (we_v 1) wa_nil))))) wss_nil)
    (wss_cons (ws_if (wt_cmp (op_eqQ (hu64 hr)) (we_v 3) we_int (nomark _)) (wss_cons (ws_asg (we_tup (wa_cons (we_ix (hu1 hr) (we_v 7) (we_v 5)) (wa_cons (we_ix (hu1 hr) (we_v 7) (we_v 4)) wa_nil))) (wg_unp rfl (wgs_cons (wg_sub (we_v 7) (we_v 4) (set_Q (hu1 hr))) (wgs_cons (wg_sub (we_v 7) (we_v 5) (set_Q (hu1 hr))) wgs_nil))))
    (wss_one (ws_ret (we_ct call_tupW (by rfl) z_tuple bt_tuple (wa_cons (we_v 7) wa_nil))))) wss_nil)
    (wss_cons (ws_if (wt_cmp (op_eqQ (hu64 hr)) (we_v 3) we_int (nomark _)) (wss_cons (ws_asg (we_neg (we_ix (hu1 hr) (we_v 7) (we_v 4))) (wg_sub (we_v 7) (we_v 4) (set_Q (hu1 hr))))
    (wss_one (ws_ret (we_ct call_tupW (by rfl) z_tuple bt_tuple (wa_cons (we_v 7) wa_nil))))) wss_nil)
    (wss_cons (ws_s 8 sc__law_thing.nd (we_fz (we_lst (wa_cons (we_op op_addW (we_v 6) (we_tup (wa_cons (we_op op_addW (we_v 1) we_int) wa_nil))) (wa_cons (we_fz (we_slice (we_v 6) wo_none (wo_some (we_neg we_int)))) (wa_cons (we_fz (we_ct (call_listDW rfl) (by rfl) z_list bt_list (wa_cons (we_v 6) wa_nil))) (wa_cons we_non (wa_cons (we_tup wa_nil) (wa_cons we_int (wa_cons we_str (wa_cons (we_fz (we_op op_addW (we_fz (we_op op_addW (we_fz (we_slice (we_v 6) wo_none (wo_some (we_v 4)))) (we_tup (wa_cons we_int wa_nil)))) (we_fz (we_slice (we_v 6) (wo_some (we_op op_addW (we_v 4) we_int)) wo_none)))) (wa_cons we_bl (wa_cons (we_fz we_dict0) wa_nil)))))))))))))
    (wss_cons (ws_s 8 sc__law_thing.nd (we_fz (we_op op_addW (we_v 8) (we_fz (we_lst (wa_cons (we_fz (we_op op_addW (we_fz (we_op op_addW (we_fz (we_slice (we_v 6) wo_none (wo_some (we_v 4)))) (we_tup (wa_cons (we_op op_addW (we_v 1) we_int) wa_nil)))) (we_fz (we_slice (we_v 6) (wo_some (we_op op_addW (we_v 4) we_int)) wo_none)))) (wa_cons (we_fz (we_op op_addW (we_fz (we_op op_addW (we_fz (we_slice (we_v 6) wo_none (wo_some (we_v 4)))) (we_tup (wa_cons we_bl wa_nil)))) (we_fz (we_slice (we_v 6) (wo_some (we_op op_addW (we_v 4) we_int)) wo_none)))) (wa_cons (we_fz (we_lst (wa_cons (we_v 6) wa_nil))) (wa_cons (we_tup (wa_cons (we_v 6) wa_nil)) wa_nil)))))))))
    (wss_cons (ws_s 8 sc__law_thing.nd (we_fz (we_op op_addW (we_v 8) (we_fz (we_lst (wa_cons (we_fz (we_op op_addW (we_fz (we_op op_addW (we_fz (we_slice (we_v 6) wo_none (wo_some (we_v 4)))) (we_tup (wa_cons we_str wa_nil)))) (we_fz (we_slice (we_v 6) (wo_some (we_op op_addW (we_v 4) we_int)) wo_none)))) (wa_cons (we_fz (we_op op_addW (we_fz (we_op op_addW (we_fz (we_slice (we_v 6) wo_none (wo_some (we_v 4)))) (we_tup (wa_cons we_non wa_nil)))) (we_fz (we_slice (we_v 6) (wo_some (we_op op_addW (we_v 4) we_int)) wo_none)))) (wa_cons (we_op op_mulT (we_v 6) we_int) wa_nil))))))))
    (wss_one (ws_ret (we_ix (hu1 hr) (we_v 8) (we_h D__law_next hgd hr (wa_cons (we_v 0) (wa_cons (we_cb call_lenQ (by rfl) z_len bt_len (wa_cons (we_v 8) wa_nil)) wa_nil))))))))))))))))
theorem ok__law_thing (D__law_next : DfG P w K mg base CX0 2 "_law_next" ["draw", "size"] [] P__law_next) (z_len : mg "len" = none) (z_list : mg "list" = none) (D__law_turn : DfG P w K mg base CX0 3 "_law_turn" ["draw", "many"] [] P__law_turn) (z_tuple : mg "tuple" = none) {f : Addr} {fd : FuncData} (F : Fun K "_law_thing" "_law_thing" s__law_thing f fd) : FnG P w K mg base CX0 4 f fd ["draw", "many", "found"] (spL K P__law_thing) :=
  okF F sc__law_thing len__law_thing fun cdv A outer s H E ws G R RX hgd hr h => ⟨T__law_thing, dv__law_thing D__law_next z_len z_list D__law_turn z_tuple hgd hr, rd__law_thing ws G R RX h⟩
abbrev N__law_is_in : List Str := ["item", "found", "one"]
structure P__law_is_in (ws : List W) (G : GH) (R : KW) (RX : XW) : Prop where
  ex : ∃ (w : W) (L : List (List Int)), ws = [w, .fl (L.map cTup)] ∧ (Thing w) ∧ (L.length ≤ 400) ∧ (∀ b : Bool, (b = true ↔ ∃ t, w = cTup t ∧ t ∈ L) → R (.bl b) G)
theorem len__law_is_in : ∀ ws G R RX, P__law_is_in ws G R RX → ws.length = ["item", "found"].length := by
  rintro ws G R RX ⟨⟨_, _, rfl, _, _, _⟩⟩; rfl
theorem p__law_is_in {w : W} {L : List (List Int)} {G : GH} {R : KW} {RX : XW} (hw : Thing w) (hL : L.length ≤ 400) (q : ∀ b : Bool, (b = true ↔ ∃ t, w = cTup t ∧ t ∈ L) → R (.bl b) G) : P__law_is_in [w, .fl (L.map cTup)] G R RX := ⟨w, L, rfl, hw, hL, q⟩
def T__law_is_in : TWS :=
  (sSeq (sIf (tOrW (tNotW (tTruW (tCW (isiC .tu) (tCo (tV 0) (tCo (tK (.ty "tuple")) tN))))) (tTestW (tOpW (inQ true) (tV 0) (tV 1)))) (sRet (tK (.bl false))) sNext)
    (sRet (tCF (fBols fun bs => bs.all fun b => b) (tCompI (tISeq (tV 0)) (gN 2) tYesW (tAndE (tCW (isiC .it) (tCo (tV 2) (tCo (tK (.ty "int")) tN))) (tNotE (tCW (isiC .bo) (tCo (tV 2) (tCo (tK (.ty "bool")) tN))))) [2]))))
theorem rd__law_is_in (ws : List W) (G : GH) (R : KW) (RX : XW) (h : P__law_is_in ws G R RX) : T__law_is_in { nx := fun _ G' => fgt R .non G', rt := fgt R } (startW N__law_is_in ws) G := by
  obtain ⟨w, L, rfl, hw, hL, q⟩ := h
  have nt : ∀ (a b : List Int) (x : W), ((∃ c, x = .bl c) ∨ x = .non ∨ (∃ z, x = .str z) ∨ ∃ t, x = cTup t) → ¬ ∃ t, W.tup (a.map W.int ++ [x] ++ b.map W.int) = cTup t ∧ t ∈ L := by
    rintro a b x hx ⟨t, e, _⟩
    have e := W.tup.inj (show W.tup (a.map W.int ++ [x] ++ b.map W.int) = W.tup (t.map W.int) from e)
    have hm : x ∈ t.map W.int := by rw [← e]; simp
    obtain ⟨n, _, e2⟩ := List.mem_map.mp hm
    rcases hx with ⟨c, rfl⟩ | rfl | ⟨z, rfl⟩ | ⟨u, rfl⟩ <;> cases e2
  conv => whnf
  cases hw with
  | tup t ht =>
    refine ⟨rfl, isiW_of (show tyW (cTup t) G = some .tu by simp [tyW, cTup]) ?_⟩
    conv => whnf
    refine in_fTups ?_
    by_cases hm : t ∈ L
    · rw [decide_eq_true hm]
      conv => whnf
      refine compW_pure (f := W.int) (v := fun _ => W.bl true) trivial t [] (by rw [List.length_nil, sizeLine_eq]; omega) (fun x hx R' q' => ?_) ?_
      · conv => whnf
        refine ⟨rfl, isiW_of (show tyW (.int x) G = some .it by simp [tyW]) ?_⟩
        conv => whnf
        refine ⟨rfl, isiW_of (show tyW (.int x) G = some .it by simp [tyW]) ?_⟩
        conv => whnf
        exact q'
      · rw [List.nil_append, show (t.map fun _ => W.bl true) = (t.map fun _ => true).map W.bl by rw [List.map_map]; rfl]
        unfold fBols
        rw [blsOf_map]
        dsimp only
        rw [show ((t.map fun _ => true).all fun b => b) = true by rw [List.all_map]; exact List.all_eq_true.mpr fun _ _ => rfl]
        exact ret (q true ⟨fun _ => ⟨t, rfl, hm⟩, fun _ => rfl⟩)
    · rw [decide_eq_false hm]
      conv => whnf
      refine ret (q false ⟨fun e => (by cases e), ?_⟩)
      rintro ⟨u, e, hu⟩
      exact absurd ((cTup_inj e) ▸ hu) hm
  | odd a b x hx hl =>
    refine ⟨rfl, isiW_of (show tyW (.tup (a.map W.int ++ [x] ++ b.map W.int)) G = some .tu by simp [tyW]) ?_⟩
    conv => whnf
    have sim : ∀ y ∈ a.map W.int ++ [x] ++ b.map W.int, Sim y := fun y hy => by
      rcases List.mem_append.mp hy with hy | hy
      · rcases List.mem_append.mp hy with hy | hy
        · obtain ⟨n, _, rfl⟩ := List.mem_map.mp hy; exact .inl ⟨n, rfl⟩
        · rw [List.mem_singleton.mp hy]; exact .inr hx
      · obtain ⟨n, _, rfl⟩ := List.mem_map.mp hy; exact .inl ⟨n, rfl⟩
    obtain ⟨ds, p1, p2⟩ := sim_pd (G := G) sim
    have no : fgt R (.bl false) G := ret (q false ⟨fun e => (by cases e), fun e => absurd e (nt a b x hx)⟩)
    refine ⟨⟨.tuple ds, _, .tup p1, PDs.map (g := fun t => PyData.tuple (t.map .int)) L fun t _ => .tup (PDs.ints t), ?_, ?_⟩⟩
    · rw [PyData.depth]
      have := depth_all p2
      omega
    · cases (L.map fun t => PyData.tuple (t.map .int)).any fun y => PyData.eqv y (.tuple ds) with
      | false =>
        conv => whnf
        exact no
      | true =>
        conv => whnf
        refine compW_pureW (v := fun y => W.bl (isI y)) trivial (by rw [sizeLine_eq]; simp only [List.length_append, List.length_map, List.length_singleton]; omega) (fun y hy R' q' => ?_) ?_
        · rcases sim y hy with ⟨c, rfl⟩ | ⟨c, rfl⟩ | rfl | ⟨z, rfl⟩ | ⟨u, rfl⟩
          · conv => whnf
            refine ⟨rfl, isiW_of (show tyW (.int c) G = some .it by simp [tyW]) ?_⟩
            conv => whnf
            refine ⟨rfl, isiW_of (show tyW (.int c) G = some .it by simp [tyW]) ?_⟩
            conv => whnf
            exact q'
          · conv => whnf
            refine ⟨rfl, isiW_of (show tyW (.bl c) G = some .bo by simp [tyW]) ?_⟩
            conv => whnf
            refine ⟨rfl, isiW_of (show tyW (.bl c) G = some .bo by simp [tyW]) ?_⟩
            conv => whnf
            exact q'
          · conv => whnf
            refine ⟨rfl, isiW_of (show tyW .non G = some .nn by simp [tyW]) ?_⟩
            conv => whnf
            exact q'
          · conv => whnf
            refine ⟨rfl, isiW_of (show tyW (.str z) G = some .st by simp [tyW]) ?_⟩
            conv => whnf
            exact q'
          · conv => whnf
            refine ⟨rfl, isiW_of (show tyW (cTup u) G = some .tu by simp [tyW, cTup]) ?_⟩
            conv => whnf
            exact q'
        · unfold fBols
          rw [show ((a.map W.int ++ [x] ++ b.map W.int).map fun y => W.bl (isI y)) = ((a.map W.int ++ [x] ++ b.map W.int).map isI).map W.bl by rw [List.map_map]; rfl, blsOf_map]
          dsimp only
          have : ((a.map W.int ++ [x] ++ b.map W.int).map isI).all (fun b => b) = false := by
            rw [List.all_eq_false]
            refine ⟨isI x, List.mem_map.mpr ⟨x, by simp, rfl⟩, ?_⟩
            rcases hx with ⟨c, rfl⟩ | rfl | ⟨z, rfl⟩ | ⟨u, rfl⟩ <;> exact fun h => absurd (show false = true from h) (by decide)
          rw [this]
          exact no
  | oth w h1 h2 =>
    obtain ⟨t, e, ne⟩ : ∃ t, tyW w G = some t ∧ t ≠ .tu := by
      cases w with
      | ref p => exact absurd rfl h1
      | _ => first | exact ⟨_, rfl, by decide⟩ | exact absurd rfl h2 | exact absurd rfl h1
    refine ⟨rfl, isiW_of e ?_⟩
    have e2 : isaT t .tu = false := by cases t <;> first | rfl | exact absurd rfl ne
    rw [e2]
    conv => whnf
    refine ret (q false ⟨fun e => (by cases e), ?_⟩)
    rintro ⟨u, rfl, hu⟩
    exact absurd rfl h2
abbrev s__law_is_in : Stmt := topS 53
theorem sc__law_is_in : FnScope N__law_is_in ["item", "found"] (defScope s__law_is_in) := ⟨rfl, rfl, rfl, by decide +kernel, rfl, by decide +kernel, by decide +kernel⟩
theorem dv__law_is_in (z_isinstance : mg "isinstance" = none) (z_tuple : mg "tuple" = none) (z_int : mg "int" = none) (z_bool : mg "bool" = none) (z_all : mg "all" = none) {f : Addr} {cdv : Value} {A : Around} {outer : List Env} {s : Shared} {H : Hp} {E : XK} {G : GH} (hgd : A.guards = some []) (hr : Room 0 (A.deeper (envOfC "_law_is_in" (defScope s__law_is_in) s.heap.objs.size f cdv))) :
    WSs (cxOf CX0 P w K mg base N__law_is_in "_law_is_in" (defScope s__law_is_in) f cdv A outer s H E).nox (G, H) (defBody s__law_is_in) T__law_is_in :=
  (wss_cons (ws_if (wp_t (wp_or (wt_not (wt_truth (we_cb (call_isiW .tu) (by rfl) z_isinstance bt_isinstance (wa_cons (we_v 0) (wa_cons (we_ty (by rfl) z_tuple bt_tuple) wa_nil))))) (wp_or1 (wt_cmp (op_notinQ (hu65 hr)) (we_v 0) (we_v 1) (by rfl))))) (wss_one (ws_ret we_bl)) wss_nil)
    (wss_one (ws_ret (we_cbC (own := [("one", 2)]) (tmp_all rfl) (by rfl) z_all bt_all rfl sc__law_is_in.nd (wi_seq (we_v 0)) (blkOk_by (own := [("one", 2)]) (N := N__law_is_in) (sc := defScope s__law_is_in) (by decide +kernel)) (gok_name (by decide)) (fun _ _ _ _ _ => pg_n 2 sc__law_is_in.nd) (fun _ _ _ _ _ => wts_nil) (fun _ _ _ _ _ => (we_and (we_cb (call_isiW .it) (by rfl) z_isinstance bt_isinstance (wa_cons (we_v 2) (wa_cons (we_ty (by rfl) z_int bt_int) wa_nil))) (we_one (we_not (we_cb (call_isiW .bo) (by rfl) z_isinstance bt_isinstance (wa_cons (we_v 2) (wa_cons (we_ty (by rfl) z_bool bt_bool) wa_nil)))))))))))
theorem ok__law_is_in (z_isinstance : mg "isinstance" = none) (z_tuple : mg "tuple" = none) (z_int : mg "int" = none) (z_bool : mg "bool" = none) (z_all : mg "all" = none) {f : Addr} {fd : FuncData} (F : Fun K "_law_is_in" "_law_is_in" s__law_is_in f fd) : FnG P w K mg base CX0 1 f fd ["item", "found"] (spL K P__law_is_in) :=
  okF F sc__law_is_in len__law_is_in fun cdv A outer s H E ws G R RX hgd hr h => ⟨T__law_is_in, dv__law_is_in z_isinstance z_tuple z_int z_bool z_all hgd hr, rd__law_is_in ws G R RX h⟩
abbrev N__law_factors_right : List Str := ["group", "turn", "many", "floors", "told", "came", "factor", "floor"]
structure P__law_factors_right (ws : List W) (G : GH) (R : KW) (RX : XW) : Prop where
  ex : ∃ (many : Int) (fw : W) (fl : List Int) (ps : List (List Int)) (ch : List Fl) (t : List Int), ws = [grW many fw ps ch, cTup t, .int many] ∧ (GrOk many fl ps ch) ∧ (fw.tup? = some (fl.map W.int)) ∧ (Gen many ps t) ∧ (R (.bl true) G)
theorem len__law_factors_right : ∀ ws G R RX, P__law_factors_right ws G R RX → ws.length = ["group", "turn", "many"].length := by
  rintro ws G R RX ⟨⟨_, _, _, _, _, _, rfl, _, _, _, _⟩⟩; rfl
theorem p__law_factors_right {many : Int} {fw : W} {fl : List Int} {ps : List (List Int)} {ch : List Fl} {t : List Int} {G : GH} {R : KW} {RX : XW} (O : GrOk many fl ps ch) (hfw : fw.tup? = some (fl.map W.int)) (g : Gen many ps t) (q : R (.bl true) G) : P__law_factors_right [grW many fw ps ch, cTup t, .int many] G R RX := ⟨many, fw, fl, ps, ch, t, rfl, O, hfw, g, q⟩
def T__law_factors_right : TWS :=
  (sSeq (sSet 3 (tMethW "Group" "floors" P_Group_floors [] XF (tV 0) tN))
    (sSeq (sSet 4 (tMethW "Group" "factors" P_Group_factors_x [] XF (tV 0) (tCo (tV 1) tN)))
    (sSeq (sIf (tOrW (tNotW (tTruW (tCW (isiC .li) (tCo (tV 4) (tCo (tK (.ty "list")) tN))))) (tTestW (tOpW (eqQ true) (tCW lenQ (tCo (tV 4) tN)) (tCW lenQ (tCo (tV 3) tN))))) (sRet (tK (.bl false))) sNext)
    (sSeq (sSet 5 (tTupleRg (tRg2W (tK (.int 1)) (tOpW addW (tV 2) (tK (.int 1))))))
    (sSeq (sFor (tIZip (tCo (tV 4) (tCo (tFz (tRevW (tV 3))) tN))) (gU 2 (gsC (gN 6) (gsC (gN 7) gsN))) (sSeq (sIf (tTestW (tOpW (inQ true) (tV 6) (tFz (tListVals (tV 7))))) (sRet (tK (.bl false))) sNext)
    (sSet 5 (tCall0 P__law_joined [] (tCo (tV 5) (tCo (tV 6) tN))))))
    (sSeq (sDrop (tMetL appendW (tV 4) (tCo (tK .non) tN)))
    (sRet (tAndE (tOpW (eqQ false) (tV 5) (tV 1)) (tOpW (eqQ false) (tCW lenQ (tCo (tFz (tMethW "Group" "factors" P_Group_factors_x [] XF (tV 0) (tCo (tV 1) tN))) tN)) (tCW lenQ (tCo (tV 3) tN)))))))))))
theorem rd__law_factors_right (ws : List W) (G : GH) (R : KW) (RX : XW) (h : P__law_factors_right ws G R RX) : T__law_factors_right { nx := fun _ G' => fgt R .non G', rt := fgt R } (startW N__law_factors_right ws) G := by
  obtain ⟨many, fw, fl, ps, ch, t, rfl, O, hfw, g, q⟩ := h
  have h0 := O.h0
  have h12 := O.h12
  have h4 : many ≤ 400 := by omega
  have tt := g.turn h0 h4 O.tp
  have hlen : (toldN fl.length ch).length ≤ 24 := Nat.le_trans (toldN_len _ _) O.len
  have hTw : Tw many (toldN fl.length ch) (elemsL many ch) := ⟨_, _, _, rfl, grOk_wk O⟩
  have ask : ∀ G2 : GH, Ask G2 (cTup t) := fun G2 => ask_ints t G2 (by have := tt.len; omega)
  conv => whnf
  refine ⟨rfl, ?_⟩
  conv => whnf
  refine p_Group_floors O hfw fun p1 Ds G1 gp1 np P X1 hp1 hF => ?_
  conv => whnf
  refine ⟨rfl, ?_⟩
  conv => whnf
  refine p_Group_factors_x O hfw (ask _) ?_
  rw [if_pos (hasC_turn.mpr g)]
  rintro t2 ws et F p2 hp2
  have et : t = t2 := by
    have e2 := W.tup.inj (show W.tup (t.map W.int) = W.tup (t2.map W.int) from et)
    have e3 := congrArg intsOf e2
    rw [intsOf_map, intsOf_map] at e3
    exact Option.some.inj e3
  subst et
  conv => whnf
  have n12 : p1 ≠ p2 := fun e => by subst e; rw [gp1] at hp2; cases hp2
  have X2 : ExtG G1 (updG G1 p2 (.lst (ws.reverse.map cTup))) := .new hp2
  have g1 : updG G1 p2 (.lst (ws.reverse.map cTup)) p1 = some (.lst (Ds.map W.ref)) := X2 _ _ gp1
  have g2 : updG G1 p2 (.lst (ws.reverse.map cTup)) p2 = some (.lst (ws.reverse.map cTup)) := updG_same
  have hp2' : G p2 = none := WS.ExtG.none X1 hp2
  have XG : ExtG G (updG G1 p2 (.lst (ws.reverse.map cTup))) := ExtG.trans X1 X2
  have PW : Paired (WayIn many (updG G1 p2 (.lst (ws.reverse.map cTup)))) ws.reverse Ds.reverse := paired_imp (paired_rev (way_in F.all P)) fun _ _ h => h.ext X2
  have hwl : ws.length ≤ 24 := by rw [F.all.length]; exact hlen
  have hwd : ws.length = Ds.length := by rw [F.all.length, P.length]
  generalize updG G1 p2 (.lst (ws.reverse.map cTup)) = G2 at X2 g1 g2 XG PW
  refine ⟨rfl, isiW_of (show tyW (.ref p2) G2 = some .li by simp [tyW, g2]) ?_⟩
  conv => whnf
  rw [g2]
  conv => whnf
  rw [g1]
  conv => whnf
  rw [List.length_map, List.length_map, List.length_reverse, hwd, show (true != decide (((Ds.length : Nat) : Int) = ((Ds.length : Nat) : Int))) = false by rw [decide_eq_true rfl]; rfl]
  conv => whnf
  refine ⟨.of_le (by decide) (by omega) (by decide) (by omega), ?_⟩
  rw [still_rg]
  conv => whnf
  rw [g1]
  refine frz_lst ?_
  conv => whnf
  rw [show lstOf (W.ref p2) G2 = some (ws.reverse.map cTup, fun G => G p2 = some (.lst (ws.reverse.map cTup))) by unfold lstOf; dsimp only; rw [g2]]
  conv => whnf
  rw [← List.map_reverse, zip_tr]
  have st : TurnOf many (stillL many) := still_turn h0 h4
  refine forW_map (f := fun z : List Int × Addr => W.tup [cTup z.1, .ref z.2]) (I := fun zs S G' => ∃ (as : List (List Int)) (bs : List Addr) (a : List Int) (x6 x7 : Option W), zs = as.zip bs ∧ S = [some (grW many fw ps ch), some (cTup t), some (.int many), some (.ref p1), some (.ref p2), some (cTup a), x6, x7] ∧ G' = G2 ∧ Paired (WayIn many G2) as bs ∧ TurnOf many a ∧ as.foldl thenL a = t) (fun z zs S G' => ?_) (fun S G' => ?_) _ _ _ ⟨ws.reverse, Ds.reverse, stillL many, _, _, rfl, rfl, rfl, PW, st, by rw [List.foldl_reverse]; exact F.prod⟩
  · rintro ⟨as, bs, a, x6, x7, ez, rfl, rfl, hP, ta, e⟩ N hN
    refine ⟨⟨g2, trivial⟩, ?_⟩
    cases hP with
    | nil => cases ez
    | @cons w D as bs r hP =>
    obtain ⟨e1, e2⟩ := List.cons.inj ez
    have e1 : z = (w, D) := e1
    have e2 : zs = as.zip bs := e2
    subst e1
    subst e2
    obtain ⟨tw, f, ms, gD, hm⟩ := r
    conv => whnf
    refine ⟨rfl, ?_⟩
    conv => whnf
    refine ⟨rfl, ?_⟩
    conv => whnf
    refine ⟨flK f ms, by unfold dKof; dsimp only; rw [gD], fun q1 hq1 => frz_lst ?_ q1 hq1⟩
    conv => whnf
    rw [show (flK f ms).map (·.2) = (ms.map (wayOf f)).map cTup by unfold flK; rw [List.map_map, List.map_map]; rfl]
    refine in_fTups ?_
    rw [decide_eq_true hm]
    conv => whnf
    refine p__law_joined ta tw ?_
    exact hN _ _ ⟨as, bs, thenL a w, _, _, rfl, rfl, rfl, hP, then_turn ta tw, e⟩
  · rintro ⟨as, bs, a, x6, x7, ez, rfl, rfl, hP, ta, e⟩
    have : as = [] := by
      cases hP with
      | nil => rfl
      | cons r t => cases ez
    subst this
    have e : a = t := e
    subst e
    refine ⟨⟨g2, trivial⟩, ?_⟩
    conv => whnf
    refine ⟨recL_lst g2, ?_⟩
    conv => whnf
    rw [g2]
    conv => whnf
    refine ⟨by rw [List.length_map, List.length_reverse, sizeLine_eq]; omega, ?_⟩
    conv => whnf
    refine eq_ints ?_
    rw [fbne, decide_eq_true rfl]
    conv => whnf
    refine ⟨rfl, ?_⟩
    conv => whnf
    refine p_Group_factors_x O hfw (ask _) ?_
    rw [if_pos (hasC_turn.mpr g)]
    rintro t2 ws2 et F2 p3 hp3
    refine frz_lst ?_ p3 hp3
    conv => whnf
    rw [updG_ne n12, g1]
    conv => whnf
    rw [List.length_map, List.length_reverse, List.length_map, F2.all.length, ← P.length, fbne, decide_eq_true rfl]
    exact ret_ext (XG.putNew hp2') q
abbrev s__law_factors_right : Stmt := topS 54
theorem sc__law_factors_right : FnScope N__law_factors_right ["group", "turn", "many"] (defScope s__law_factors_right) := ⟨rfl, rfl, rfl, by decide +kernel, rfl, by decide +kernel, by decide +kernel⟩
theorem dv__law_factors_right (ME_Group_floors : MethD P w K mg base CX0 2 "Group" "floors" ["self"] [] P_Group_floors) (ME_Group_factors_x : MethD P w K mg base (L2.CX P w) 5 "Group" "factors" ["self", "turn"] [] P_Group_factors_x) (z_isinstance : mg "isinstance" = none) (z_list : mg "list" = none) (z_len : mg "len" = none) (z_tuple : mg "tuple" = none) (z_range : mg "range" = none) (z_zip : mg "zip" = none) (D__law_joined : DfG P w K mg base CX0 2 "_law_joined" ["one", "other"] [] P__law_joined) {f : Addr} {cdv : Value} {A : Around} {outer : List Env} {s : Shared} {H : Hp} {E : XK} {G : GH} (hgd : A.guards = some []) (hr : Room 5 (A.deeper (envOfC "_law_factors_right" (defScope s__law_factors_right) s.heap.objs.size f cdv))) :
    WSs (cxOf CX0 P w K mg base N__law_factors_right "_law_factors_right" (defScope s__law_factors_right) f cdv A outer s H E).nox (G, H) (defBody s__law_factors_right) T__law_factors_right :=
  (wss_cons (ws_s 3 sc__law_factors_right.nd (we_m0 ME_Group_floors hgd hr (we_v 0)))
    (wss_cons (ws_s 4 sc__law_factors_right.nd (we_mX ME_Group_factors_x hgd hr (we_v 0) (wa_cons (we_v 1) wa_nil)))
    (wss_cons (ws_if (wp_t (wp_or (wt_not (wt_truth (we_cb (call_isiW .li) (by rfl) z_isinstance bt_isinstance (wa_cons (we_v 4) (wa_cons (we_ty (by rfl) z_list bt_list) wa_nil))))) (wp_or1 (wt_cmp (op_neQ (hu64 hr)) (we_cb call_lenQ (by rfl) z_len bt_len (wa_cons (we_v 4) wa_nil)) (we_cb call_lenQ (by rfl) z_len bt_len (wa_cons (we_v 3) wa_nil)) (nomark _))))) (wss_one (ws_ret we_bl)) wss_nil)
    (wss_cons (ws_s 5 sc__law_factors_right.nd (we_tupleRg rfl (by rfl) z_tuple (prgW_2 (by rfl) z_range we_int (we_op op_addW (we_v 2) we_int))))
    (wss_cons (ws_for PassesOwn.never rfl (wi_zip (by rfl) z_zip (wa_cons (we_v 4) (wa_cons (we_fz (we_rev (we_v 3))) wa_nil))) (wg_unp rfl (wgs_cons (wg_n 6 sc__law_factors_right.nd) (wgs_cons (wg_n 7 sc__law_factors_right.nd) wgs_nil))) (wss_cons (ws_if (wt_cmp (op_notinQ (hu65 hr)) (we_v 6) (we_fz (we_listVals (we_v 7) (by rfl) z_list)) (by rfl)) (wss_one (ws_ret we_bl)) wss_nil)
    (wss_one (ws_s 5 sc__law_factors_right.nd (we_h D__law_joined hgd hr (wa_cons (we_v 5) (wa_cons (we_v 6) wa_nil)))))))
    (wss_cons (ws_expr (we_mL (pe_bm PySem.F.plainAttrs_list PySem.F.slot_list_append PySem.F.type_list_append mt_appendW (we_v 4) (wa_cons we_non wa_nil))))
    (wss_one (ws_ret (we_and (we_cmp (op_eqQ (hu64 hr)) (we_v 5) (we_v 1) (nomark _)) (we_one (we_cmp (op_eqQ (hu64 hr)) (we_cb call_lenQ (by rfl) z_len bt_len (wa_cons (we_fz (we_mX ME_Group_factors_x hgd hr (we_v 0) (wa_cons (we_v 1) wa_nil))) wa_nil)) (we_cb call_lenQ (by rfl) z_len bt_len (wa_cons (we_v 3) wa_nil)) (nomark _))))))))))))
theorem ok__law_factors_right (ME_Group_floors : MethD P w K mg base CX0 2 "Group" "floors" ["self"] [] P_Group_floors) (ME_Group_factors_x : MethD P w K mg base (L2.CX P w) 5 "Group" "factors" ["self", "turn"] [] P_Group_factors_x) (z_isinstance : mg "isinstance" = none) (z_list : mg "list" = none) (z_len : mg "len" = none) (z_tuple : mg "tuple" = none) (z_range : mg "range" = none) (z_zip : mg "zip" = none) (D__law_joined : DfG P w K mg base CX0 2 "_law_joined" ["one", "other"] [] P__law_joined) {f : Addr} {fd : FuncData} (F : Fun K "_law_factors_right" "_law_factors_right" s__law_factors_right f fd) : FnG P w K mg base CX0 6 f fd ["group", "turn", "many"] (spL K P__law_factors_right) :=
  okF F sc__law_factors_right len__law_factors_right fun cdv A outer s H E ws G R RX hgd hr h => ⟨T__law_factors_right, dv__law_factors_right ME_Group_floors ME_Group_factors_x z_isinstance z_list z_len z_tuple z_range z_zip D__law_joined hgd hr, rd__law_factors_right ws G R RX h⟩
abbrev N__law_refused : List Str := ["group", "item", "error", "e"]
structure P__law_refused (ws : List W) (G : GH) (R : KW) (RX : XW) : Prop where
  ex : ∃ (many : Int) (fw w : W) (fl : List Int) (ps : List (List Int)) (ch : List Fl), ws = [grW many fw ps ch, w] ∧ (GrOk many fl ps ch) ∧ (fw.tup? = some (fl.map W.int)) ∧ (Ask G w) ∧ (hasC many ps w = false) ∧ (R (.bl true) G)
theorem len__law_refused : ∀ ws G R RX, P__law_refused ws G R RX → ws.length = ["group", "item"].length := by
  rintro ws G R RX ⟨⟨_, _, _, _, _, _, rfl, _, _, _, _, _⟩⟩; rfl
theorem p__law_refused {many : Int} {fw w : W} {fl : List Int} {ps : List (List Int)} {ch : List Fl} {G : GH} {R : KW} {RX : XW} (O : GrOk many fl ps ch) (hfw : fw.tup? = some (fl.map W.int)) (ask : Ask G w) (hb : hasC many ps w = false) (q : R (.bl true) G) : P__law_refused [grW many fw ps ch, w] G R RX := ⟨many, fw, w, fl, ps, ch, rfl, O, hfw, ask, hb, q⟩
def T__law_refused : TWS :=
  (sSeq (sSet 2 (tK .non))
    (sSeq (sTry 3 (hitB ["NoProblem", "NoTurn", "TooMany", "NoLetter", "NotThere"] []) (fun rx => (sDrop (tFz (tMethX "Group" "factors" P_Group_factors_x [] rx (tV 0) (tCo (tV 1) tN))))) (fun _ => (sSet 2 (tV 3))) xn)
    (sRet (tAndE (tOpW (isW true) (tV 2) (tK .non)) (tAndE (tOpW (eqQ false) (tCall0 P__law_word [] (tCo (tV 2) tN)) (tK (.str "there"))) (tOpW (isW false) (tXaW "at" ["NotThere"] (tV 2)) (tK .non)))))))
theorem rd__law_refused (ws : List W) (G : GH) (R : KW) (RX : XW) (h : P__law_refused ws G R RX) : T__law_refused { nx := fun _ G' => fgt R .non G', rt := fgt R } (startW N__law_refused ws) G := by
  obtain ⟨many, fw, w, fl, ps, ch, rfl, O, hfw, ask, hb, q⟩ := h
  conv => whnf
  refine ⟨rfl, ?_⟩
  conv => whnf
  refine p_Group_factors_x O hfw ask ?_
  rw [if_neg (by rw [hb]; decide)]
  conv => whnf
  intro a ha
  conv => whnf
  intro S3 e3
  have e4 : S3 = [some (exV a "NotThere" [("at", .non)] (grW many fw ps ch)), some (exV a "NotThere" [("at", .non)] w), some (.ex "NotThere" [("at", .non)]), none] := by
    rw [e3]
    show [some (exV a "NotThere" [("at", .non)] (grW many fw ps ch)), some (exV a "NotThere" [("at", .non)] w), some (exV a "NotThere" [("at", .non)] (.ref a)), none] = _
    rw [exV_same]
  subst e4
  conv => whnf
  refine p__law_word ?_
  conv => whnf
  refine eq_str ?_
  rw [decide_eq_true rfl]
  conv => whnf
  refine ⟨_, _, .non, rfl, rfl, List.mem_singleton.mpr rfl, ?_⟩
  conv => whnf
  exact ret q
abbrev s__law_refused : Stmt := topS 55
theorem sc__law_refused : FnScope N__law_refused ["group", "item"] (defScope s__law_refused) := ⟨rfl, rfl, rfl, by decide +kernel, rfl, by decide +kernel, by decide +kernel⟩
theorem dv__law_refused (HT_TurnError : HitD K mg "TurnError" ["NoProblem", "NoTurn", "TooMany", "NoLetter", "NotThere"] []) (ME_Group_factors_x : MethD P w K mg base (L2.CX P w) 5 "Group" "factors" ["self", "turn"] [] P_Group_factors_x) (D__law_word : DfG P w K mg base CX0 3 "_law_word" ["e"] [] P__law_word) (XA_at : XaD K "at" ["NotThere"]) {f : Addr} {cdv : Value} {A : Around} {outer : List Env} {s : Shared} {H : Hp} {E : XK} {G : GH} (hgd : A.guards = some []) (hr : Room 5 (A.deeper (envOfC "_law_refused" (defScope s__law_refused) s.heap.objs.size f cdv))) :
    WSs (cxOf CX0 P w K mg base N__law_refused "_law_refused" (defScope s__law_refused) f cdv A outer s H E).nox (G, H) (defBody s__law_refused) T__law_refused :=
  (wss_cons (ws_s 2 sc__law_refused.nd we_non)
    (wss_cons (ws_tryH (i := 3) HT_TurnError TX.no sc__law_refused.nd (fun Z' rx pn xe fz tk po => (wss_one (ws_expr (we_fz (we_mR tk ME_Group_factors_x hgd hr (we_v 0) (wa_cons (we_v 1) wa_nil)))))) (fun a pn => (wss_one (ws_s 2 sc__law_refused.nd (we_v 3)))))
    (wss_one (ws_ret (we_and (we_cmp op_isnotW (we_v 2) we_non (nomark _)) (we_and (we_cmp (op_eqQ (hu64 hr)) (we_h D__law_word hgd hr (wa_cons (we_v 2) wa_nil)) we_str (nomark _)) (we_one (we_cmp op_isW (we_xa XA_at (we_v 2)) we_non (nomark _)))))))))
theorem ok__law_refused (HT_TurnError : HitD K mg "TurnError" ["NoProblem", "NoTurn", "TooMany", "NoLetter", "NotThere"] []) (ME_Group_factors_x : MethD P w K mg base (L2.CX P w) 5 "Group" "factors" ["self", "turn"] [] P_Group_factors_x) (D__law_word : DfG P w K mg base CX0 3 "_law_word" ["e"] [] P__law_word) (XA_at : XaD K "at" ["NotThere"]) {f : Addr} {fd : FuncData} (F : Fun K "_law_refused" "_law_refused" s__law_refused f fd) : FnG P w K mg base CX0 6 f fd ["group", "item"] (spL K P__law_refused) :=
  okF F sc__law_refused len__law_refused fun cdv A outer s H E ws G R RX hgd hr h => ⟨T__law_refused, dv__law_refused HT_TurnError ME_Group_factors_x D__law_word XA_at hgd hr, rd__law_refused ws G R RX h⟩
abbrev N__law_great_right : List Str := ["draw", "many", "signs", "makers", "k", "group", "spin"]
structure P__law_great_right (ws : List W) (G : GH) (R : KW) (RX : XW) : Prop where
  ex : ∃ (ns : List Int) (d : Addr), ws = [.ref d] ∧ (Dr ns d G) ∧ (∀ G', Dr ns d G' → KeepG d G G' → R (.bl true) G')
theorem len__law_great_right : ∀ ws G R RX, P__law_great_right ws G R RX → ws.length = ["draw"].length := by
  rintro ws G R RX ⟨⟨_, _, rfl, _, _⟩⟩; rfl
theorem p__law_great_right {ns : List Int} {d : Addr} {G : GH} {R : KW} {RX : XW} (D : Dr ns d G) (q : ∀ G', Dr ns d G' → KeepG d G G' → R (.bl true) G') : P__law_great_right [.ref d] G R RX := ⟨ns, d, rfl, D, q⟩
def T__law_great_right : TWS :=
  (sSeq (sPar 1 2 (tCo (tOpW addW (tK (.int 5)) (tCall0 P__law_next [] (tCo (tV 0) (tCo (tK (.int 4)) tN)))) (tCo (tCall0 P__law_next [] (tCo (tV 0) (tCo (tK (.int 2)) tN))) tN)))
    (sSeq (sSet 3 (tLstW tN))
    (sSeq (sFor (tIRng2 (tCo (tK (.int 1)) (tCo (tV 1) tN))) (gN 4) (sDrop (tMetL appendW (tV 3) (tCo (tCW toTupW (tCo (tFz (tOpW addW (tFz (tOpW addW (tFz (tListRg (tRg2W (tK (.int 1)) (tV 4)))) (tFz (tLstW (tCo (tOpW addW (tV 4) (tK (.int 1))) (tCo (tV 4) tN)))))) (tFz (tListRg (tRg2W (tOpW addW (tV 4) (tK (.int 2))) (tOpW addW (tV 1) (tK (.int 1)))))))) tN)) tN))))
    (sSeq (sSet 3 (tOpW addW (tV 3) (tFz (tOpW mulW (tLstW (tCo (tOpW addW (tTupW (tCo (tNegW (tK (.int 1))) tN)) (tTupleRg (tRg2W (tK (.int 2)) (tOpW addW (tV 1) (tK (.int 1)))))) tN)) (tV 2)))))
    (sSeq (sPar 5 6 (tCo (tFz (tMakeKX "Group" 2 ["base"] P_Group___init___x (fun us ws => us ++ ws) xn (tCo (tV 1) (tCo (tV 3) tN)) (tCo (tCall0 P__law_base_drawn [] (tCo (tV 0) (tCo (tV 1) tN))) tN))) (tCo (tTupleRg (tRg2W (tK (.int 1)) (tOpW addW (tV 1) (tK (.int 1))))) tN)))
    (sSeq (sFor (tIRng1 (tCo (tK (.int 10)) tN)) (gN 4) (sSet 6 (tCall0 P__law_joined [] (tCo (tV 6) (tCo (tOpW ixW (tV 3) (tCall0 P__law_next [] (tCo (tV 0) (tCo (tCW lenQ (tCo (tV 3) tN)) tN)))) tN)))))
    (sRet (tAndE (tMethKX "Group" "has" ["thing"] P_Group_has_x (fun us ws => us ++ ws) xn (tV 5) (tCo (tV 6) tN)) (tCall0 P__law_factors_right [] (tCo (tV 5) (tCo (tV 6) (tCo (tV 1) tN))))))))))))
theorem rd__law_great_right (ws : List W) (G : GH) (R : KW) (RX : XW) (h : P__law_great_right ws G R RX) : T__law_great_right { nx := fun _ G' => fgt R .non G', rt := fgt R } (startW N__law_great_right ws) G := by
  obtain ⟨ns, d, rfl, D, q⟩ := h
  conv => whnf
  refine p__law_next (show (0 : Int) < 4 by decide) D fun rm G1 a0 a1 D1 k1 => ?_
  conv => whnf
  refine p__law_next (show (0 : Int) < 2 by decide) D1 fun sg G2 b0 b1 D2 k2 => ?_
  conv => whnf
  generalize hmany : 5 + rm = many
  have h0 : 5 ≤ many := by omega
  have h8 : many ≤ 8 := by omega
  refine ⟨sz0, fun p hp => ?_⟩
  conv => whnf
  have pd : p ≠ d := fun e => D2.off hp e.symm
  have K2 : KeepG d G G2 := k1.trans k2
  have hpG : G p = none := by
    cases e : G p with
    | none => rfl
    | some o => have := K2 _ _ pd e; rw [hp] at this; cases this
  have D3 := D2.new (o := .lst []) hp
  refine ⟨⟨by decide, by decide, by omega, by omega⟩, ?_⟩
  conv => whnf
  have hks : ∀ k ∈ List.range (many - 1).toNat, (1 : Int) + (k : Int) < many := fun k hk => by
    rw [List.mem_range] at hk; omega
  refine forW_map (f := fun k : Nat => W.int (1 + (k : Int))) (I := fun ks S G' => ∃ (ms : List (List Int)) (x4 x5 x6 : Option W), S = [some (.ref d), some (.int many), some (.int sg), some (.ref p), x4, x5, x6] ∧ G' p = some (.lst (ms.map cTup)) ∧ Dr ns d G' ∧ KeepG d G G' ∧ (∀ t ∈ ms, TurnOf many t) ∧ ms.length + ks.length = (many - 1).toNat ∧ ∀ k ∈ ks, (1 : Int) + (k : Int) < many) (fun k ks S G' => ?_) (fun S G' => ?_) _ _ _ ⟨[], _, _, _, rfl, updG_same, D3, K2.trans (ExtG.keep (.new hp)), fun t h => (by cases h), by rw [List.length_range, List.length_nil]; omega, hks⟩
  · rintro ⟨ms, x4, x5, x6, rfl, gp, D, K, hms, hl, hk⟩ N hN
    rw [List.length_cons] at hl
    have hk1 := hk k List.mem_cons_self
    refine ⟨trivial, ?_⟩
    conv => whnf
    refine ⟨recL_lst gp, ?_⟩
    conv => whnf
    refine ⟨⟨by decide, by decide, by omega, by omega⟩, frz_lst ?_⟩
    conv => whnf
    refine ⟨sz2 _ _, frz_lst ?_⟩
    conv => whnf
    refine ⟨by rw [List.length_map, rgI_length, sizeLine_eq]; show _ + 2 ≤ _; omega, frz_lst ?_⟩
    conv => whnf
    refine ⟨⟨by omega, by omega, by omega, by omega⟩, frz_lst ?_⟩
    conv => whnf
    refine ⟨by rw [List.length_append, List.length_map, List.length_map, rgI_length, rgI_length, sizeLine_eq]; show _ + 2 + _ ≤ _; omega, frz_lst ?_⟩
    conv => whnf
    rw [gp]
    conv => whnf
    refine ⟨by rw [List.length_map, sizeLine_eq]; omega, ?_⟩
    refine hN _ _ ⟨ms ++ [nearL many (1 + (k : Int))], _, _, _, rfl, ?_, D.upd pd.symm, K.putNew hpG, fun t ht => ?_, by rw [List.length_append, List.length_singleton]; omega, fun k h => hk k (List.mem_cons_of_mem _ h)⟩
    · rw [updG_same, List.map_append]
      unfold nearL
      show some (GO.lst (ms.map cTup ++ [W.tup ((rgI 1 (1 + (k : Int))).map W.int ++ [W.int (1 + (k : Int) + 1), W.int (1 + (k : Int))] ++ (rgI (1 + (k : Int) + 2) (many + 1)).map W.int)])) = some (GO.lst (ms.map cTup ++ [W.tup ((rgI 1 (1 + (k : Int)) ++ [1 + (k : Int) + 1, 1 + (k : Int)] ++ rgI (1 + (k : Int) + 2) (many + 1)).map W.int)]))
      rw [List.map_append (l₂ := rgI (1 + (k : Int) + 2) (many + 1)), List.map_append]
      rfl
    · rcases List.mem_append.mp ht with h | h
      · exact hms t h
      · rw [List.mem_singleton.mp h]; exact near_turn h0 h8 (by omega) hk1
  · rintro ⟨ms, x4, x5, x6, rfl, gp, D, K, hms, hl, _⟩
    rw [List.length_nil] at hl
    refine ⟨trivial, ?_⟩
    conv => whnf
    refine ⟨sz1 _, ?_⟩
    conv => whnf
    refine ⟨⟨by decide, by decide, by omega, by omega⟩, ?_⟩
    conv => whnf
    refine ⟨by rw [List.length_map, rgI_length, sizeLine_eq]; show 1 + _ ≤ _; omega, ?_⟩
    conv => whnf
    refine ⟨sz1 _, fun l hl2 => ?_⟩
    have lp : p ≠ l := fun e => by rw [e, hl2] at gp; cases gp
    have ld : l ≠ d := fun e => D.off hl2 e.symm
    have esg : W.tup ([W.int (-1)] ++ (rgI 2 (many + 1)).map W.int) = cTup (signL many) := by unfold signL; show _ = W.tup (([-1] ++ rgI 2 (many + 1)).map W.int); rw [List.map_append]; rfl
    conv => whnf
    rw [updG_same]
    conv => whnf
    refine ⟨by omega, by omega, by rw [List.length_singleton, sizeLine_eq]; omega, frz_lst ?_⟩
    obtain ⟨ex, hex, hexl, hext⟩ : ∃ ex : List (List Int), (List.replicate sg.toNat [W.tup ([W.int (-1)] ++ (rgI 2 (many + 1)).map W.int)]).flatten = ex.map cTup ∧ ex.length ≤ 1 ∧ ∀ t ∈ ex, TurnOf many t := by
      rcases (show sg = 0 ∨ sg = 1 by omega) with rfl | rfl
      · exact ⟨[], rfl, Nat.zero_le _, fun t h => by cases h⟩
      · exact ⟨[signL many], by rw [List.map_cons, ← esg]; rfl, Nat.le_refl _, fun t h => by rw [List.mem_singleton.mp h]; exact sign_turn h0 h8⟩
    conv => whnf
    have gp5 : updG G' l (.lst [W.tup ([W.int (-1)] ++ (rgI 2 (many + 1)).map W.int)]) p = some (.lst (ms.map cTup)) := by rw [updG_ne lp]; exact gp
    have D5 : Dr ns d (updG G' l (.lst [W.tup ([W.int (-1)] ++ (rgI 2 (many + 1)).map W.int)])) := D.new hl2
    have K5 : KeepG d G (updG G' l (.lst [W.tup ([W.int (-1)] ++ (rgI 2 (many + 1)).map W.int)])) := K.trans (ExtG.keep (.new hl2))
    generalize updG G' l (.lst [W.tup ([W.int (-1)] ++ (rgI 2 (many + 1)).map W.int)]) = G5 at gp5 D5 K5
    rw [hex, lstAt_ref gp5]
    dsimp only [lstAt]
    refine ⟨by rw [List.length_map, List.length_map, sizeLine_eq]; omega, fun p3 hp3 => ?_⟩
    rw [← List.map_append]
    have pd3 : p3 ≠ d := fun e => D5.off hp3 e.symm
    have hmk : ∀ t ∈ ms ++ ex, TurnOf many t := fun t h => (List.mem_append.mp h).elim (hms t) (hext t)
    have hne : 0 < (ms ++ ex).length := by rw [List.length_append]; omega
    have hml : (ms ++ ex).length ≤ 8 := by rw [List.length_append]; omega
    have gp6 : updG G5 p3 (.lst ((ms ++ ex).map cTup)) p3 = some (.lst ((ms ++ ex).map cTup)) := updG_same
    have D6 : Dr ns d (updG G5 p3 (.lst ((ms ++ ex).map cTup))) := D5.new hp3
    have K6 : KeepG d G (updG G5 p3 (.lst ((ms ++ ex).map cTup))) := K5.trans (ExtG.keep (.new hp3))
    generalize ms ++ ex = mk at hmk hne hml gp6 D6 K6
    generalize updG G5 p3 (.lst (mk.map cTup)) = G6 at gp6 D6 K6
    conv => whnf
    refine p__law_base_drawn (by omega) (by omega) D6 fun fl G7 hfl hnd D7 k7 => ?_
    conv => whnf
    have gp7 : G7 p3 = some (.lst (mk.map cTup)) := k7 _ _ pd3 gp6
    refine ⟨rfl, rfl, grp_made (by omega) (by omega) (itemsW_lst gp7) rfl hmk (by omega) hfl hnd fun ch fw hfw OO => ?_⟩
    conv => whnf
    refine ⟨⟨by decide, by decide, by omega, by omega⟩, ?_⟩
    rw [still_rg]
    conv => whnf
    refine ⟨by decide, by decide, ?_⟩
    refine forW_map (f := fun i : Nat => W.int (0 + (i : Int))) (I := fun ks S G8 => ∃ (t : List Int) (x4 : Option W), S = [some (.ref d), some (.int many), some (.int sg), some (.ref p3), x4, some (grW many fw (makersL many mk) ch), some (cTup t)] ∧ G8 p3 = some (.lst (mk.map cTup)) ∧ Dr ns d G8 ∧ KeepG d G G8 ∧ Gen many mk t) (fun k ks S G8 => ?_) (fun S G8 => ?_) _ _ _ ⟨stillL many, _, rfl, gp7, D7, K6.trans k7, .one⟩
    · rintro ⟨t, x4, rfl, gp, D, K, g⟩ N hN
      refine ⟨trivial, ?_⟩
      conv => whnf
      rw [gp]
      conv => whnf
      refine p__law_next (show (0 : Int) < ((mk.map cTup).length : Nat) by rw [List.length_map]; omega) D fun r G9 r0 r1 D9 k9 => ?_
      rw [List.length_map] at r1
      have hr : r.toNat < mk.length := by omega
      have hat : atI (mk.map cTup) r = some (cTup mk[r.toNat]) := by
        unfold atI ixN
        rw [if_pos r0, List.length_map, if_pos r1]
        simp [hr]
      have gp9 := k9 _ _ pd3 gp
      conv => whnf
      rw [gp9]
      conv => whnf
      refine ⟨_, hat, ?_⟩
      conv => whnf
      have hm := List.getElem_mem hr
      refine p__law_joined (g.turn (by omega) (by omega) hmk) (hmk _ hm) ?_
      exact hN _ _ ⟨_, _, rfl, gp9, D9, K.trans k9, .mul g hm⟩
    · rintro ⟨t, x4, rfl, gp, D, K, g⟩
      refine ⟨trivial, ?_⟩
      have g2 : Gen many (makersL many mk) t := (makers_gen (by omega) (by omega) hmk).mpr g
      have tt := g.turn (by omega) (by omega) hmk
      conv => whnf
      refine ⟨rfl, ?_⟩
      conv => whnf
      refine ⟨rfl, ?_⟩
      refine p_Group_has_x OO (ask_ints t _ (by have := tt.len; omega)) ?_
      rw [hasC_turn.mpr g2]
      conv => whnf
      refine p__law_factors_right OO hfw g2 ?_
      exact ret (q _ D K)
abbrev s__law_great_right : Stmt := topS 56
theorem sc__law_great_right : FnScope N__law_great_right ["draw"] (defScope s__law_great_right) := ⟨rfl, rfl, rfl, by decide +kernel, rfl, by decide +kernel, by decide +kernel⟩
theorem dv__law_great_right (D__law_next : DfG P w K mg base CX0 2 "_law_next" ["draw", "size"] [] P__law_next) (z_range : mg "range" = none) (z_list : mg "list" = none) (z_tuple : mg "tuple" = none) (KM_Group___init___x_3_base : KmG P w K mg base (L2.CX P w) 20 "Group" ["self", "many", "makers", "base"] 2 ["base"] (fun us ws => us ++ ws) P_Group___init___x) (D__law_base_drawn : DfG P w K mg base CX0 3 "_law_base_drawn" ["draw", "many"] [] P__law_base_drawn) (D__law_joined : DfG P w K mg base CX0 2 "_law_joined" ["one", "other"] [] P__law_joined) (z_len : mg "len" = none) (KE_Group_has_x_1_thing : KeG P w K mg base (L2.CX P w) 4 "Group" "has" ["self", "thing"] ["thing"] (fun us ws => us ++ ws) P_Group_has_x) (D__law_factors_right : DfG P w K mg base CX0 6 "_law_factors_right" ["group", "turn", "many"] [] P__law_factors_right) {f : Addr} {cdv : Value} {A : Around} {outer : List Env} {s : Shared} {H : Hp} {E : XK} {G : GH} (hgd : A.guards = some []) (hr : Room 21 (A.deeper (envOfC "_law_great_right" (defScope s__law_great_right) s.heap.objs.size f cdv))) :
    WSs (cxOf CX0 P w K mg base N__law_great_right "_law_great_right" (defScope s__law_great_right) f cdv A outer s H E).nox (G, H) (defBody s__law_great_right) T__law_great_right :=
  (wss_cons (ws_par (i := 1) (j := 2) rfl sc__law_great_right.nd rfl rfl (by decide) rfl rfl (wa_cons (we_op op_addW we_int (we_h D__law_next hgd hr (wa_cons (we_v 0) (wa_cons we_int wa_nil)))) (wa_cons (we_h D__law_next hgd hr (wa_cons (we_v 0) (wa_cons we_int wa_nil))) wa_nil)) (by rfl))
    (wss_cons (ws_s 3 sc__law_great_right.nd (we_lst wa_nil))
    (wss_cons (ws_for PassesOwn.never rfl (wi_range2 (by rfl) z_range (wa_cons we_int (wa_cons (we_v 1) wa_nil))) (wg_n 4 sc__law_great_right.nd) (wss_one (ws_expr (we_mL (pe_bm PySem.F.plainAttrs_list PySem.F.slot_list_append PySem.F.type_list_append mt_appendW (we_v 3) (wa_cons (we_ct call_tupW (by rfl) z_tuple bt_tuple (wa_cons (we_fz (we_op op_addW (we_fz (we_op op_addW (we_fz (we_listRg rfl (by rfl) z_list (prgW_2 (by rfl) z_range we_int (we_v 4)))) (we_fz (we_lst (wa_cons (we_op op_addW (we_v 4) we_int) (wa_cons (we_v 4) wa_nil)))))) (we_fz (we_listRg rfl (by rfl) z_list (prgW_2 (by rfl) z_range (we_op op_addW (we_v 4) we_int) (we_op op_addW (we_v 1) we_int)))))) wa_nil)) wa_nil))))))
    (wss_cons (ws_s 3 sc__law_great_right.nd (we_op op_addW (we_v 3) (we_fz (we_op op_mulWW (we_lst (wa_cons (we_op op_addW (we_tup (wa_cons (we_neg we_int) wa_nil)) (we_tupleRg rfl (by rfl) z_tuple (prgW_2 (by rfl) z_range we_int (we_op op_addW (we_v 1) we_int)))) wa_nil)) (we_v 2)))))
    (wss_cons (ws_par (i := 5) (j := 6) rfl sc__law_great_right.nd rfl rfl (by decide) rfl rfl (wa_cons (we_fz (we_mkKR TX.no KM_Group___init___x_3_base hgd hr (by rfl) (wa_cons (we_v 1) (wa_cons (we_v 3) wa_nil)) (wk_cons (we_h D__law_base_drawn hgd hr (wa_cons (we_v 0) (wa_cons (we_v 1) wa_nil))) wk_nil))) (wa_cons (we_tupleRg rfl (by rfl) z_tuple (prgW_2 (by rfl) z_range we_int (we_op op_addW (we_v 1) we_int))) wa_nil)) (by rfl))
    (wss_cons (ws_for PassesOwn.never rfl (wi_range1 (by rfl) z_range (wa_cons we_int wa_nil)) (wg_n 4 sc__law_great_right.nd) (wss_one (ws_s 6 sc__law_great_right.nd (we_h D__law_joined hgd hr (wa_cons (we_v 6) (wa_cons (we_ix (hu1 hr) (we_v 3) (we_h D__law_next hgd hr (wa_cons (we_v 0) (wa_cons (we_cb call_lenQ (by rfl) z_len bt_len (wa_cons (we_v 3) wa_nil)) wa_nil)))) wa_nil))))))
    (wss_one (ws_ret (we_and (we_mkwR TX.no KE_Group_has_x_1_thing hgd hr (we_v 5) (wk_cons (we_v 6) wk_nil)) (we_one (we_h D__law_factors_right hgd hr (wa_cons (we_v 5) (wa_cons (we_v 6) (wa_cons (we_v 1) wa_nil))))))))))))))
theorem ok__law_great_right (D__law_next : DfG P w K mg base CX0 2 "_law_next" ["draw", "size"] [] P__law_next) (z_range : mg "range" = none) (z_list : mg "list" = none) (z_tuple : mg "tuple" = none) (KM_Group___init___x_3_base : KmG P w K mg base (L2.CX P w) 20 "Group" ["self", "many", "makers", "base"] 2 ["base"] (fun us ws => us ++ ws) P_Group___init___x) (D__law_base_drawn : DfG P w K mg base CX0 3 "_law_base_drawn" ["draw", "many"] [] P__law_base_drawn) (D__law_joined : DfG P w K mg base CX0 2 "_law_joined" ["one", "other"] [] P__law_joined) (z_len : mg "len" = none) (KE_Group_has_x_1_thing : KeG P w K mg base (L2.CX P w) 4 "Group" "has" ["self", "thing"] ["thing"] (fun us ws => us ++ ws) P_Group_has_x) (D__law_factors_right : DfG P w K mg base CX0 6 "_law_factors_right" ["group", "turn", "many"] [] P__law_factors_right) {f : Addr} {fd : FuncData} (F : Fun K "_law_great_right" "_law_great_right" s__law_great_right f fd) : FnG P w K mg base CX0 22 f fd ["draw"] (spL K P__law_great_right) :=
  okF F sc__law_great_right len__law_great_right fun cdv A outer s H E ws G R RX hgd hr h => ⟨T__law_great_right, dv__law_great_right D__law_next z_range z_list z_tuple KM_Group___init___x_3_base D__law_base_drawn D__law_joined z_len KE_Group_has_x_1_thing D__law_factors_right hgd hr, rd__law_great_right ws G R RX h⟩
abbrev N_law : List Str := ["script", "draw", "many", "makers", "found", "group", "turn", "item", "due", "told"]
structure P_law (ws : List W) (G : GH) (R : KW) (RX : XW) : Prop where
  ex : ∃ (ns : List Int), ws = [.fl (ns.map W.int)] ∧ (NsOk ns) ∧ (∀ G', R (.bl true) G')
theorem len_law : ∀ ws G R RX, P_law ws G R RX → ws.length = ["script"].length := by
  rintro ws G R RX ⟨⟨_, rfl, _, _⟩⟩; rfl
def T_law : TWS :=
  (sSeq (sSet 1 (tLstW (tCo (tFz (tCW toListDW (tCo (tV 0) tN))) (tCo (tK (.int 0)) tN))))
    (sSeq (sIf (tAndW (tTestW (tOpW (eqQ false) (tCall0 P__law_next [] (tCo (tV 1) (tCo (tK (.int 8)) tN))) (tK (.int 0)))) (tNotW (tTruW (tCall0 P__law_great_right [] (tCo (tV 1) tN))))) (sRet (tK (.bl false))) sNext)
    (sSeq (sAsg (tCall0 P__law_some [] (tCo (tV 1) tN)) (gU 3 (gsC (gN 2) (gsC (gN 3) (gsC (gN 4) gsN)))))
    (sSeq (sSet 5 (tFz (tMakeKX "Group" 2 ["base"] P_Group___init___x (fun us ws => us ++ ws) xn (tCo (tV 2) (tCo (tV 3) tN)) (tCo (tCall0 P__law_base_drawn [] (tCo (tV 1) (tCo (tV 2) tN))) tN))))
    (sSeq (sFor (tIRng1 (tCo (tK (.int 10)) tN)) (gN 6) (sSeq (sSet 7 (tCall0 P__law_thing [] (tCo (tV 1) (tCo (tV 2) (tCo (tV 4) tN)))))
    (sSeq (sSet 8 (tCall0 P__law_is_in [] (tCo (tV 7) (tCo (tV 4) tN))))
    (sSeq (sSet 9 (tMethKX "Group" "has" ["thing"] P_Group_has_x (fun us ws => us ++ ws) xn (tV 5) (tCo (tV 7) tN)))
    (sSeq (sIf (tOrW (tNotW (tTruW (tCW (isiC .bo) (tCo (tV 9) (tCo (tK (.ty "bool")) tN))))) (tTestW (tOpW (eqQ true) (tV 9) (tV 8)))) (sRet (tK (.bl false))) sNext)
    (sSeq (sIf (tAndW (tTruW (tV 8)) (tNotW (tTruW (tCall0 P__law_factors_right [] (tCo (tV 5) (tCo (tV 7) (tCo (tV 2) tN))))))) (sRet (tK (.bl false))) sNext)
    (sIf (tAndW (tNotW (tTruW (tV 8))) (tNotW (tTruW (tCall0 P__law_refused [] (tCo (tV 5) (tCo (tV 7) tN)))))) (sRet (tK (.bl false))) sNext)))))))
    (sRet (tK (.bl true))))))))
theorem rd_law (ws : List W) (G : GH) (R : KW) (RX : XW) (h : P_law ws G R RX) : T_law { nx := fun _ G' => fgt R .non G', rt := fgt R } (startW N_law ws) G := by
  obtain ⟨ns, rfl, O, q⟩ := h
  have hns := O.len
  conv => whnf
  refine frz_lst ?_
  conv => whnf
  refine ⟨by simp [sizeLine_eq], ?_⟩
  (intro d hd); (generalize eG0 : updG G d _ = G0); (have xG0 : ExtG G G0 := eG0 ▸ ExtG.new hd); (have gG0 := (congrFun eG0 d).symm); (rw [updG_same] at gG0); (clear eG0)
  have D0 : Dr ns d G0 := .start O gG0
  conv => whnf
  refine p__law_next (show (0 : Int) < 8 by decide) D0 fun gr G1 r0 r1 D1 k1 => ?_
  conv => whnf
  rw [fbne]
  have fin : ∀ G2 : GH, Dr ns d G2 → (sSeq (sAsg (tCall0 P__law_some [] (tCo (tV 1) tN)) (gU 3 (gsC (gN 2) (gsC (gN 3) (gsC (gN 4) gsN)))))
      (sSeq (sSet 5 (tFz (tMakeKX "Group" 2 ["base"] P_Group___init___x (fun us ws => us ++ ws) xn (tCo (tV 2) (tCo (tV 3) tN)) (tCo (tCall0 P__law_base_drawn [] (tCo (tV 1) (tCo (tV 2) tN))) tN))))
      (sSeq (sFor (tIRng1 (tCo (tK (.int 10)) tN)) (gN 6) (sSeq (sSet 7 (tCall0 P__law_thing [] (tCo (tV 1) (tCo (tV 2) (tCo (tV 4) tN)))))
      (sSeq (sSet 8 (tCall0 P__law_is_in [] (tCo (tV 7) (tCo (tV 4) tN))))
      (sSeq (sSet 9 (tMethKX "Group" "has" ["thing"] P_Group_has_x (fun us ws => us ++ ws) xn (tV 5) (tCo (tV 7) tN)))
      (sSeq (sIf (tOrW (tNotW (tTruW (tCW (isiC .bo) (tCo (tV 9) (tCo (tK (.ty "bool")) tN))))) (tTestW (tOpW (eqQ true) (tV 9) (tV 8)))) (sRet (tK (.bl false))) sNext)
      (sSeq (sIf (tAndW (tTruW (tV 8)) (tNotW (tTruW (tCall0 P__law_factors_right [] (tCo (tV 5) (tCo (tV 7) (tCo (tV 2) tN))))))) (sRet (tK (.bl false))) sNext)
      (sIf (tAndW (tNotW (tTruW (tV 8))) (tNotW (tTruW (tCall0 P__law_refused [] (tCo (tV 5) (tCo (tV 7) tN)))))) (sRet (tK (.bl false))) sNext)))))))
      (sRet (tK (.bl true)))))) { nx := fun x G' => fgt R W.non G', rt := fgt R } [some (.fl (ns.map W.int)), some (.ref d), none, none, none, none, none, none, none, none] G2 := fun G2 D2 => by
    conv => whnf
    refine p__law_some D2 fun many ms L G3 h0 h12 hms hml L0 La Ln Lu Ll D3 k3 => ?_
    (try conv => whnf); (repeat (first | (refine Exists.intro _ (And.intro rfl ?_); conv => whnf) | (refine And.intro rfl ?_; conv => whnf) | (refine frz_lst ?_; conv => whnf) | (refine frz_dK ?_; conv => whnf) | (refine frz_dT ?_; conv => whnf)))
    refine p__law_base_drawn h0 (by omega) D3 fun fl G4 hfl hnd D4 k4 => ?_
    conv => whnf
    refine ⟨rfl, rfl, grp_made h0 h12 rfl rfl hms (by omega) hfl hnd fun ch fw hfw OO => ?_⟩
    conv => whnf
    refine ⟨by decide, by decide, ?_⟩
    have hLt : ∀ t ∈ L, TurnOf many t := fun t h => ((La t).mp h).turn h0 (by omega) hms
    refine forW_map (f := fun i : Nat => W.int (0 + (i : Int))) (I := fun ks S G5 => ∃ (x6 x7 x8 x9 : Option W), S = [some (.fl (ns.map W.int)), some (.ref d), some (.int many), some (.fl (ms.map cTup)), some (.fl (L.map cTup)), some (grW many fw (makersL many ms) ch), x6, x7, x8, x9] ∧ Dr ns d G5) (fun k ks S G5 => ?_) (fun S G5 => ?_) _ _ _ ⟨_, _, _, _, rfl, D4⟩
    · rintro ⟨x6, x7, x8, x9, rfl, D⟩ N hN
      refine ⟨trivial, ?_⟩
      conv => whnf
      refine p__law_thing h0 h12 hLt L0 Ll D fun w G6 hw D6 k6 => ?_
      conv => whnf
      refine p__law_is_in hw Ll fun b hb => ?_
      have hbb : hasC many (makersL many ms) w = b := by
        rw [Bool.eq_iff_iff, hb]
        constructor
        · intro h
          obtain ⟨t, e, g⟩ := hasC_ex h
          exact ⟨t, e, (La t).mpr ((makers_gen h0 (by omega) hms).mp g)⟩
        · rintro ⟨t, rfl, h⟩
          exact hasC_turn.mpr ((makers_gen h0 (by omega) hms).mpr ((La t).mp h))
      have ask : ∀ G7 : GH, Ask G7 w := fun G7 => ask_thing hw
      conv => whnf
      refine ⟨rfl, ?_⟩
      conv => whnf
      refine ⟨rfl, ?_⟩
      refine p_Group_has_x OO (ask _) ?_
      rw [hbb]
      conv => whnf
      refine ⟨rfl, isiW_of (show tyW (.bl b) G6 = some .bo by simp [tyW]) ?_⟩
      conv => whnf
      refine eqS_hd (n := true) (a := b) (b := b) (hd_w b) (hd_w b) (by decide) ?_
      rw [decide_eq_true rfl]
      conv => whnf
      cases b with
      | true =>
        obtain ⟨t, rfl, ht⟩ := hb.mp rfl
        have g : Gen many (makersL many ms) t := (makers_gen h0 (by omega) hms).mpr ((La t).mp ht)
        conv => whnf
        refine p__law_factors_right OO hfw g ?_
        conv => whnf
        exact hN _ _ ⟨_, _, _, _, rfl, D6⟩
      | false =>
        conv => whnf
        refine p__law_refused OO hfw (ask _) hbb ?_
        conv => whnf
        exact hN _ _ ⟨_, _, _, _, rfl, D6⟩
    · rintro ⟨x6, x7, x8, x9, rfl, D⟩
      refine ⟨trivial, ?_⟩
      conv => whnf
      exact ret (q _)
  by_cases hg : gr = 0
  · rw [decide_eq_true hg]
    conv => whnf
    refine p__law_great_right D1 fun G2 D2 k2 => ?_
    conv => whnf
    exact fin G2 D2
  · rw [decide_eq_false hg]
    conv => whnf
    exact fin G1 D1
abbrev s_law : Stmt := topS 57
theorem sc_law : FnScope N_law ["script"] (defScope s_law) := ⟨rfl, rfl, rfl, by decide +kernel, rfl, by decide +kernel, by decide +kernel⟩
theorem dv_law (z_list : mg "list" = none) (D__law_next : DfG P w K mg base CX0 2 "_law_next" ["draw", "size"] [] P__law_next) (D__law_great_right : DfG P w K mg base CX0 22 "_law_great_right" ["draw"] [] P__law_great_right) (D__law_some : DfG P w K mg base CX0 4 "_law_some" ["draw"] [] P__law_some) (KM_Group___init___x_3_base : KmG P w K mg base (L2.CX P w) 20 "Group" ["self", "many", "makers", "base"] 2 ["base"] (fun us ws => us ++ ws) P_Group___init___x) (D__law_base_drawn : DfG P w K mg base CX0 3 "_law_base_drawn" ["draw", "many"] [] P__law_base_drawn) (z_range : mg "range" = none) (D__law_thing : DfG P w K mg base CX0 4 "_law_thing" ["draw", "many", "found"] [] P__law_thing) (D__law_is_in : DfG P w K mg base CX0 1 "_law_is_in" ["item", "found"] [] P__law_is_in) (KE_Group_has_x_1_thing : KeG P w K mg base (L2.CX P w) 4 "Group" "has" ["self", "thing"] ["thing"] (fun us ws => us ++ ws) P_Group_has_x) (z_isinstance : mg "isinstance" = none) (z_bool : mg "bool" = none) (D__law_factors_right : DfG P w K mg base CX0 6 "_law_factors_right" ["group", "turn", "many"] [] P__law_factors_right) (D__law_refused : DfG P w K mg base CX0 6 "_law_refused" ["group", "item"] [] P__law_refused) {f : Addr} {cdv : Value} {A : Around} {outer : List Env} {s : Shared} {H : Hp} {E : XK} {G : GH} (hgd : A.guards = some []) (hr : Room 22 (A.deeper (envOfC "law" (defScope s_law) s.heap.objs.size f cdv))) :
    WSs (cxOf CX0 P w K mg base N_law "law" (defScope s_law) f cdv A outer s H E).nox (G, H) (defBody s_law) T_law :=
  (wss_cons (ws_s 1 sc_law.nd (we_lst (wa_cons (we_fz (we_ct (call_listDW rfl) (by rfl) z_list bt_list (wa_cons (we_v 0) wa_nil))) (wa_cons we_int wa_nil))))
    (wss_cons (ws_if (wp_t (wp_and (wt_cmp (op_eqQ (hu64 hr)) (we_h D__law_next hgd hr (wa_cons (we_v 1) (wa_cons we_int wa_nil))) we_int (nomark _)) (wp_and1 (wt_not (wt_truth (we_h D__law_great_right hgd hr (wa_cons (we_v 1) wa_nil))))))) (wss_one (ws_ret we_bl)) wss_nil)
    (wss_cons (ws_asg (we_h D__law_some hgd hr (wa_cons (we_v 1) wa_nil)) (wg_unp rfl (wgs_cons (wg_n 2 sc_law.nd) (wgs_cons (wg_n 3 sc_law.nd) (wgs_cons (wg_n 4 sc_law.nd) wgs_nil)))))
    (wss_cons (ws_s 5 sc_law.nd (we_fz (we_mkKR TX.no KM_Group___init___x_3_base hgd hr (by rfl) (wa_cons (we_v 2) (wa_cons (we_v 3) wa_nil)) (wk_cons (we_h D__law_base_drawn hgd hr (wa_cons (we_v 1) (wa_cons (we_v 2) wa_nil))) wk_nil))))
    (wss_cons (ws_for PassesOwn.never rfl (wi_range1 (by rfl) z_range (wa_cons we_int wa_nil)) (wg_n 6 sc_law.nd) (wss_cons (ws_s 7 sc_law.nd (we_h D__law_thing hgd hr (wa_cons (we_v 1) (wa_cons (we_v 2) (wa_cons (we_v 4) wa_nil)))))
    (wss_cons (ws_s 8 sc_law.nd (we_h D__law_is_in hgd hr (wa_cons (we_v 7) (wa_cons (we_v 4) wa_nil))))
    (wss_cons (ws_s 9 sc_law.nd (we_mkwR TX.no KE_Group_has_x_1_thing hgd hr (we_v 5) (wk_cons (we_v 7) wk_nil)))
    (wss_cons (ws_if (wp_t (wp_or (wt_not (wt_truth (we_cb (call_isiW .bo) (by rfl) z_isinstance bt_isinstance (wa_cons (we_v 9) (wa_cons (we_ty (by rfl) z_bool bt_bool) wa_nil))))) (wp_or1 (wt_cmp (op_neQ (hu64 hr)) (we_v 9) (we_v 8) (nomark _))))) (wss_one (ws_ret we_bl)) wss_nil)
    (wss_cons (ws_if (wp_t (wp_and (wt_truth (we_v 8)) (wp_and1 (wt_not (wt_truth (we_h D__law_factors_right hgd hr (wa_cons (we_v 5) (wa_cons (we_v 7) (wa_cons (we_v 2) wa_nil))))))))) (wss_one (ws_ret we_bl)) wss_nil)
    (wss_one (ws_if (wp_t (wp_and (wt_not (wt_truth (we_v 8))) (wp_and1 (wt_not (wt_truth (we_h D__law_refused hgd hr (wa_cons (we_v 5) (wa_cons (we_v 7) wa_nil)))))))) (wss_one (ws_ret we_bl)) wss_nil))))))))
    (wss_one (ws_ret we_bl)))))))
theorem ok_law (z_list : mg "list" = none) (D__law_next : DfG P w K mg base CX0 2 "_law_next" ["draw", "size"] [] P__law_next) (D__law_great_right : DfG P w K mg base CX0 22 "_law_great_right" ["draw"] [] P__law_great_right) (D__law_some : DfG P w K mg base CX0 4 "_law_some" ["draw"] [] P__law_some) (KM_Group___init___x_3_base : KmG P w K mg base (L2.CX P w) 20 "Group" ["self", "many", "makers", "base"] 2 ["base"] (fun us ws => us ++ ws) P_Group___init___x) (D__law_base_drawn : DfG P w K mg base CX0 3 "_law_base_drawn" ["draw", "many"] [] P__law_base_drawn) (z_range : mg "range" = none) (D__law_thing : DfG P w K mg base CX0 4 "_law_thing" ["draw", "many", "found"] [] P__law_thing) (D__law_is_in : DfG P w K mg base CX0 1 "_law_is_in" ["item", "found"] [] P__law_is_in) (KE_Group_has_x_1_thing : KeG P w K mg base (L2.CX P w) 4 "Group" "has" ["self", "thing"] ["thing"] (fun us ws => us ++ ws) P_Group_has_x) (z_isinstance : mg "isinstance" = none) (z_bool : mg "bool" = none) (D__law_factors_right : DfG P w K mg base CX0 6 "_law_factors_right" ["group", "turn", "many"] [] P__law_factors_right) (D__law_refused : DfG P w K mg base CX0 6 "_law_refused" ["group", "item"] [] P__law_refused) {f : Addr} {fd : FuncData} (F : Fun K "law" "law" s_law f fd) : FnG P w K mg base CX0 23 f fd ["script"] (spL K P_law) :=
  okF F sc_law len_law fun cdv A outer s H E ws G R RX hgd hr h => ⟨T_law, dv_law z_list D__law_next D__law_great_right D__law_some KM_Group___init___x_3_base D__law_base_drawn z_range D__law_thing D__law_is_in KE_Group_has_x_1_thing z_isinstance z_bool D__law_factors_right D__law_refused hgd hr, rd_law ws G R RX h⟩
abbrev s_NotThere___init__ : Stmt := inClass (topS 9) 0
abbrev N_NotThere___init__ : List Str := ["self", "at"]
theorem sc_NotThere___init__ : FnScope N_NotThere___init__ ["self", "at"] (defScope s_NotThere___init__) := ⟨rfl, rfl, rfl, by decide +kernel, rfl, by decide +kernel, by decide +kernel⟩
end
end K19
set_option Elab.async false
set_option linter.all false
set_option maxRecDepth 100000
set_option maxHeartbeats 4000000
namespace K19
open PySem PySem.Spec PyProof.Rows L2 WL WS
theorem all_mk {P : Program} {w : World} {K : PySem.W.Frag} {h : Heap} {mg : Str → Option Value} {fa : Addr} (X : K.In h) (G : h.Ns mainGlobals mg) (hfa : mg "law" = some (.ref fa))
    {C_Floor : Addr}
    {C_Group : Addr}
    {C_NoProblem : Addr}
    {C_NoTurn : Addr}
    {C_TooMany : Addr}
    {C_NoLetter : Addr}
    {C_NotThere : Addr}
    {nm_NotThere qn_NotThere : Str} {N_NotThere : Addr} {bs_NotThere bm_NotThere : List Value} {sn_NotThere : List Str} {sb_NotThere : List Value} {ab_NotThere : Bool} {co_NotThere : Option Bool} {dd_NotThere : Option Addr} {k0_NotThere k1_NotThere k2_NotThere k3_NotThere k5_NotThere : Option Value}
    {C_NoText : Addr}
    {C_NoClause : Addr}
    {C_NoStep : Addr}
    {C_NoAnswer : Addr}
    {C_NoPart : Addr}
    {C_NoWay : Addr}
    {C_NoLog : Addr}
    {C_NoDeed : Addr}
    {C_Twice : Addr}
    {C_NoAsk : Addr}
    {C_TurnError : Addr}
    {oc0 kV0 dc0 pm0 cd0 ct0 : Value} {od0 an0 : Option Addr} {sl0 : Array (Option Value)} {f0 : Addr}
    {oc1 kV1 dc1 pm1 cd1 ct1 : Value} {od1 an1 : Option Addr} {sl1 : Array (Option Value)} {f1 : Addr}
    {oc2 kV2 dc2 pm2 cd2 ct2 : Value} {od2 an2 : Option Addr} {sl2 : Array (Option Value)} {f2 : Addr}
    {oc3 kV3 dc3 pm3 cd3 ct3 : Value} {od3 an3 : Option Addr} {sl3 : Array (Option Value)} {f3 : Addr}
    {oc4 kV4 dc4 pm4 cd4 ct4 : Value} {od4 an4 : Option Addr} {sl4 : Array (Option Value)} {f4 : Addr}
    {oc5 kV5 dc5 pm5 cd5 ct5 : Value} {od5 an5 : Option Addr} {sl5 : Array (Option Value)} {f5 : Addr}
    {oc6 kV6 dc6 pm6 cd6 ct6 : Value} {od6 an6 : Option Addr} {sl6 : Array (Option Value)} {f6 : Addr}
    {oc7 kV7 dc7 pm7 cd7 ct7 : Value} {od7 an7 : Option Addr} {sl7 : Array (Option Value)} {f7 : Addr}
    {oc8 kV8 dc8 pm8 cd8 ct8 : Value} {od8 an8 : Option Addr} {sl8 : Array (Option Value)} {f8 : Addr}
    {oc9 kV9 dc9 pm9 cd9 ct9 : Value} {od9 an9 : Option Addr} {sl9 : Array (Option Value)} {f9 : Addr}
    {oc10 kV10 dc10 pm10 cd10 ct10 : Value} {od10 an10 : Option Addr} {sl10 : Array (Option Value)} {f10 : Addr}
    {oc11 kV11 dc11 pm11 cd11 ct11 : Value} {od11 an11 : Option Addr} {sl11 : Array (Option Value)} {f11 : Addr}
    {oc12 kV12 dc12 pm12 cd12 ct12 : Value} {od12 an12 : Option Addr} {sl12 : Array (Option Value)} {f12 : Addr}
    {oc13 kV13 dc13 pm13 cd13 ct13 : Value} {od13 an13 : Option Addr} {sl13 : Array (Option Value)} {f13 : Addr}
    {oc14 kV14 dc14 pm14 cd14 ct14 : Value} {od14 an14 : Option Addr} {sl14 : Array (Option Value)} {f14 : Addr}
    {oc15 kV15 dc15 pm15 cd15 ct15 : Value} {od15 an15 : Option Addr} {sl15 : Array (Option Value)} {f15 : Addr}
    {oc16 dc16 pm16 cd16 ct16 : Value} {od16 an16 : Option Addr} {sl16 : Array (Option Value)} {f16 : Addr}
    {T16 : Addr}
    {D16 : Addr}
    {Td16_0 : Addr}
    {tc16 : Value} {to16 : Option Addr} {tn16 : Nat} {ts16 : Array (Option Value)}
    {xto16_0 : Option Addr} {xtn16_0 : Nat} {xts16_0 : Array (Option Value)}
    {Tk16_0 : Addr}
    {xko16_0 : Option Addr} {xkn16_0 : Nat} {xks16_0 : Array (Option Value)}
    {oc17 kV17 dc17 pm17 cd17 ct17 : Value} {od17 an17 : Option Addr} {sl17 : Array (Option Value)} {f17 : Addr}
    {oc18 kV18 dc18 pm18 cd18 ct18 : Value} {od18 an18 : Option Addr} {sl18 : Array (Option Value)} {f18 : Addr}
    {oc19 kV19 dc19 pm19 cd19 ct19 : Value} {od19 an19 : Option Addr} {sl19 : Array (Option Value)} {f19 : Addr}
    {oc20 kV20 dc20 pm20 cd20 ct20 : Value} {od20 an20 : Option Addr} {sl20 : Array (Option Value)} {f20 : Addr}
    {oc21 kV21 dc21 pm21 cd21 ct21 : Value} {od21 an21 : Option Addr} {sl21 : Array (Option Value)} {f21 : Addr}
    {oc22 kV22 dc22 pm22 cd22 ct22 : Value} {od22 an22 : Option Addr} {sl22 : Array (Option Value)} {f22 : Addr}
    {oc23 kV23 dc23 pm23 cd23 ct23 : Value} {od23 an23 : Option Addr} {sl23 : Array (Option Value)} {f23 : Addr}
    {oc24 kV24 dc24 pm24 cd24 ct24 : Value} {od24 an24 : Option Addr} {sl24 : Array (Option Value)} {f24 : Addr}
    {oc25 kV25 dc25 pm25 cd25 ct25 : Value} {od25 an25 : Option Addr} {sl25 : Array (Option Value)} {f25 : Addr}
    {oc26 kV26 dc26 pm26 cd26 ct26 : Value} {od26 an26 : Option Addr} {sl26 : Array (Option Value)} {f26 : Addr}
    {oc27 kV27 dc27 pm27 cd27 ct27 : Value} {od27 an27 : Option Addr} {sl27 : Array (Option Value)} {f27 : Addr}
    {oc28 kV28 dc28 pm28 cd28 ct28 : Value} {od28 an28 : Option Addr} {sl28 : Array (Option Value)} {f28 : Addr}
    {oc29 kV29 dc29 pm29 cd29 ct29 : Value} {od29 an29 : Option Addr} {sl29 : Array (Option Value)} {f29 : Addr}
    {oc30 kV30 dc30 pm30 cd30 ct30 : Value} {od30 an30 : Option Addr} {sl30 : Array (Option Value)} {f30 : Addr}
    {oc31 kV31 dc31 pm31 cd31 ct31 : Value} {od31 an31 : Option Addr} {sl31 : Array (Option Value)} {f31 : Addr}
    {oc32 kV32 dc32 pm32 cd32 ct32 : Value} {od32 an32 : Option Addr} {sl32 : Array (Option Value)} {f32 : Addr}
    {oc33 kV33 dc33 pm33 cd33 ct33 : Value} {od33 an33 : Option Addr} {sl33 : Array (Option Value)} {f33 : Addr}
    {oc34 kV34 dc34 pm34 cd34 ct34 : Value} {od34 an34 : Option Addr} {sl34 : Array (Option Value)} {f34 : Addr}
    {oc35 kV35 dc35 pm35 cd35 ct35 : Value} {od35 an35 : Option Addr} {sl35 : Array (Option Value)} {f35 : Addr}
    {oc36 kV36 dc36 pm36 cd36 ct36 : Value} {od36 an36 : Option Addr} {sl36 : Array (Option Value)} {f36 : Addr}
    {oc37 kV37 dc37 pm37 cd37 ct37 : Value} {od37 an37 : Option Addr} {sl37 : Array (Option Value)} {f37 : Addr}
    {oc38 kV38 dc38 pm38 cd38 ct38 : Value} {od38 an38 : Option Addr} {sl38 : Array (Option Value)} {f38 : Addr}
    {oc39 kV39 dc39 pm39 cd39 ct39 : Value} {od39 an39 : Option Addr} {sl39 : Array (Option Value)} {f39 : Addr}
    {ocxNotThere kVxNotThere dcxNotThere pmxNotThere cdxNotThere ctxNotThere : Value} {odxNotThere anxNotThere : Option Addr} {slxNotThere : Array (Option Value)} {fxNotThere : Addr}
    (aC_Floor : PySem.W.nsIn K mainGlobals "Floor" = some (some (.ref C_Floor)))
    (pg_Floor : PySem.W.plainGet K C_Floor Str.empty = true)
    (hd_Floor : PySem.W.hasDictIn K C_Floor = true)
    (po_Floor : PySem.W.plainOver K C_Floor = true)
    (sa_Floor : PySem.W.findIn K (.ref C_Floor) "__setattr__" = some (some (.builtin "object.__setattr__")))
    (mk_Floor : PySem.W.makesIn K C_Floor = true)
    (kc_Floor : PySem.W.keepIn K (.ref C_Floor) = true)
    (aC_Group : PySem.W.nsIn K mainGlobals "Group" = some (some (.ref C_Group)))
    (pg_Group : PySem.W.plainGet K C_Group Str.empty = true)
    (hd_Group : PySem.W.hasDictIn K C_Group = true)
    (po_Group : PySem.W.plainOver K C_Group = true)
    (sa_Group : PySem.W.findIn K (.ref C_Group) "__setattr__" = some (some (.builtin "object.__setattr__")))
    (mk_Group : PySem.W.makesIn K C_Group = true)
    (kc_Group : PySem.W.keepIn K (.ref C_Group) = true)
    (nNA_Floor_letter : PySem.W.findIn K (.ref C_Floor) "letter" = some none)
    (nNA_Floor_ways : PySem.W.findIn K (.ref C_Floor) "ways" = some none)
    (nNA_Floor_returns : PySem.W.findIn K (.ref C_Floor) "returns" = some none)
    (nNA_Floor_pushers : PySem.W.findIn K (.ref C_Floor) "pushers" = some none)
    (nNA_Group_many : PySem.W.findIn K (.ref C_Group) "many" = some none)
    (nNA_Group_firsts : PySem.W.findIn K (.ref C_Group) "firsts" = some none)
    (nNA_Group_pushers : PySem.W.findIn K (.ref C_Group) "pushers" = some none)
    (nNA_Group_chain : PySem.W.findIn K (.ref C_Group) "chain" = some none)
    (aC_NoProblem : PySem.W.nsIn K mainGlobals "NoProblem" = some (some (.ref C_NoProblem)))
    (xkp_NoProblem : PySem.W.keepIn K (.ref C_NoProblem) = true)
    (xsb_NoProblem : PySem.W.subIn K (.ref C_NoProblem) (.type "BaseException") = some true)
    (xty_NoProblem : PySem.W.typeIn K (.ref C_NoProblem) = some (.type "type"))
    (xex_NoProblem : PySem.W.excIn K C_NoProblem [.type "ValueError", .type "Exception", .type "BaseException", .type "object"] "ValueError.__new__" = true)
    (aC_NoTurn : PySem.W.nsIn K mainGlobals "NoTurn" = some (some (.ref C_NoTurn)))
    (xkp_NoTurn : PySem.W.keepIn K (.ref C_NoTurn) = true)
    (xsb_NoTurn : PySem.W.subIn K (.ref C_NoTurn) (.type "BaseException") = some true)
    (xty_NoTurn : PySem.W.typeIn K (.ref C_NoTurn) = some (.type "type"))
    (xex_NoTurn : PySem.W.excIn K C_NoTurn [.type "ValueError", .type "Exception", .type "BaseException", .type "object"] "ValueError.__new__" = true)
    (aC_TooMany : PySem.W.nsIn K mainGlobals "TooMany" = some (some (.ref C_TooMany)))
    (xkp_TooMany : PySem.W.keepIn K (.ref C_TooMany) = true)
    (xsb_TooMany : PySem.W.subIn K (.ref C_TooMany) (.type "BaseException") = some true)
    (xty_TooMany : PySem.W.typeIn K (.ref C_TooMany) = some (.type "type"))
    (xex_TooMany : PySem.W.excIn K C_TooMany [.type "ValueError", .type "Exception", .type "BaseException", .type "object"] "ValueError.__new__" = true)
    (aC_NoLetter : PySem.W.nsIn K mainGlobals "NoLetter" = some (some (.ref C_NoLetter)))
    (xkp_NoLetter : PySem.W.keepIn K (.ref C_NoLetter) = true)
    (xsb_NoLetter : PySem.W.subIn K (.ref C_NoLetter) (.type "BaseException") = some true)
    (xty_NoLetter : PySem.W.typeIn K (.ref C_NoLetter) = some (.type "type"))
    (xex_NoLetter : PySem.W.excIn K C_NoLetter [.type "ValueError", .type "Exception", .type "BaseException", .type "object"] "ValueError.__new__" = true)
    (aC_NotThere : PySem.W.nsIn K mainGlobals "NotThere" = some (some (.ref C_NotThere)))
    (xlo_NotThere : K.lookup C_NotThere = some (excClassObj nm_NotThere qn_NotThere C_NotThere N_NotThere bs_NotThere bm_NotThere true sn_NotThere sb_NotThere ab_NotThere co_NotThere dd_NotThere k0_NotThere k1_NotThere k2_NotThere k3_NotThere k5_NotThere "ValueError.__new__"))
    (xrf_NotThere : PySem.HandSPX.refsVE bm_NotThere = true)
    (xsa_NotThere : PySem.W.findIn K (.ref C_NotThere) "__setattr__" = some (some (.builtin "object.__setattr__")))
    (xsb_NotThere : PySem.W.subIn K (.ref C_NotThere) (.type "BaseException") = some true)
    (xty_NotThere : PySem.W.typeIn K (.ref C_NotThere) = some (.type "type"))
    (xkp_NotThere : PySem.W.keepIn K (.ref C_NotThere) = true)
    (xno_NotThere : PySem.W.findIn K (.ref C_NotThere) "at" = some none)
    (xti_NotThere : PySem.W.typeIn K (.ref fxNotThere) = some (.type "function"))
    (aC_NoText : PySem.W.nsIn K mainGlobals "NoText" = some (some (.ref C_NoText)))
    (xn_NoText : PySem.W.kitOne K (.type "NoneType") (.ref C_NoText) = some false)
    (xcl_NoProblem : (PySem.W.clsIn K C_NoProblem).isSome = true)
    (xga_NoProblem : PySem.W.findIn K (.ref C_NoProblem) "__getattribute__" = some (some (.builtin "BaseException.__getattribute__")))
    (xgg_NoProblem : PySem.W.findIn K (.ref C_NoProblem) "__getattr__" = some none)
    (xc1_NoProblem : PySem.W.findIn K (.ref C_NoProblem) "__class__" = some (some (.builtin "object.__class__")))
    (xc2 : PySem.W.specialIn K (.builtin "object.__class__") "__get__" = some (some (.builtin "getset_descriptor.__get__")))
    (xc3 : PySem.W.takesIn K (.builtin "object.__class__") = some true)
    (xc4_NoProblem : PySem.W.mroIn K C_NoProblem (.type "object") = some true)
    (xcl_NoTurn : (PySem.W.clsIn K C_NoTurn).isSome = true)
    (xga_NoTurn : PySem.W.findIn K (.ref C_NoTurn) "__getattribute__" = some (some (.builtin "BaseException.__getattribute__")))
    (xgg_NoTurn : PySem.W.findIn K (.ref C_NoTurn) "__getattr__" = some none)
    (xc1_NoTurn : PySem.W.findIn K (.ref C_NoTurn) "__class__" = some (some (.builtin "object.__class__")))
    (xc4_NoTurn : PySem.W.mroIn K C_NoTurn (.type "object") = some true)
    (xcl_TooMany : (PySem.W.clsIn K C_TooMany).isSome = true)
    (xga_TooMany : PySem.W.findIn K (.ref C_TooMany) "__getattribute__" = some (some (.builtin "BaseException.__getattribute__")))
    (xgg_TooMany : PySem.W.findIn K (.ref C_TooMany) "__getattr__" = some none)
    (xc1_TooMany : PySem.W.findIn K (.ref C_TooMany) "__class__" = some (some (.builtin "object.__class__")))
    (xc4_TooMany : PySem.W.mroIn K C_TooMany (.type "object") = some true)
    (xcl_NoLetter : (PySem.W.clsIn K C_NoLetter).isSome = true)
    (xga_NoLetter : PySem.W.findIn K (.ref C_NoLetter) "__getattribute__" = some (some (.builtin "BaseException.__getattribute__")))
    (xgg_NoLetter : PySem.W.findIn K (.ref C_NoLetter) "__getattr__" = some none)
    (xc1_NoLetter : PySem.W.findIn K (.ref C_NoLetter) "__class__" = some (some (.builtin "object.__class__")))
    (xc4_NoLetter : PySem.W.mroIn K C_NoLetter (.type "object") = some true)
    (xcl_NotThere : (PySem.W.clsIn K C_NotThere).isSome = true)
    (xga_NotThere : PySem.W.findIn K (.ref C_NotThere) "__getattribute__" = some (some (.builtin "BaseException.__getattribute__")))
    (xgg_NotThere : PySem.W.findIn K (.ref C_NotThere) "__getattr__" = some none)
    (xc1_NotThere : PySem.W.findIn K (.ref C_NotThere) "__class__" = some (some (.builtin "object.__class__")))
    (xc4_NotThere : PySem.W.mroIn K C_NotThere (.type "object") = some true)
    (xk_NoProblem_NoText : PySem.W.kitOne K (.ref C_NoProblem) (.ref C_NoText) = some false)
    (xk_NoTurn_NoText : PySem.W.kitOne K (.ref C_NoTurn) (.ref C_NoText) = some false)
    (xk_TooMany_NoText : PySem.W.kitOne K (.ref C_TooMany) (.ref C_NoText) = some false)
    (xk_NoLetter_NoText : PySem.W.kitOne K (.ref C_NoLetter) (.ref C_NoText) = some false)
    (xk_NotThere_NoText : PySem.W.kitOne K (.ref C_NotThere) (.ref C_NoText) = some false)
    (xn_TooMany : PySem.W.kitOne K (.type "NoneType") (.ref C_TooMany) = some false)
    (xk_NoProblem_TooMany : PySem.W.kitOne K (.ref C_NoProblem) (.ref C_TooMany) = some false)
    (xk_NoTurn_TooMany : PySem.W.kitOne K (.ref C_NoTurn) (.ref C_TooMany) = some false)
    (xk_TooMany_TooMany : PySem.W.kitOne K (.ref C_TooMany) (.ref C_TooMany) = some true)
    (xk_NoLetter_TooMany : PySem.W.kitOne K (.ref C_NoLetter) (.ref C_TooMany) = some false)
    (xk_NotThere_TooMany : PySem.W.kitOne K (.ref C_NotThere) (.ref C_TooMany) = some false)
    (aC_NoClause : PySem.W.nsIn K mainGlobals "NoClause" = some (some (.ref C_NoClause)))
    (xn_NoClause : PySem.W.kitOne K (.type "NoneType") (.ref C_NoClause) = some false)
    (xk_NoProblem_NoClause : PySem.W.kitOne K (.ref C_NoProblem) (.ref C_NoClause) = some false)
    (xk_NoTurn_NoClause : PySem.W.kitOne K (.ref C_NoTurn) (.ref C_NoClause) = some false)
    (xk_TooMany_NoClause : PySem.W.kitOne K (.ref C_TooMany) (.ref C_NoClause) = some false)
    (xk_NoLetter_NoClause : PySem.W.kitOne K (.ref C_NoLetter) (.ref C_NoClause) = some false)
    (xk_NotThere_NoClause : PySem.W.kitOne K (.ref C_NotThere) (.ref C_NoClause) = some false)
    (xn_NoProblem : PySem.W.kitOne K (.type "NoneType") (.ref C_NoProblem) = some false)
    (xk_NoProblem_NoProblem : PySem.W.kitOne K (.ref C_NoProblem) (.ref C_NoProblem) = some true)
    (xk_NoTurn_NoProblem : PySem.W.kitOne K (.ref C_NoTurn) (.ref C_NoProblem) = some false)
    (xk_TooMany_NoProblem : PySem.W.kitOne K (.ref C_TooMany) (.ref C_NoProblem) = some false)
    (xk_NoLetter_NoProblem : PySem.W.kitOne K (.ref C_NoLetter) (.ref C_NoProblem) = some false)
    (xk_NotThere_NoProblem : PySem.W.kitOne K (.ref C_NotThere) (.ref C_NoProblem) = some false)
    (aC_NoStep : PySem.W.nsIn K mainGlobals "NoStep" = some (some (.ref C_NoStep)))
    (xn_NoStep : PySem.W.kitOne K (.type "NoneType") (.ref C_NoStep) = some false)
    (xk_NoProblem_NoStep : PySem.W.kitOne K (.ref C_NoProblem) (.ref C_NoStep) = some false)
    (xk_NoTurn_NoStep : PySem.W.kitOne K (.ref C_NoTurn) (.ref C_NoStep) = some false)
    (xk_TooMany_NoStep : PySem.W.kitOne K (.ref C_TooMany) (.ref C_NoStep) = some false)
    (xk_NoLetter_NoStep : PySem.W.kitOne K (.ref C_NoLetter) (.ref C_NoStep) = some false)
    (xk_NotThere_NoStep : PySem.W.kitOne K (.ref C_NotThere) (.ref C_NoStep) = some false)
    (xn_NotThere : PySem.W.kitOne K (.type "NoneType") (.ref C_NotThere) = some false)
    (xk_NoProblem_NotThere : PySem.W.kitOne K (.ref C_NoProblem) (.ref C_NotThere) = some false)
    (xk_NoTurn_NotThere : PySem.W.kitOne K (.ref C_NoTurn) (.ref C_NotThere) = some false)
    (xk_TooMany_NotThere : PySem.W.kitOne K (.ref C_TooMany) (.ref C_NotThere) = some false)
    (xk_NoLetter_NotThere : PySem.W.kitOne K (.ref C_NoLetter) (.ref C_NotThere) = some false)
    (xk_NotThere_NotThere : PySem.W.kitOne K (.ref C_NotThere) (.ref C_NotThere) = some true)
    (xn_NoLetter : PySem.W.kitOne K (.type "NoneType") (.ref C_NoLetter) = some false)
    (xk_NoProblem_NoLetter : PySem.W.kitOne K (.ref C_NoProblem) (.ref C_NoLetter) = some false)
    (xk_NoTurn_NoLetter : PySem.W.kitOne K (.ref C_NoTurn) (.ref C_NoLetter) = some false)
    (xk_TooMany_NoLetter : PySem.W.kitOne K (.ref C_TooMany) (.ref C_NoLetter) = some false)
    (xk_NoLetter_NoLetter : PySem.W.kitOne K (.ref C_NoLetter) (.ref C_NoLetter) = some true)
    (xk_NotThere_NoLetter : PySem.W.kitOne K (.ref C_NotThere) (.ref C_NoLetter) = some false)
    (xn_NoTurn : PySem.W.kitOne K (.type "NoneType") (.ref C_NoTurn) = some false)
    (xk_NoProblem_NoTurn : PySem.W.kitOne K (.ref C_NoProblem) (.ref C_NoTurn) = some false)
    (xk_NoTurn_NoTurn : PySem.W.kitOne K (.ref C_NoTurn) (.ref C_NoTurn) = some true)
    (xk_TooMany_NoTurn : PySem.W.kitOne K (.ref C_TooMany) (.ref C_NoTurn) = some false)
    (xk_NoLetter_NoTurn : PySem.W.kitOne K (.ref C_NoLetter) (.ref C_NoTurn) = some false)
    (xk_NotThere_NoTurn : PySem.W.kitOne K (.ref C_NotThere) (.ref C_NoTurn) = some false)
    (aC_NoAnswer : PySem.W.nsIn K mainGlobals "NoAnswer" = some (some (.ref C_NoAnswer)))
    (xn_NoAnswer : PySem.W.kitOne K (.type "NoneType") (.ref C_NoAnswer) = some false)
    (xk_NoProblem_NoAnswer : PySem.W.kitOne K (.ref C_NoProblem) (.ref C_NoAnswer) = some false)
    (xk_NoTurn_NoAnswer : PySem.W.kitOne K (.ref C_NoTurn) (.ref C_NoAnswer) = some false)
    (xk_TooMany_NoAnswer : PySem.W.kitOne K (.ref C_TooMany) (.ref C_NoAnswer) = some false)
    (xk_NoLetter_NoAnswer : PySem.W.kitOne K (.ref C_NoLetter) (.ref C_NoAnswer) = some false)
    (xk_NotThere_NoAnswer : PySem.W.kitOne K (.ref C_NotThere) (.ref C_NoAnswer) = some false)
    (aC_NoPart : PySem.W.nsIn K mainGlobals "NoPart" = some (some (.ref C_NoPart)))
    (xn_NoPart : PySem.W.kitOne K (.type "NoneType") (.ref C_NoPart) = some false)
    (xk_NoProblem_NoPart : PySem.W.kitOne K (.ref C_NoProblem) (.ref C_NoPart) = some false)
    (xk_NoTurn_NoPart : PySem.W.kitOne K (.ref C_NoTurn) (.ref C_NoPart) = some false)
    (xk_TooMany_NoPart : PySem.W.kitOne K (.ref C_TooMany) (.ref C_NoPart) = some false)
    (xk_NoLetter_NoPart : PySem.W.kitOne K (.ref C_NoLetter) (.ref C_NoPart) = some false)
    (xk_NotThere_NoPart : PySem.W.kitOne K (.ref C_NotThere) (.ref C_NoPart) = some false)
    (aC_NoWay : PySem.W.nsIn K mainGlobals "NoWay" = some (some (.ref C_NoWay)))
    (xn_NoWay : PySem.W.kitOne K (.type "NoneType") (.ref C_NoWay) = some false)
    (xk_NoProblem_NoWay : PySem.W.kitOne K (.ref C_NoProblem) (.ref C_NoWay) = some false)
    (xk_NoTurn_NoWay : PySem.W.kitOne K (.ref C_NoTurn) (.ref C_NoWay) = some false)
    (xk_TooMany_NoWay : PySem.W.kitOne K (.ref C_TooMany) (.ref C_NoWay) = some false)
    (xk_NoLetter_NoWay : PySem.W.kitOne K (.ref C_NoLetter) (.ref C_NoWay) = some false)
    (xk_NotThere_NoWay : PySem.W.kitOne K (.ref C_NotThere) (.ref C_NoWay) = some false)
    (aC_NoLog : PySem.W.nsIn K mainGlobals "NoLog" = some (some (.ref C_NoLog)))
    (xn_NoLog : PySem.W.kitOne K (.type "NoneType") (.ref C_NoLog) = some false)
    (xk_NoProblem_NoLog : PySem.W.kitOne K (.ref C_NoProblem) (.ref C_NoLog) = some false)
    (xk_NoTurn_NoLog : PySem.W.kitOne K (.ref C_NoTurn) (.ref C_NoLog) = some false)
    (xk_TooMany_NoLog : PySem.W.kitOne K (.ref C_TooMany) (.ref C_NoLog) = some false)
    (xk_NoLetter_NoLog : PySem.W.kitOne K (.ref C_NoLetter) (.ref C_NoLog) = some false)
    (xk_NotThere_NoLog : PySem.W.kitOne K (.ref C_NotThere) (.ref C_NoLog) = some false)
    (aC_NoDeed : PySem.W.nsIn K mainGlobals "NoDeed" = some (some (.ref C_NoDeed)))
    (xn_NoDeed : PySem.W.kitOne K (.type "NoneType") (.ref C_NoDeed) = some false)
    (xk_NoProblem_NoDeed : PySem.W.kitOne K (.ref C_NoProblem) (.ref C_NoDeed) = some false)
    (xk_NoTurn_NoDeed : PySem.W.kitOne K (.ref C_NoTurn) (.ref C_NoDeed) = some false)
    (xk_TooMany_NoDeed : PySem.W.kitOne K (.ref C_TooMany) (.ref C_NoDeed) = some false)
    (xk_NoLetter_NoDeed : PySem.W.kitOne K (.ref C_NoLetter) (.ref C_NoDeed) = some false)
    (xk_NotThere_NoDeed : PySem.W.kitOne K (.ref C_NotThere) (.ref C_NoDeed) = some false)
    (aC_Twice : PySem.W.nsIn K mainGlobals "Twice" = some (some (.ref C_Twice)))
    (xn_Twice : PySem.W.kitOne K (.type "NoneType") (.ref C_Twice) = some false)
    (xk_NoProblem_Twice : PySem.W.kitOne K (.ref C_NoProblem) (.ref C_Twice) = some false)
    (xk_NoTurn_Twice : PySem.W.kitOne K (.ref C_NoTurn) (.ref C_Twice) = some false)
    (xk_TooMany_Twice : PySem.W.kitOne K (.ref C_TooMany) (.ref C_Twice) = some false)
    (xk_NoLetter_Twice : PySem.W.kitOne K (.ref C_NoLetter) (.ref C_Twice) = some false)
    (xk_NotThere_Twice : PySem.W.kitOne K (.ref C_NotThere) (.ref C_Twice) = some false)
    (aC_NoAsk : PySem.W.nsIn K mainGlobals "NoAsk" = some (some (.ref C_NoAsk)))
    (xn_NoAsk : PySem.W.kitOne K (.type "NoneType") (.ref C_NoAsk) = some false)
    (xk_NoProblem_NoAsk : PySem.W.kitOne K (.ref C_NoProblem) (.ref C_NoAsk) = some false)
    (xk_NoTurn_NoAsk : PySem.W.kitOne K (.ref C_NoTurn) (.ref C_NoAsk) = some false)
    (xk_TooMany_NoAsk : PySem.W.kitOne K (.ref C_TooMany) (.ref C_NoAsk) = some false)
    (xk_NoLetter_NoAsk : PySem.W.kitOne K (.ref C_NoLetter) (.ref C_NoAsk) = some false)
    (xk_NotThere_NoAsk : PySem.W.kitOne K (.ref C_NotThere) (.ref C_NoAsk) = some false)
    (xn_ValueError : PySem.W.kitOne K (.type "NoneType") (.type "ValueError") = some false)
    (xk_NoProblem_ValueError : PySem.W.kitOne K (.ref C_NoProblem) (.type "ValueError") = some true)
    (xk_NoTurn_ValueError : PySem.W.kitOne K (.ref C_NoTurn) (.type "ValueError") = some true)
    (xk_TooMany_ValueError : PySem.W.kitOne K (.ref C_TooMany) (.type "ValueError") = some true)
    (xk_NoLetter_ValueError : PySem.W.kitOne K (.ref C_NoLetter) (.type "ValueError") = some true)
    (xk_NotThere_ValueError : PySem.W.kitOne K (.ref C_NotThere) (.type "ValueError") = some true)
    (aC_TurnError : PySem.W.nsIn K mainGlobals "TurnError" = some (some (.ref C_TurnError)))
    (xm_NoProblem_TurnError : PySem.W.exmOne K (.ref C_NoProblem) (.ref C_TurnError) = some true)
    (xm_NoTurn_TurnError : PySem.W.exmOne K (.ref C_NoTurn) (.ref C_TurnError) = some true)
    (xm_TooMany_TurnError : PySem.W.exmOne K (.ref C_TooMany) (.ref C_TurnError) = some true)
    (xm_NoLetter_TurnError : PySem.W.exmOne K (.ref C_NoLetter) (.ref C_TurnError) = some true)
    (xm_NotThere_TurnError : PySem.W.exmOne K (.ref C_NotThere) (.ref C_TurnError) = some true)
    (xhd_NotThere : PySem.W.hasDictIn K C_NotThere = true)
    (a0 : PySem.W.nsIn K mainGlobals "is_number" = some (some (.ref f0)))
    (l0 : K.lookup f0 = some ⟨oc0, od0, .func (PySem.W.fnOf "is_number" "is_number" (defArgs s_is_number) (defBody s_is_number) (defScope s_is_number) .none kV0 dc0 pm0 an0 cd0 ct0), sl0⟩)
    (k0 : PySem.W.codeIn K cd0 "is_number" = true)
    (p0 : PySem.W.keepIn K (.ref f0) = true)
    (a1 : PySem.W.nsIn K mainGlobals "is_letter" = some (some (.ref f1)))
    (l1 : K.lookup f1 = some ⟨oc1, od1, .func (PySem.W.fnOf "is_letter" "is_letter" (defArgs s_is_letter) (defBody s_is_letter) (defScope s_is_letter) .none kV1 dc1 pm1 an1 cd1 ct1), sl1⟩)
    (k1 : PySem.W.codeIn K cd1 "is_letter" = true)
    (p1 : PySem.W.keepIn K (.ref f1) = true)
    (a2 : PySem.W.nsIn K mainGlobals "is_turn" = some (some (.ref f2)))
    (l2 : K.lookup f2 = some ⟨oc2, od2, .func (PySem.W.fnOf "is_turn" "is_turn" (defArgs s_is_turn) (defBody s_is_turn) (defScope s_is_turn) .none kV2 dc2 pm2 an2 cd2 ct2), sl2⟩)
    (k2 : PySem.W.codeIn K cd2 "is_turn" = true)
    (p2 : PySem.W.keepIn K (.ref f2) = true)
    (a3 : PySem.W.nsIn K mainGlobals "still" = some (some (.ref f3)))
    (l3 : K.lookup f3 = some ⟨oc3, od3, .func (PySem.W.fnOf "still" "still" (defArgs s_still) (defBody s_still) (defScope s_still) .none kV3 dc3 pm3 an3 cd3 ct3), sl3⟩)
    (k3 : PySem.W.codeIn K cd3 "still" = true)
    (p3 : PySem.W.keepIn K (.ref f3) = true)
    (a4 : PySem.W.nsIn K mainGlobals "led" = some (some (.ref f4)))
    (l4 : K.lookup f4 = some ⟨oc4, od4, .func (PySem.W.fnOf "led" "led" (defArgs s_led) (defBody s_led) (defScope s_led) .none kV4 dc4 pm4 an4 cd4 ct4), sl4⟩)
    (k4 : PySem.W.codeIn K cd4 "led" = true)
    (p4 : PySem.W.keepIn K (.ref f4) = true)
    (a5 : PySem.W.nsIn K mainGlobals "composed" = some (some (.ref f5)))
    (l5 : K.lookup f5 = some ⟨oc5, od5, .func (PySem.W.fnOf "composed" "composed" (defArgs s_composed) (defBody s_composed) (defScope s_composed) .none kV5 dc5 pm5 an5 cd5 ct5), sl5⟩)
    (k5 : PySem.W.codeIn K cd5 "composed" = true)
    (p5 : PySem.W.keepIn K (.ref f5) = true)
    (a6 : PySem.W.nsIn K mainGlobals "inverted" = some (some (.ref f6)))
    (l6 : K.lookup f6 = some ⟨oc6, od6, .func (PySem.W.fnOf "inverted" "inverted" (defArgs s_inverted) (defBody s_inverted) (defScope s_inverted) .none kV6 dc6 pm6 an6 cd6 ct6), sl6⟩)
    (k6 : PySem.W.codeIn K cd6 "inverted" = true)
    (p6 : PySem.W.keepIn K (.ref f6) = true)
    (a7 : PySem.W.findIn K (.ref C_Floor) "__init__" = some (some (.ref f7)))
    (i7 : PySem.W.isFn K (.ref f7) = true)
    (l7 : K.lookup f7 = some ⟨oc7, od7, .func (PySem.W.fnOf "__init__" "Floor.__init__" (defArgs s_Floor___init__) (defBody s_Floor___init__) (defScope s_Floor___init__) .none kV7 dc7 pm7 an7 cd7 ct7), sl7⟩)
    (k7 : PySem.W.codeIn K cd7 "Floor.__init__" = true)
    (p7 : PySem.W.keepIn K (.ref f7) = true)
    (a8 : PySem.W.findIn K (.ref C_Floor) "lay" = some (some (.ref f8)))
    (i8 : PySem.W.isFn K (.ref f8) = true)
    (l8 : K.lookup f8 = some ⟨oc8, od8, .func (PySem.W.fnOf "lay" "Floor.lay" (defArgs s_Floor_lay) (defBody s_Floor_lay) (defScope s_Floor_lay) .none kV8 dc8 pm8 an8 cd8 ct8), sl8⟩)
    (k8 : PySem.W.codeIn K cd8 "Floor.lay" = true)
    (p8 : PySem.W.keepIn K (.ref f8) = true)
    (a9 : PySem.W.nsIn K mainGlobals "rest_of" = some (some (.ref f9)))
    (l9 : K.lookup f9 = some ⟨oc9, od9, .func (PySem.W.fnOf "rest_of" "rest_of" (defArgs s_rest_of) (defBody s_rest_of) (defScope s_rest_of) .none kV9 dc9 pm9 an9 cd9 ct9), sl9⟩)
    (k9 : PySem.W.codeIn K cd9 "rest_of" = true)
    (p9 : PySem.W.keepIn K (.ref f9) = true)
    (a10 : PySem.W.nsIn K mainGlobals "let_in" = some (some (.ref f10)))
    (l10 : K.lookup f10 = some ⟨oc10, od10, .func (PySem.W.fnOf "let_in" "let_in" (defArgs s_let_in) (defBody s_let_in) (defScope s_let_in) .none kV10 dc10 pm10 an10 cd10 ct10), sl10⟩)
    (k10 : PySem.W.codeIn K cd10 "let_in" = true)
    (p10 : PySem.W.keepIn K (.ref f10) = true)
    (a11 : PySem.W.nsIn K mainGlobals "chain_of" = some (some (.ref f11)))
    (l11 : K.lookup f11 = some ⟨oc11, od11, .func (PySem.W.fnOf "chain_of" "chain_of" (defArgs s_chain_of) (defBody s_chain_of) (defScope s_chain_of) .none kV11 dc11 pm11 an11 cd11 ct11), sl11⟩)
    (k11 : PySem.W.codeIn K cd11 "chain_of" = true)
    (p11 : PySem.W.keepIn K (.ref f11) = true)
    (a12 : PySem.W.nsIn K mainGlobals "need_truths" = some (some (.ref f12)))
    (l12 : K.lookup f12 = some ⟨oc12, od12, .func (PySem.W.fnOf "need_truths" "need_truths" (defArgs s_need_truths_x) (defBody s_need_truths_x) (defScope s_need_truths_x) .none kV12 dc12 pm12 an12 cd12 ct12), sl12⟩)
    (k12 : PySem.W.codeIn K cd12 "need_truths" = true)
    (p12 : PySem.W.keepIn K (.ref f12) = true)
    (a13 : PySem.W.nsIn K mainGlobals "need_makers" = some (some (.ref f13)))
    (l13 : K.lookup f13 = some ⟨oc13, od13, .func (PySem.W.fnOf "need_makers" "need_makers" (defArgs s_need_makers_x) (defBody s_need_makers_x) (defScope s_need_makers_x) .none kV13 dc13 pm13 an13 cd13 ct13), sl13⟩)
    (k13 : PySem.W.codeIn K cd13 "need_makers" = true)
    (p13 : PySem.W.keepIn K (.ref f13) = true)
    (a14 : PySem.W.nsIn K mainGlobals "need_letters" = some (some (.ref f14)))
    (l14 : K.lookup f14 = some ⟨oc14, od14, .func (PySem.W.fnOf "need_letters" "need_letters" (defArgs s_need_letters_x) (defBody s_need_letters_x) (defScope s_need_letters_x) .none kV14 dc14 pm14 an14 cd14 ct14), sl14⟩)
    (k14 : PySem.W.codeIn K cd14 "need_letters" = true)
    (p14 : PySem.W.keepIn K (.ref f14) = true)
    (a15 : PySem.W.nsIn K mainGlobals "unlike" = some (some (.ref f15)))
    (l15 : K.lookup f15 = some ⟨oc15, od15, .func (PySem.W.fnOf "unlike" "unlike" (defArgs s_unlike) (defBody s_unlike) (defScope s_unlike) .none kV15 dc15 pm15 an15 cd15 ct15), sl15⟩)
    (k15 : PySem.W.codeIn K cd15 "unlike" = true)
    (p15 : PySem.W.keepIn K (.ref f15) = true)
    (a16 : PySem.W.findIn K (.ref C_Group) "__init__" = some (some (.ref f16)))
    (i16 : PySem.W.isFn K (.ref f16) = true)
    (l16 : K.lookup f16 = some ⟨oc16, od16, .func (PySem.W.fnOf "__init__" "Group.__init__" (defArgs s_Group___init___x) (defBody s_Group___init___x) (defScope s_Group___init___x) (.ref T16) (.ref D16) dc16 pm16 an16 cd16 ct16), sl16⟩)
    (k16 : PySem.W.codeIn K cd16 "Group.__init__" = true)
    (p16 : PySem.W.keepIn K (.ref f16) = true)
    (t16 : K.lookup T16 = some ⟨tc16, to16, .seq #[(.ref Td16_0)] tn16, ts16⟩)
    (xtd16_0 : K.lookup Td16_0 = some ⟨.type "tuple", xto16_0, .seq #[] xtn16_0, xts16_0⟩)
    (xtk16_0 : K.lookup Tk16_0 = some ⟨.type "tuple", xko16_0, .seq #[] xkn16_0, xks16_0⟩)
    (q16_0 : PySem.W.nsIn K D16 "base" = some (some (.ref Tk16_0)))
    (a17 : PySem.W.findIn K (.ref C_Group) "truths" = some (some (.ref f17)))
    (i17 : PySem.W.isFn K (.ref f17) = true)
    (l17 : K.lookup f17 = some ⟨oc17, od17, .func (PySem.W.fnOf "truths" "Group.truths" (defArgs s_Group_truths) (defBody s_Group_truths) (defScope s_Group_truths) .none kV17 dc17 pm17 an17 cd17 ct17), sl17⟩)
    (k17 : PySem.W.codeIn K cd17 "Group.truths" = true)
    (p17 : PySem.W.keepIn K (.ref f17) = true)
    (a18 : PySem.W.findIn K (.ref C_Group) "makers" = some (some (.ref f18)))
    (i18 : PySem.W.isFn K (.ref f18) = true)
    (l18 : K.lookup f18 = some ⟨oc18, od18, .func (PySem.W.fnOf "makers" "Group.makers" (defArgs s_Group_makers) (defBody s_Group_makers) (defScope s_Group_makers) .none kV18 dc18 pm18 an18 cd18 ct18), sl18⟩)
    (k18 : PySem.W.codeIn K cd18 "Group.makers" = true)
    (p18 : PySem.W.keepIn K (.ref f18) = true)
    (a19 : PySem.W.findIn K (.ref C_Group) "told_chain" = some (some (.ref f19)))
    (i19 : PySem.W.isFn K (.ref f19) = true)
    (l19 : K.lookup f19 = some ⟨oc19, od19, .func (PySem.W.fnOf "told_chain" "Group.told_chain" (defArgs s_Group_told_chain) (defBody s_Group_told_chain) (defScope s_Group_told_chain) .none kV19 dc19 pm19 an19 cd19 ct19), sl19⟩)
    (k19 : PySem.W.codeIn K cd19 "Group.told_chain" = true)
    (p19 : PySem.W.keepIn K (.ref f19) = true)
    (a20 : PySem.W.findIn K (.ref C_Group) "base" = some (some (.ref f20)))
    (i20 : PySem.W.isFn K (.ref f20) = true)
    (l20 : K.lookup f20 = some ⟨oc20, od20, .func (PySem.W.fnOf "base" "Group.base" (defArgs s_Group_base) (defBody s_Group_base) (defScope s_Group_base) .none kV20 dc20 pm20 an20 cd20 ct20), sl20⟩)
    (k20 : PySem.W.codeIn K cd20 "Group.base" = true)
    (p20 : PySem.W.keepIn K (.ref f20) = true)
    (a21 : PySem.W.findIn K (.ref C_Group) "floors" = some (some (.ref f21)))
    (i21 : PySem.W.isFn K (.ref f21) = true)
    (l21 : K.lookup f21 = some ⟨oc21, od21, .func (PySem.W.fnOf "floors" "Group.floors" (defArgs s_Group_floors) (defBody s_Group_floors) (defScope s_Group_floors) .none kV21 dc21 pm21 an21 cd21 ct21), sl21⟩)
    (k21 : PySem.W.codeIn K cd21 "Group.floors" = true)
    (p21 : PySem.W.keepIn K (.ref f21) = true)
    (a22 : PySem.W.findIn K (.ref C_Group) "size" = some (some (.ref f22)))
    (i22 : PySem.W.isFn K (.ref f22) = true)
    (l22 : K.lookup f22 = some ⟨oc22, od22, .func (PySem.W.fnOf "size" "Group.size" (defArgs s_Group_size) (defBody s_Group_size) (defScope s_Group_size) .none kV22 dc22 pm22 an22 cd22 ct22), sl22⟩)
    (k22 : PySem.W.codeIn K cd22 "Group.size" = true)
    (p22 : PySem.W.keepIn K (.ref f22) = true)
    (a23 : PySem.W.findIn K (.ref C_Group) "has" = some (some (.ref f23)))
    (i23 : PySem.W.isFn K (.ref f23) = true)
    (l23 : K.lookup f23 = some ⟨oc23, od23, .func (PySem.W.fnOf "has" "Group.has" (defArgs s_Group_has_x) (defBody s_Group_has_x) (defScope s_Group_has_x) .none kV23 dc23 pm23 an23 cd23 ct23), sl23⟩)
    (k23 : PySem.W.codeIn K cd23 "Group.has" = true)
    (p23 : PySem.W.keepIn K (.ref f23) = true)
    (a24 : PySem.W.findIn K (.ref C_Group) "factors" = some (some (.ref f24)))
    (i24 : PySem.W.isFn K (.ref f24) = true)
    (l24 : K.lookup f24 = some ⟨oc24, od24, .func (PySem.W.fnOf "factors" "Group.factors" (defArgs s_Group_factors_x) (defBody s_Group_factors_x) (defScope s_Group_factors_x) .none kV24 dc24 pm24 an24 cd24 ct24), sl24⟩)
    (k24 : PySem.W.codeIn K cd24 "Group.factors" = true)
    (p24 : PySem.W.keepIn K (.ref f24) = true)
    (a25 : PySem.W.nsIn K mainGlobals "_law_mixed" = some (some (.ref f25)))
    (l25 : K.lookup f25 = some ⟨oc25, od25, .func (PySem.W.fnOf "_law_mixed" "_law_mixed" (defArgs s__law_mixed) (defBody s__law_mixed) (defScope s__law_mixed) .none kV25 dc25 pm25 an25 cd25 ct25), sl25⟩)
    (k25 : PySem.W.codeIn K cd25 "_law_mixed" = true)
    (p25 : PySem.W.keepIn K (.ref f25) = true)
    (a26 : PySem.W.nsIn K mainGlobals "_law_next" = some (some (.ref f26)))
    (l26 : K.lookup f26 = some ⟨oc26, od26, .func (PySem.W.fnOf "_law_next" "_law_next" (defArgs s__law_next) (defBody s__law_next) (defScope s__law_next) .none kV26 dc26 pm26 an26 cd26 ct26), sl26⟩)
    (k26 : PySem.W.codeIn K cd26 "_law_next" = true)
    (p26 : PySem.W.keepIn K (.ref f26) = true)
    (a27 : PySem.W.nsIn K mainGlobals "_law_goes" = some (some (.ref f27)))
    (l27 : K.lookup f27 = some ⟨oc27, od27, .func (PySem.W.fnOf "_law_goes" "_law_goes" (defArgs s__law_goes) (defBody s__law_goes) (defScope s__law_goes) .none kV27 dc27 pm27 an27 cd27 ct27), sl27⟩)
    (k27 : PySem.W.codeIn K cd27 "_law_goes" = true)
    (p27 : PySem.W.keepIn K (.ref f27) = true)
    (a28 : PySem.W.nsIn K mainGlobals "_law_joined" = some (some (.ref f28)))
    (l28 : K.lookup f28 = some ⟨oc28, od28, .func (PySem.W.fnOf "_law_joined" "_law_joined" (defArgs s__law_joined) (defBody s__law_joined) (defScope s__law_joined) .none kV28 dc28 pm28 an28 cd28 ct28), sl28⟩)
    (k28 : PySem.W.codeIn K cd28 "_law_joined" = true)
    (p28 : PySem.W.keepIn K (.ref f28) = true)
    (a29 : PySem.W.nsIn K mainGlobals "_law_turn" = some (some (.ref f29)))
    (l29 : K.lookup f29 = some ⟨oc29, od29, .func (PySem.W.fnOf "_law_turn" "_law_turn" (defArgs s__law_turn) (defBody s__law_turn) (defScope s__law_turn) .none kV29 dc29 pm29 an29 cd29 ct29), sl29⟩)
    (k29 : PySem.W.codeIn K cd29 "_law_turn" = true)
    (p29 : PySem.W.keepIn K (.ref f29) = true)
    (a30 : PySem.W.nsIn K mainGlobals "_law_products" = some (some (.ref f30)))
    (l30 : K.lookup f30 = some ⟨oc30, od30, .func (PySem.W.fnOf "_law_products" "_law_products" (defArgs s__law_products) (defBody s__law_products) (defScope s__law_products) .none kV30 dc30 pm30 an30 cd30 ct30), sl30⟩)
    (k30 : PySem.W.codeIn K cd30 "_law_products" = true)
    (p30 : PySem.W.keepIn K (.ref f30) = true)
    (a31 : PySem.W.nsIn K mainGlobals "_law_some" = some (some (.ref f31)))
    (l31 : K.lookup f31 = some ⟨oc31, od31, .func (PySem.W.fnOf "_law_some" "_law_some" (defArgs s__law_some) (defBody s__law_some) (defScope s__law_some) .none kV31 dc31 pm31 an31 cd31 ct31), sl31⟩)
    (k31 : PySem.W.codeIn K cd31 "_law_some" = true)
    (p31 : PySem.W.keepIn K (.ref f31) = true)
    (a32 : PySem.W.nsIn K mainGlobals "_law_word" = some (some (.ref f32)))
    (l32 : K.lookup f32 = some ⟨oc32, od32, .func (PySem.W.fnOf "_law_word" "_law_word" (defArgs s__law_word) (defBody s__law_word) (defScope s__law_word) .none kV32 dc32 pm32 an32 cd32 ct32), sl32⟩)
    (k32 : PySem.W.codeIn K cd32 "_law_word" = true)
    (p32 : PySem.W.keepIn K (.ref f32) = true)
    (a33 : PySem.W.nsIn K mainGlobals "_law_base_drawn" = some (some (.ref f33)))
    (l33 : K.lookup f33 = some ⟨oc33, od33, .func (PySem.W.fnOf "_law_base_drawn" "_law_base_drawn" (defArgs s__law_base_drawn) (defBody s__law_base_drawn) (defScope s__law_base_drawn) .none kV33 dc33 pm33 an33 cd33 ct33), sl33⟩)
    (k33 : PySem.W.codeIn K cd33 "_law_base_drawn" = true)
    (p33 : PySem.W.keepIn K (.ref f33) = true)
    (a34 : PySem.W.nsIn K mainGlobals "_law_thing" = some (some (.ref f34)))
    (l34 : K.lookup f34 = some ⟨oc34, od34, .func (PySem.W.fnOf "_law_thing" "_law_thing" (defArgs s__law_thing) (defBody s__law_thing) (defScope s__law_thing) .none kV34 dc34 pm34 an34 cd34 ct34), sl34⟩)
    (k34 : PySem.W.codeIn K cd34 "_law_thing" = true)
    (p34 : PySem.W.keepIn K (.ref f34) = true)
    (a35 : PySem.W.nsIn K mainGlobals "_law_is_in" = some (some (.ref f35)))
    (l35 : K.lookup f35 = some ⟨oc35, od35, .func (PySem.W.fnOf "_law_is_in" "_law_is_in" (defArgs s__law_is_in) (defBody s__law_is_in) (defScope s__law_is_in) .none kV35 dc35 pm35 an35 cd35 ct35), sl35⟩)
    (k35 : PySem.W.codeIn K cd35 "_law_is_in" = true)
    (p35 : PySem.W.keepIn K (.ref f35) = true)
    (a36 : PySem.W.nsIn K mainGlobals "_law_factors_right" = some (some (.ref f36)))
    (l36 : K.lookup f36 = some ⟨oc36, od36, .func (PySem.W.fnOf "_law_factors_right" "_law_factors_right" (defArgs s__law_factors_right) (defBody s__law_factors_right) (defScope s__law_factors_right) .none kV36 dc36 pm36 an36 cd36 ct36), sl36⟩)
    (k36 : PySem.W.codeIn K cd36 "_law_factors_right" = true)
    (p36 : PySem.W.keepIn K (.ref f36) = true)
    (a37 : PySem.W.nsIn K mainGlobals "_law_refused" = some (some (.ref f37)))
    (l37 : K.lookup f37 = some ⟨oc37, od37, .func (PySem.W.fnOf "_law_refused" "_law_refused" (defArgs s__law_refused) (defBody s__law_refused) (defScope s__law_refused) .none kV37 dc37 pm37 an37 cd37 ct37), sl37⟩)
    (k37 : PySem.W.codeIn K cd37 "_law_refused" = true)
    (p37 : PySem.W.keepIn K (.ref f37) = true)
    (a38 : PySem.W.nsIn K mainGlobals "_law_great_right" = some (some (.ref f38)))
    (l38 : K.lookup f38 = some ⟨oc38, od38, .func (PySem.W.fnOf "_law_great_right" "_law_great_right" (defArgs s__law_great_right) (defBody s__law_great_right) (defScope s__law_great_right) .none kV38 dc38 pm38 an38 cd38 ct38), sl38⟩)
    (k38 : PySem.W.codeIn K cd38 "_law_great_right" = true)
    (p38 : PySem.W.keepIn K (.ref f38) = true)
    (a39 : PySem.W.nsIn K mainGlobals "law" = some (some (.ref f39)))
    (l39 : K.lookup f39 = some ⟨oc39, od39, .func (PySem.W.fnOf "law" "law" (defArgs s_law) (defBody s_law) (defScope s_law) .none kV39 dc39 pm39 an39 cd39 ct39), sl39⟩)
    (k39 : PySem.W.codeIn K cd39 "law" = true)
    (p39 : PySem.W.keepIn K (.ref f39) = true)
    (axNotThere : PySem.W.findIn K (.ref C_NotThere) "__init__" = some (some (.ref fxNotThere)))
    (ixNotThere : PySem.W.isFn K (.ref fxNotThere) = true)
    (lxNotThere : K.lookup fxNotThere = some ⟨ocxNotThere, odxNotThere, .func (PySem.W.fnOf "__init__" "NotThere.__init__" (defArgs s_NotThere___init__) (defBody s_NotThere___init__) (defScope s_NotThere___init__) .none kVxNotThere dcxNotThere pmxNotThere anxNotThere cdxNotThere ctxNotThere), slxNotThere⟩)
    (kxNotThere : PySem.W.codeIn K cdxNotThere "NotThere.__init__" = true)
    (pxNotThere : PySem.W.keepIn K (.ref fxNotThere) = true)
    (z_isinstance : PySem.W.nsIn K mainGlobals "isinstance" = some none)
    (z_int : PySem.W.nsIn K mainGlobals "int" = some none)
    (z_bool : PySem.W.nsIn K mainGlobals "bool" = some none)
    (z_abs : PySem.W.nsIn K mainGlobals "abs" = some none)
    (z_tuple : PySem.W.nsIn K mainGlobals "tuple" = some none)
    (z_len : PySem.W.nsIn K mainGlobals "len" = some none)
    (z_all : PySem.W.nsIn K mainGlobals "all" = some none)
    (z_range : PySem.W.nsIn K mainGlobals "range" = some none)
    (z_enumerate : PySem.W.nsIn K mainGlobals "enumerate" = some none)
    (z_list : PySem.W.nsIn K mainGlobals "list" = some none)
    (z_sorted : PySem.W.nsIn K mainGlobals "sorted" = some none)
    (z_max : PySem.W.nsIn K mainGlobals "max" = some none)
    (z_ValueError : PySem.W.nsIn K mainGlobals "ValueError" = some none)
    (z_zip : PySem.W.nsIn K mainGlobals "zip" = some none)
    {tc_MOST : Tok} (c_MOST : PySem.W.nsIn K mainGlobals "MOST" = some (some (.int 400 tc_MOST)))
    {tc_MOST_TRUTHS : Tok} (c_MOST_TRUTHS : PySem.W.nsIn K mainGlobals "MOST_TRUTHS" = some (some (.int 12 tc_MOST_TRUTHS)))
    {tc_MOST_MAKERS : Tok} (c_MOST_MAKERS : PySem.W.nsIn K mainGlobals "MOST_MAKERS" = some (some (.int 60 tc_MOST_MAKERS)))
    : ∃ fd : FuncData, (∀ (s : Shared) (v : Value), BindsTo s fd ⟨[v], []⟩ [("script", v)]) ∧ ∀ base : Heap, K.In base → base.Ns mainGlobals mg → FnG P w K mg base CX0 23 fa fd ["script"] (spL K P_law) := by
  have e := hfa.symm.trans (PySem.W.mg_of X G a39)
  cases e
  have z_isinstance := PySem.W.mg_none_of X G z_isinstance
  have z_int := PySem.W.mg_none_of X G z_int
  have z_bool := PySem.W.mg_none_of X G z_bool
  have z_abs := PySem.W.mg_none_of X G z_abs
  have z_tuple := PySem.W.mg_none_of X G z_tuple
  have z_len := PySem.W.mg_none_of X G z_len
  have z_all := PySem.W.mg_none_of X G z_all
  have z_range := PySem.W.mg_none_of X G z_range
  have z_enumerate := PySem.W.mg_none_of X G z_enumerate
  have z_list := PySem.W.mg_none_of X G z_list
  have z_sorted := PySem.W.mg_none_of X G z_sorted
  have z_max := PySem.W.mg_none_of X G z_max
  have z_ValueError := PySem.W.mg_none_of X G z_ValueError
  have z_zip := PySem.W.mg_none_of X G z_zip
  have c_MOST : Gv K mg "MOST" (.int 400) := gv_int (PySem.W.mg_of X G c_MOST)
  have c_MOST_TRUTHS : Gv K mg "MOST_TRUTHS" (.int 12) := gv_int (PySem.W.mg_of X G c_MOST_TRUTHS)
  have c_MOST_MAKERS : Gv K mg "MOST_MAKERS" (.int 60) := gv_int (PySem.W.mg_of X G c_MOST_MAKERS)
  have Cs_Floor : Cls K C_Floor := ⟨pg_Floor, hd_Floor, po_Floor, sa_Floor⟩
  have Cn_Floor : ClsD K mg "Floor" := ⟨C_Floor, aC_Floor, Cs_Floor, PySem.W.mg_of X G aC_Floor⟩
  have Cs_Group : Cls K C_Group := ⟨pg_Group, hd_Group, po_Group, sa_Group⟩
  have Cn_Group : ClsD K mg "Group" := ⟨C_Group, aC_Group, Cs_Group, PySem.W.mg_of X G aC_Group⟩
  have NA_Floor_letter : NoA K "Floor" "letter" := ⟨fun D hD => by rw [← ClsAt.inj aC_Floor hD]; exact nNA_Floor_letter⟩
  have NA_Floor_ways : NoA K "Floor" "ways" := ⟨fun D hD => by rw [← ClsAt.inj aC_Floor hD]; exact nNA_Floor_ways⟩
  have NA_Floor_returns : NoA K "Floor" "returns" := ⟨fun D hD => by rw [← ClsAt.inj aC_Floor hD]; exact nNA_Floor_returns⟩
  have NA_Floor_pushers : NoA K "Floor" "pushers" := ⟨fun D hD => by rw [← ClsAt.inj aC_Floor hD]; exact nNA_Floor_pushers⟩
  have NA_Group_many : NoA K "Group" "many" := ⟨fun D hD => by rw [← ClsAt.inj aC_Group hD]; exact nNA_Group_many⟩
  have NA_Group_firsts : NoA K "Group" "firsts" := ⟨fun D hD => by rw [← ClsAt.inj aC_Group hD]; exact nNA_Group_firsts⟩
  have NA_Group_pushers : NoA K "Group" "pushers" := ⟨fun D hD => by rw [← ClsAt.inj aC_Group hD]; exact nNA_Group_pushers⟩
  have NA_Group_chain : NoA K "Group" "chain" := ⟨fun D hD => by rw [← ClsAt.inj aC_Group hD]; exact nNA_Group_chain⟩
  have F0 := fun_mk (st := s_is_number) l0 k0 p0
  have F1 := fun_mk (st := s_is_letter) l1 k1 p1
  have F2 := fun_mk (st := s_is_turn) l2 k2 p2
  have F3 := fun_mk (st := s_still) l3 k3 p3
  have F4 := fun_mk (st := s_led) l4 k4 p4
  have F5 := fun_mk (st := s_composed) l5 k5 p5
  have F6 := fun_mk (st := s_inverted) l6 k6 p6
  have F7 := fun_mk (st := s_Floor___init__) l7 k7 p7
  have F8 := fun_mk (st := s_Floor_lay) l8 k8 p8
  have F9 := fun_mk (st := s_rest_of) l9 k9 p9
  have F10 := fun_mk (st := s_let_in) l10 k10 p10
  have F11 := fun_mk (st := s_chain_of) l11 k11 p11
  have F12 := fun_mk (st := s_need_truths_x) l12 k12 p12
  have F13 := fun_mk (st := s_need_makers_x) l13 k13 p13
  have F14 := fun_mk (st := s_need_letters_x) l14 k14 p14
  have F15 := fun_mk (st := s_unlike) l15 k15 p15
  have F16 : FunD K "__init__" "Group.__init__" (defArgs s_Group___init___x) (defBody s_Group___init___x) (defScope s_Group___init___x) [(.ref Td16_0)] [("base", (.ref Tk16_0))] f16 _ := ⟨⟨_, _, _, _, _, _, _, _, _, _, rfl, l16, k16, .inr ⟨List.cons_ne_nil _ _, _, _, [(.ref Td16_0)], _, rfl, t16, rfl, (.cons rfl .nil)⟩, .inr ⟨_, rfl, fun x hx => by simp only [List.mem_cons, List.not_mem_nil, or_false] at hx; (first | (subst hx; exact ⟨_, q16_0, rfl⟩))⟩⟩, p16⟩
  have F17 := fun_mk (st := s_Group_truths) l17 k17 p17
  have F18 := fun_mk (st := s_Group_makers) l18 k18 p18
  have F19 := fun_mk (st := s_Group_told_chain) l19 k19 p19
  have F20 := fun_mk (st := s_Group_base) l20 k20 p20
  have F21 := fun_mk (st := s_Group_floors) l21 k21 p21
  have F22 := fun_mk (st := s_Group_size) l22 k22 p22
  have F23 := fun_mk (st := s_Group_has_x) l23 k23 p23
  have F24 := fun_mk (st := s_Group_factors_x) l24 k24 p24
  have F25 := fun_mk (st := s__law_mixed) l25 k25 p25
  have F26 := fun_mk (st := s__law_next) l26 k26 p26
  have F27 := fun_mk (st := s__law_goes) l27 k27 p27
  have F28 := fun_mk (st := s__law_joined) l28 k28 p28
  have F29 := fun_mk (st := s__law_turn) l29 k29 p29
  have F30 := fun_mk (st := s__law_products) l30 k30 p30
  have F31 := fun_mk (st := s__law_some) l31 k31 p31
  have F32 := fun_mk (st := s__law_word) l32 k32 p32
  have F33 := fun_mk (st := s__law_base_drawn) l33 k33 p33
  have F34 := fun_mk (st := s__law_thing) l34 k34 p34
  have F35 := fun_mk (st := s__law_is_in) l35 k35 p35
  have F36 := fun_mk (st := s__law_factors_right) l36 k36 p36
  have F37 := fun_mk (st := s__law_refused) l37 k37 p37
  have F38 := fun_mk (st := s__law_great_right) l38 k38 p38
  have F39 := fun_mk (st := s_law) l39 k39 p39
  have FxNotThere := fun_mk (st := s_NotThere___init__) lxNotThere kxNotThere pxNotThere
  refine ⟨PySem.W.fnOf "law" "law" (defArgs s_law) (defBody s_law) (defScope s_law) .none kV39 dc39 pm39 an39 cd39 ct39, fun s v => .of_eq rfl, fun base _ _ => ?_⟩
  have XD_NoProblem : ExcD K mg "NoProblem" := ⟨C_NoProblem, aC_NoProblem, PySem.W.mg_of X G aC_NoProblem, xkp_NoProblem, xsb_NoProblem, xty_NoProblem, xex_NoProblem⟩
  have XD_NoTurn : ExcD K mg "NoTurn" := ⟨C_NoTurn, aC_NoTurn, PySem.W.mg_of X G aC_NoTurn, xkp_NoTurn, xsb_NoTurn, xty_NoTurn, xex_NoTurn⟩
  have XD_TooMany : ExcD K mg "TooMany" := ⟨C_TooMany, aC_TooMany, PySem.W.mg_of X G aC_TooMany, xkp_TooMany, xsb_TooMany, xty_TooMany, xex_TooMany⟩
  have XD_NoLetter : ExcD K mg "NoLetter" := ⟨C_NoLetter, aC_NoLetter, PySem.W.mg_of X G aC_NoLetter, xkp_NoLetter, xsb_NoLetter, xty_NoLetter, xex_NoLetter⟩
  have XO_NotThere : OexC K C_NotThere := ⟨⟨_, _, _, _, _, _, _, _, _, _, _, _, _, _, _, xlo_NotThere, xrf_NotThere⟩, xsa_NotThere, xsb_NotThere, xty_NotThere, xkp_NotThere⟩
  have XF_NotThere : ExcF P w K mg base "NotThere" "at" := ⟨C_NotThere, fxNotThere, _, "at", XO_NotThere, aC_NotThere, PySem.W.mg_of X G aC_NotThere, axNotThere, xti_NotThere, exI_ok FxNotThere XO_NotThere xno_NotThere sc_NotThere___init__ rfl, FxNotThere.binds (ps := ["self", "at"]) fun _ _ _ _ _ _ us hl => match us, hl with | [_, _], _ => rfl⟩
  have XC_NoText : XcD K mg "NoText" [] ["NoProblem", "NoTurn", "TooMany", "NoLetter", "NotThere"] := ⟨C_NoText, PySem.W.mg_of X G aC_NoText, xn_NoText, ((fun _ h => nomatch h)), (List.forall_mem_cons.mpr ⟨⟨C_NoProblem, aC_NoProblem, ⟨xcl_NoProblem, xga_NoProblem, xgg_NoProblem, xsb_NoProblem, xc1_NoProblem, xc2, xc3, xc4_NoProblem⟩, xk_NoProblem_NoText⟩, List.forall_mem_cons.mpr ⟨⟨C_NoTurn, aC_NoTurn, ⟨xcl_NoTurn, xga_NoTurn, xgg_NoTurn, xsb_NoTurn, xc1_NoTurn, xc2, xc3, xc4_NoTurn⟩, xk_NoTurn_NoText⟩, List.forall_mem_cons.mpr ⟨⟨C_TooMany, aC_TooMany, ⟨xcl_TooMany, xga_TooMany, xgg_TooMany, xsb_TooMany, xc1_TooMany, xc2, xc3, xc4_TooMany⟩, xk_TooMany_NoText⟩, List.forall_mem_cons.mpr ⟨⟨C_NoLetter, aC_NoLetter, ⟨xcl_NoLetter, xga_NoLetter, xgg_NoLetter, xsb_NoLetter, xc1_NoLetter, xc2, xc3, xc4_NoLetter⟩, xk_NoLetter_NoText⟩, List.forall_mem_cons.mpr ⟨⟨C_NotThere, aC_NotThere, ⟨xcl_NotThere, xga_NotThere, xgg_NotThere, xsb_NotThere, xc1_NotThere, xc2, xc3, xc4_NotThere⟩, xk_NotThere_NoText⟩, (fun _ h => nomatch h)⟩⟩⟩⟩⟩)⟩
  have XC_TooMany : XcD K mg "TooMany" ["TooMany"] ["NoProblem", "NoTurn", "NoLetter", "NotThere"] := ⟨C_TooMany, PySem.W.mg_of X G aC_TooMany, xn_TooMany, (List.forall_mem_cons.mpr ⟨⟨C_TooMany, aC_TooMany, ⟨xcl_TooMany, xga_TooMany, xgg_TooMany, xsb_TooMany, xc1_TooMany, xc2, xc3, xc4_TooMany⟩, xk_TooMany_TooMany⟩, (fun _ h => nomatch h)⟩), (List.forall_mem_cons.mpr ⟨⟨C_NoProblem, aC_NoProblem, ⟨xcl_NoProblem, xga_NoProblem, xgg_NoProblem, xsb_NoProblem, xc1_NoProblem, xc2, xc3, xc4_NoProblem⟩, xk_NoProblem_TooMany⟩, List.forall_mem_cons.mpr ⟨⟨C_NoTurn, aC_NoTurn, ⟨xcl_NoTurn, xga_NoTurn, xgg_NoTurn, xsb_NoTurn, xc1_NoTurn, xc2, xc3, xc4_NoTurn⟩, xk_NoTurn_TooMany⟩, List.forall_mem_cons.mpr ⟨⟨C_NoLetter, aC_NoLetter, ⟨xcl_NoLetter, xga_NoLetter, xgg_NoLetter, xsb_NoLetter, xc1_NoLetter, xc2, xc3, xc4_NoLetter⟩, xk_NoLetter_TooMany⟩, List.forall_mem_cons.mpr ⟨⟨C_NotThere, aC_NotThere, ⟨xcl_NotThere, xga_NotThere, xgg_NotThere, xsb_NotThere, xc1_NotThere, xc2, xc3, xc4_NotThere⟩, xk_NotThere_TooMany⟩, (fun _ h => nomatch h)⟩⟩⟩⟩)⟩
  have XC_NoClause : XcD K mg "NoClause" [] ["NoProblem", "NoTurn", "TooMany", "NoLetter", "NotThere"] := ⟨C_NoClause, PySem.W.mg_of X G aC_NoClause, xn_NoClause, ((fun _ h => nomatch h)), (List.forall_mem_cons.mpr ⟨⟨C_NoProblem, aC_NoProblem, ⟨xcl_NoProblem, xga_NoProblem, xgg_NoProblem, xsb_NoProblem, xc1_NoProblem, xc2, xc3, xc4_NoProblem⟩, xk_NoProblem_NoClause⟩, List.forall_mem_cons.mpr ⟨⟨C_NoTurn, aC_NoTurn, ⟨xcl_NoTurn, xga_NoTurn, xgg_NoTurn, xsb_NoTurn, xc1_NoTurn, xc2, xc3, xc4_NoTurn⟩, xk_NoTurn_NoClause⟩, List.forall_mem_cons.mpr ⟨⟨C_TooMany, aC_TooMany, ⟨xcl_TooMany, xga_TooMany, xgg_TooMany, xsb_TooMany, xc1_TooMany, xc2, xc3, xc4_TooMany⟩, xk_TooMany_NoClause⟩, List.forall_mem_cons.mpr ⟨⟨C_NoLetter, aC_NoLetter, ⟨xcl_NoLetter, xga_NoLetter, xgg_NoLetter, xsb_NoLetter, xc1_NoLetter, xc2, xc3, xc4_NoLetter⟩, xk_NoLetter_NoClause⟩, List.forall_mem_cons.mpr ⟨⟨C_NotThere, aC_NotThere, ⟨xcl_NotThere, xga_NotThere, xgg_NotThere, xsb_NotThere, xc1_NotThere, xc2, xc3, xc4_NotThere⟩, xk_NotThere_NoClause⟩, (fun _ h => nomatch h)⟩⟩⟩⟩⟩)⟩
  have XC_NoProblem : XcD K mg "NoProblem" ["NoProblem"] ["NoTurn", "TooMany", "NoLetter", "NotThere"] := ⟨C_NoProblem, PySem.W.mg_of X G aC_NoProblem, xn_NoProblem, (List.forall_mem_cons.mpr ⟨⟨C_NoProblem, aC_NoProblem, ⟨xcl_NoProblem, xga_NoProblem, xgg_NoProblem, xsb_NoProblem, xc1_NoProblem, xc2, xc3, xc4_NoProblem⟩, xk_NoProblem_NoProblem⟩, (fun _ h => nomatch h)⟩), (List.forall_mem_cons.mpr ⟨⟨C_NoTurn, aC_NoTurn, ⟨xcl_NoTurn, xga_NoTurn, xgg_NoTurn, xsb_NoTurn, xc1_NoTurn, xc2, xc3, xc4_NoTurn⟩, xk_NoTurn_NoProblem⟩, List.forall_mem_cons.mpr ⟨⟨C_TooMany, aC_TooMany, ⟨xcl_TooMany, xga_TooMany, xgg_TooMany, xsb_TooMany, xc1_TooMany, xc2, xc3, xc4_TooMany⟩, xk_TooMany_NoProblem⟩, List.forall_mem_cons.mpr ⟨⟨C_NoLetter, aC_NoLetter, ⟨xcl_NoLetter, xga_NoLetter, xgg_NoLetter, xsb_NoLetter, xc1_NoLetter, xc2, xc3, xc4_NoLetter⟩, xk_NoLetter_NoProblem⟩, List.forall_mem_cons.mpr ⟨⟨C_NotThere, aC_NotThere, ⟨xcl_NotThere, xga_NotThere, xgg_NotThere, xsb_NotThere, xc1_NotThere, xc2, xc3, xc4_NotThere⟩, xk_NotThere_NoProblem⟩, (fun _ h => nomatch h)⟩⟩⟩⟩)⟩
  have XC_NoStep : XcD K mg "NoStep" [] ["NoProblem", "NoTurn", "TooMany", "NoLetter", "NotThere"] := ⟨C_NoStep, PySem.W.mg_of X G aC_NoStep, xn_NoStep, ((fun _ h => nomatch h)), (List.forall_mem_cons.mpr ⟨⟨C_NoProblem, aC_NoProblem, ⟨xcl_NoProblem, xga_NoProblem, xgg_NoProblem, xsb_NoProblem, xc1_NoProblem, xc2, xc3, xc4_NoProblem⟩, xk_NoProblem_NoStep⟩, List.forall_mem_cons.mpr ⟨⟨C_NoTurn, aC_NoTurn, ⟨xcl_NoTurn, xga_NoTurn, xgg_NoTurn, xsb_NoTurn, xc1_NoTurn, xc2, xc3, xc4_NoTurn⟩, xk_NoTurn_NoStep⟩, List.forall_mem_cons.mpr ⟨⟨C_TooMany, aC_TooMany, ⟨xcl_TooMany, xga_TooMany, xgg_TooMany, xsb_TooMany, xc1_TooMany, xc2, xc3, xc4_TooMany⟩, xk_TooMany_NoStep⟩, List.forall_mem_cons.mpr ⟨⟨C_NoLetter, aC_NoLetter, ⟨xcl_NoLetter, xga_NoLetter, xgg_NoLetter, xsb_NoLetter, xc1_NoLetter, xc2, xc3, xc4_NoLetter⟩, xk_NoLetter_NoStep⟩, List.forall_mem_cons.mpr ⟨⟨C_NotThere, aC_NotThere, ⟨xcl_NotThere, xga_NotThere, xgg_NotThere, xsb_NotThere, xc1_NotThere, xc2, xc3, xc4_NotThere⟩, xk_NotThere_NoStep⟩, (fun _ h => nomatch h)⟩⟩⟩⟩⟩)⟩
  have XC_NotThere : XcD K mg "NotThere" ["NotThere"] ["NoProblem", "NoTurn", "TooMany", "NoLetter"] := ⟨C_NotThere, PySem.W.mg_of X G aC_NotThere, xn_NotThere, (List.forall_mem_cons.mpr ⟨⟨C_NotThere, aC_NotThere, ⟨xcl_NotThere, xga_NotThere, xgg_NotThere, xsb_NotThere, xc1_NotThere, xc2, xc3, xc4_NotThere⟩, xk_NotThere_NotThere⟩, (fun _ h => nomatch h)⟩), (List.forall_mem_cons.mpr ⟨⟨C_NoProblem, aC_NoProblem, ⟨xcl_NoProblem, xga_NoProblem, xgg_NoProblem, xsb_NoProblem, xc1_NoProblem, xc2, xc3, xc4_NoProblem⟩, xk_NoProblem_NotThere⟩, List.forall_mem_cons.mpr ⟨⟨C_NoTurn, aC_NoTurn, ⟨xcl_NoTurn, xga_NoTurn, xgg_NoTurn, xsb_NoTurn, xc1_NoTurn, xc2, xc3, xc4_NoTurn⟩, xk_NoTurn_NotThere⟩, List.forall_mem_cons.mpr ⟨⟨C_TooMany, aC_TooMany, ⟨xcl_TooMany, xga_TooMany, xgg_TooMany, xsb_TooMany, xc1_TooMany, xc2, xc3, xc4_TooMany⟩, xk_TooMany_NotThere⟩, List.forall_mem_cons.mpr ⟨⟨C_NoLetter, aC_NoLetter, ⟨xcl_NoLetter, xga_NoLetter, xgg_NoLetter, xsb_NoLetter, xc1_NoLetter, xc2, xc3, xc4_NoLetter⟩, xk_NoLetter_NotThere⟩, (fun _ h => nomatch h)⟩⟩⟩⟩)⟩
  have XC_NoLetter : XcD K mg "NoLetter" ["NoLetter"] ["NoProblem", "NoTurn", "TooMany", "NotThere"] := ⟨C_NoLetter, PySem.W.mg_of X G aC_NoLetter, xn_NoLetter, (List.forall_mem_cons.mpr ⟨⟨C_NoLetter, aC_NoLetter, ⟨xcl_NoLetter, xga_NoLetter, xgg_NoLetter, xsb_NoLetter, xc1_NoLetter, xc2, xc3, xc4_NoLetter⟩, xk_NoLetter_NoLetter⟩, (fun _ h => nomatch h)⟩), (List.forall_mem_cons.mpr ⟨⟨C_NoProblem, aC_NoProblem, ⟨xcl_NoProblem, xga_NoProblem, xgg_NoProblem, xsb_NoProblem, xc1_NoProblem, xc2, xc3, xc4_NoProblem⟩, xk_NoProblem_NoLetter⟩, List.forall_mem_cons.mpr ⟨⟨C_NoTurn, aC_NoTurn, ⟨xcl_NoTurn, xga_NoTurn, xgg_NoTurn, xsb_NoTurn, xc1_NoTurn, xc2, xc3, xc4_NoTurn⟩, xk_NoTurn_NoLetter⟩, List.forall_mem_cons.mpr ⟨⟨C_TooMany, aC_TooMany, ⟨xcl_TooMany, xga_TooMany, xgg_TooMany, xsb_TooMany, xc1_TooMany, xc2, xc3, xc4_TooMany⟩, xk_TooMany_NoLetter⟩, List.forall_mem_cons.mpr ⟨⟨C_NotThere, aC_NotThere, ⟨xcl_NotThere, xga_NotThere, xgg_NotThere, xsb_NotThere, xc1_NotThere, xc2, xc3, xc4_NotThere⟩, xk_NotThere_NoLetter⟩, (fun _ h => nomatch h)⟩⟩⟩⟩)⟩
  have XC_NoTurn : XcD K mg "NoTurn" ["NoTurn"] ["NoProblem", "TooMany", "NoLetter", "NotThere"] := ⟨C_NoTurn, PySem.W.mg_of X G aC_NoTurn, xn_NoTurn, (List.forall_mem_cons.mpr ⟨⟨C_NoTurn, aC_NoTurn, ⟨xcl_NoTurn, xga_NoTurn, xgg_NoTurn, xsb_NoTurn, xc1_NoTurn, xc2, xc3, xc4_NoTurn⟩, xk_NoTurn_NoTurn⟩, (fun _ h => nomatch h)⟩), (List.forall_mem_cons.mpr ⟨⟨C_NoProblem, aC_NoProblem, ⟨xcl_NoProblem, xga_NoProblem, xgg_NoProblem, xsb_NoProblem, xc1_NoProblem, xc2, xc3, xc4_NoProblem⟩, xk_NoProblem_NoTurn⟩, List.forall_mem_cons.mpr ⟨⟨C_TooMany, aC_TooMany, ⟨xcl_TooMany, xga_TooMany, xgg_TooMany, xsb_TooMany, xc1_TooMany, xc2, xc3, xc4_TooMany⟩, xk_TooMany_NoTurn⟩, List.forall_mem_cons.mpr ⟨⟨C_NoLetter, aC_NoLetter, ⟨xcl_NoLetter, xga_NoLetter, xgg_NoLetter, xsb_NoLetter, xc1_NoLetter, xc2, xc3, xc4_NoLetter⟩, xk_NoLetter_NoTurn⟩, List.forall_mem_cons.mpr ⟨⟨C_NotThere, aC_NotThere, ⟨xcl_NotThere, xga_NotThere, xgg_NotThere, xsb_NotThere, xc1_NotThere, xc2, xc3, xc4_NotThere⟩, xk_NotThere_NoTurn⟩, (fun _ h => nomatch h)⟩⟩⟩⟩)⟩
  have XC_NoAnswer : XcD K mg "NoAnswer" [] ["NoProblem", "NoTurn", "TooMany", "NoLetter", "NotThere"] := ⟨C_NoAnswer, PySem.W.mg_of X G aC_NoAnswer, xn_NoAnswer, ((fun _ h => nomatch h)), (List.forall_mem_cons.mpr ⟨⟨C_NoProblem, aC_NoProblem, ⟨xcl_NoProblem, xga_NoProblem, xgg_NoProblem, xsb_NoProblem, xc1_NoProblem, xc2, xc3, xc4_NoProblem⟩, xk_NoProblem_NoAnswer⟩, List.forall_mem_cons.mpr ⟨⟨C_NoTurn, aC_NoTurn, ⟨xcl_NoTurn, xga_NoTurn, xgg_NoTurn, xsb_NoTurn, xc1_NoTurn, xc2, xc3, xc4_NoTurn⟩, xk_NoTurn_NoAnswer⟩, List.forall_mem_cons.mpr ⟨⟨C_TooMany, aC_TooMany, ⟨xcl_TooMany, xga_TooMany, xgg_TooMany, xsb_TooMany, xc1_TooMany, xc2, xc3, xc4_TooMany⟩, xk_TooMany_NoAnswer⟩, List.forall_mem_cons.mpr ⟨⟨C_NoLetter, aC_NoLetter, ⟨xcl_NoLetter, xga_NoLetter, xgg_NoLetter, xsb_NoLetter, xc1_NoLetter, xc2, xc3, xc4_NoLetter⟩, xk_NoLetter_NoAnswer⟩, List.forall_mem_cons.mpr ⟨⟨C_NotThere, aC_NotThere, ⟨xcl_NotThere, xga_NotThere, xgg_NotThere, xsb_NotThere, xc1_NotThere, xc2, xc3, xc4_NotThere⟩, xk_NotThere_NoAnswer⟩, (fun _ h => nomatch h)⟩⟩⟩⟩⟩)⟩
  have XC_NoPart : XcD K mg "NoPart" [] ["NoProblem", "NoTurn", "TooMany", "NoLetter", "NotThere"] := ⟨C_NoPart, PySem.W.mg_of X G aC_NoPart, xn_NoPart, ((fun _ h => nomatch h)), (List.forall_mem_cons.mpr ⟨⟨C_NoProblem, aC_NoProblem, ⟨xcl_NoProblem, xga_NoProblem, xgg_NoProblem, xsb_NoProblem, xc1_NoProblem, xc2, xc3, xc4_NoProblem⟩, xk_NoProblem_NoPart⟩, List.forall_mem_cons.mpr ⟨⟨C_NoTurn, aC_NoTurn, ⟨xcl_NoTurn, xga_NoTurn, xgg_NoTurn, xsb_NoTurn, xc1_NoTurn, xc2, xc3, xc4_NoTurn⟩, xk_NoTurn_NoPart⟩, List.forall_mem_cons.mpr ⟨⟨C_TooMany, aC_TooMany, ⟨xcl_TooMany, xga_TooMany, xgg_TooMany, xsb_TooMany, xc1_TooMany, xc2, xc3, xc4_TooMany⟩, xk_TooMany_NoPart⟩, List.forall_mem_cons.mpr ⟨⟨C_NoLetter, aC_NoLetter, ⟨xcl_NoLetter, xga_NoLetter, xgg_NoLetter, xsb_NoLetter, xc1_NoLetter, xc2, xc3, xc4_NoLetter⟩, xk_NoLetter_NoPart⟩, List.forall_mem_cons.mpr ⟨⟨C_NotThere, aC_NotThere, ⟨xcl_NotThere, xga_NotThere, xgg_NotThere, xsb_NotThere, xc1_NotThere, xc2, xc3, xc4_NotThere⟩, xk_NotThere_NoPart⟩, (fun _ h => nomatch h)⟩⟩⟩⟩⟩)⟩
  have XC_NoWay : XcD K mg "NoWay" [] ["NoProblem", "NoTurn", "TooMany", "NoLetter", "NotThere"] := ⟨C_NoWay, PySem.W.mg_of X G aC_NoWay, xn_NoWay, ((fun _ h => nomatch h)), (List.forall_mem_cons.mpr ⟨⟨C_NoProblem, aC_NoProblem, ⟨xcl_NoProblem, xga_NoProblem, xgg_NoProblem, xsb_NoProblem, xc1_NoProblem, xc2, xc3, xc4_NoProblem⟩, xk_NoProblem_NoWay⟩, List.forall_mem_cons.mpr ⟨⟨C_NoTurn, aC_NoTurn, ⟨xcl_NoTurn, xga_NoTurn, xgg_NoTurn, xsb_NoTurn, xc1_NoTurn, xc2, xc3, xc4_NoTurn⟩, xk_NoTurn_NoWay⟩, List.forall_mem_cons.mpr ⟨⟨C_TooMany, aC_TooMany, ⟨xcl_TooMany, xga_TooMany, xgg_TooMany, xsb_TooMany, xc1_TooMany, xc2, xc3, xc4_TooMany⟩, xk_TooMany_NoWay⟩, List.forall_mem_cons.mpr ⟨⟨C_NoLetter, aC_NoLetter, ⟨xcl_NoLetter, xga_NoLetter, xgg_NoLetter, xsb_NoLetter, xc1_NoLetter, xc2, xc3, xc4_NoLetter⟩, xk_NoLetter_NoWay⟩, List.forall_mem_cons.mpr ⟨⟨C_NotThere, aC_NotThere, ⟨xcl_NotThere, xga_NotThere, xgg_NotThere, xsb_NotThere, xc1_NotThere, xc2, xc3, xc4_NotThere⟩, xk_NotThere_NoWay⟩, (fun _ h => nomatch h)⟩⟩⟩⟩⟩)⟩
  have XC_NoLog : XcD K mg "NoLog" [] ["NoProblem", "NoTurn", "TooMany", "NoLetter", "NotThere"] := ⟨C_NoLog, PySem.W.mg_of X G aC_NoLog, xn_NoLog, ((fun _ h => nomatch h)), (List.forall_mem_cons.mpr ⟨⟨C_NoProblem, aC_NoProblem, ⟨xcl_NoProblem, xga_NoProblem, xgg_NoProblem, xsb_NoProblem, xc1_NoProblem, xc2, xc3, xc4_NoProblem⟩, xk_NoProblem_NoLog⟩, List.forall_mem_cons.mpr ⟨⟨C_NoTurn, aC_NoTurn, ⟨xcl_NoTurn, xga_NoTurn, xgg_NoTurn, xsb_NoTurn, xc1_NoTurn, xc2, xc3, xc4_NoTurn⟩, xk_NoTurn_NoLog⟩, List.forall_mem_cons.mpr ⟨⟨C_TooMany, aC_TooMany, ⟨xcl_TooMany, xga_TooMany, xgg_TooMany, xsb_TooMany, xc1_TooMany, xc2, xc3, xc4_TooMany⟩, xk_TooMany_NoLog⟩, List.forall_mem_cons.mpr ⟨⟨C_NoLetter, aC_NoLetter, ⟨xcl_NoLetter, xga_NoLetter, xgg_NoLetter, xsb_NoLetter, xc1_NoLetter, xc2, xc3, xc4_NoLetter⟩, xk_NoLetter_NoLog⟩, List.forall_mem_cons.mpr ⟨⟨C_NotThere, aC_NotThere, ⟨xcl_NotThere, xga_NotThere, xgg_NotThere, xsb_NotThere, xc1_NotThere, xc2, xc3, xc4_NotThere⟩, xk_NotThere_NoLog⟩, (fun _ h => nomatch h)⟩⟩⟩⟩⟩)⟩
  have XC_NoDeed : XcD K mg "NoDeed" [] ["NoProblem", "NoTurn", "TooMany", "NoLetter", "NotThere"] := ⟨C_NoDeed, PySem.W.mg_of X G aC_NoDeed, xn_NoDeed, ((fun _ h => nomatch h)), (List.forall_mem_cons.mpr ⟨⟨C_NoProblem, aC_NoProblem, ⟨xcl_NoProblem, xga_NoProblem, xgg_NoProblem, xsb_NoProblem, xc1_NoProblem, xc2, xc3, xc4_NoProblem⟩, xk_NoProblem_NoDeed⟩, List.forall_mem_cons.mpr ⟨⟨C_NoTurn, aC_NoTurn, ⟨xcl_NoTurn, xga_NoTurn, xgg_NoTurn, xsb_NoTurn, xc1_NoTurn, xc2, xc3, xc4_NoTurn⟩, xk_NoTurn_NoDeed⟩, List.forall_mem_cons.mpr ⟨⟨C_TooMany, aC_TooMany, ⟨xcl_TooMany, xga_TooMany, xgg_TooMany, xsb_TooMany, xc1_TooMany, xc2, xc3, xc4_TooMany⟩, xk_TooMany_NoDeed⟩, List.forall_mem_cons.mpr ⟨⟨C_NoLetter, aC_NoLetter, ⟨xcl_NoLetter, xga_NoLetter, xgg_NoLetter, xsb_NoLetter, xc1_NoLetter, xc2, xc3, xc4_NoLetter⟩, xk_NoLetter_NoDeed⟩, List.forall_mem_cons.mpr ⟨⟨C_NotThere, aC_NotThere, ⟨xcl_NotThere, xga_NotThere, xgg_NotThere, xsb_NotThere, xc1_NotThere, xc2, xc3, xc4_NotThere⟩, xk_NotThere_NoDeed⟩, (fun _ h => nomatch h)⟩⟩⟩⟩⟩)⟩
  have XC_Twice : XcD K mg "Twice" [] ["NoProblem", "NoTurn", "TooMany", "NoLetter", "NotThere"] := ⟨C_Twice, PySem.W.mg_of X G aC_Twice, xn_Twice, ((fun _ h => nomatch h)), (List.forall_mem_cons.mpr ⟨⟨C_NoProblem, aC_NoProblem, ⟨xcl_NoProblem, xga_NoProblem, xgg_NoProblem, xsb_NoProblem, xc1_NoProblem, xc2, xc3, xc4_NoProblem⟩, xk_NoProblem_Twice⟩, List.forall_mem_cons.mpr ⟨⟨C_NoTurn, aC_NoTurn, ⟨xcl_NoTurn, xga_NoTurn, xgg_NoTurn, xsb_NoTurn, xc1_NoTurn, xc2, xc3, xc4_NoTurn⟩, xk_NoTurn_Twice⟩, List.forall_mem_cons.mpr ⟨⟨C_TooMany, aC_TooMany, ⟨xcl_TooMany, xga_TooMany, xgg_TooMany, xsb_TooMany, xc1_TooMany, xc2, xc3, xc4_TooMany⟩, xk_TooMany_Twice⟩, List.forall_mem_cons.mpr ⟨⟨C_NoLetter, aC_NoLetter, ⟨xcl_NoLetter, xga_NoLetter, xgg_NoLetter, xsb_NoLetter, xc1_NoLetter, xc2, xc3, xc4_NoLetter⟩, xk_NoLetter_Twice⟩, List.forall_mem_cons.mpr ⟨⟨C_NotThere, aC_NotThere, ⟨xcl_NotThere, xga_NotThere, xgg_NotThere, xsb_NotThere, xc1_NotThere, xc2, xc3, xc4_NotThere⟩, xk_NotThere_Twice⟩, (fun _ h => nomatch h)⟩⟩⟩⟩⟩)⟩
  have XC_NoAsk : XcD K mg "NoAsk" [] ["NoProblem", "NoTurn", "TooMany", "NoLetter", "NotThere"] := ⟨C_NoAsk, PySem.W.mg_of X G aC_NoAsk, xn_NoAsk, ((fun _ h => nomatch h)), (List.forall_mem_cons.mpr ⟨⟨C_NoProblem, aC_NoProblem, ⟨xcl_NoProblem, xga_NoProblem, xgg_NoProblem, xsb_NoProblem, xc1_NoProblem, xc2, xc3, xc4_NoProblem⟩, xk_NoProblem_NoAsk⟩, List.forall_mem_cons.mpr ⟨⟨C_NoTurn, aC_NoTurn, ⟨xcl_NoTurn, xga_NoTurn, xgg_NoTurn, xsb_NoTurn, xc1_NoTurn, xc2, xc3, xc4_NoTurn⟩, xk_NoTurn_NoAsk⟩, List.forall_mem_cons.mpr ⟨⟨C_TooMany, aC_TooMany, ⟨xcl_TooMany, xga_TooMany, xgg_TooMany, xsb_TooMany, xc1_TooMany, xc2, xc3, xc4_TooMany⟩, xk_TooMany_NoAsk⟩, List.forall_mem_cons.mpr ⟨⟨C_NoLetter, aC_NoLetter, ⟨xcl_NoLetter, xga_NoLetter, xgg_NoLetter, xsb_NoLetter, xc1_NoLetter, xc2, xc3, xc4_NoLetter⟩, xk_NoLetter_NoAsk⟩, List.forall_mem_cons.mpr ⟨⟨C_NotThere, aC_NotThere, ⟨xcl_NotThere, xga_NotThere, xgg_NotThere, xsb_NotThere, xc1_NotThere, xc2, xc3, xc4_NotThere⟩, xk_NotThere_NoAsk⟩, (fun _ h => nomatch h)⟩⟩⟩⟩⟩)⟩
  have XB_ValueError : XbD K "ValueError" ["NoProblem", "NoTurn", "TooMany", "NoLetter", "NotThere"] := ⟨xn_ValueError, (List.forall_mem_cons.mpr ⟨⟨C_NoProblem, aC_NoProblem, ⟨xcl_NoProblem, xga_NoProblem, xgg_NoProblem, xsb_NoProblem, xc1_NoProblem, xc2, xc3, xc4_NoProblem⟩, xk_NoProblem_ValueError⟩, List.forall_mem_cons.mpr ⟨⟨C_NoTurn, aC_NoTurn, ⟨xcl_NoTurn, xga_NoTurn, xgg_NoTurn, xsb_NoTurn, xc1_NoTurn, xc2, xc3, xc4_NoTurn⟩, xk_NoTurn_ValueError⟩, List.forall_mem_cons.mpr ⟨⟨C_TooMany, aC_TooMany, ⟨xcl_TooMany, xga_TooMany, xgg_TooMany, xsb_TooMany, xc1_TooMany, xc2, xc3, xc4_TooMany⟩, xk_TooMany_ValueError⟩, List.forall_mem_cons.mpr ⟨⟨C_NoLetter, aC_NoLetter, ⟨xcl_NoLetter, xga_NoLetter, xgg_NoLetter, xsb_NoLetter, xc1_NoLetter, xc2, xc3, xc4_NoLetter⟩, xk_NoLetter_ValueError⟩, List.forall_mem_cons.mpr ⟨⟨C_NotThere, aC_NotThere, ⟨xcl_NotThere, xga_NotThere, xgg_NotThere, xsb_NotThere, xc1_NotThere, xc2, xc3, xc4_NotThere⟩, xk_NotThere_ValueError⟩, (fun _ h => nomatch h)⟩⟩⟩⟩⟩)⟩
  have HT_TurnError : HitD K mg "TurnError" ["NoProblem", "NoTurn", "TooMany", "NoLetter", "NotThere"] [] := ⟨C_TurnError, PySem.W.mg_of X G aC_TurnError, (List.forall_mem_cons.mpr ⟨⟨C_NoProblem, aC_NoProblem, xm_NoProblem_TurnError⟩, List.forall_mem_cons.mpr ⟨⟨C_NoTurn, aC_NoTurn, xm_NoTurn_TurnError⟩, List.forall_mem_cons.mpr ⟨⟨C_TooMany, aC_TooMany, xm_TooMany_TurnError⟩, List.forall_mem_cons.mpr ⟨⟨C_NoLetter, aC_NoLetter, xm_NoLetter_TurnError⟩, List.forall_mem_cons.mpr ⟨⟨C_NotThere, aC_NotThere, xm_NotThere_TurnError⟩, (fun _ h => nomatch h)⟩⟩⟩⟩⟩), ((fun _ h => nomatch h))⟩
  have XA_at : XaD K "at" ["NotThere"] := ⟨(List.forall_mem_cons.mpr ⟨⟨C_NotThere, aC_NotThere, ⟨xga_NotThere, xgg_NotThere, xsb_NotThere, xhd_NotThere⟩, xno_NotThere⟩, (fun _ h => nomatch h)⟩)⟩
  have D__law_mixed : DfG P w K mg base CX0 1 "_law_mixed" ["cell", "k"] [] P__law_mixed := ⟨_, _, [], [], ok__law_mixed  F25, PySem.W.mg_of X G a25, F25.kp, F25.binds (ps := ["cell", "k"]) fun _ _ _ _ _ _ us hl => match us, hl with | [_, _], _ => rfl, .nil, fun _ => .nil⟩
  have D__law_next : DfG P w K mg base CX0 2 "_law_next" ["draw", "size"] [] P__law_next := ⟨_, _, [], [], ok__law_next z_len z_max D__law_mixed F26, PySem.W.mg_of X G a26, F26.kp, F26.binds (ps := ["draw", "size"]) fun _ _ _ _ _ _ us hl => match us, hl with | [_, _], _ => rfl, .nil, fun _ => .nil⟩
  have D_is_number : DfG P w K mg base CX0 1 "is_number" ["thing"] [] P_is_number := ⟨_, _, [], [], ok_is_number z_isinstance z_int z_bool F0, PySem.W.mg_of X G a0, F0.kp, F0.binds (ps := ["thing"]) fun _ _ _ _ _ _ us hl => match us, hl with | [_], _ => rfl, .nil, fun _ => .nil⟩
  have D_need_truths_x : DfG P w K mg base (L2.CX P w) 2 "need_truths" ["many"] [] P_need_truths_x := ⟨_, _, [], [], ok_need_truths_x D_is_number c_MOST_TRUTHS XD_NoProblem F12, PySem.W.mg_of X G a12, F12.kp, F12.binds (ps := ["many"]) fun _ _ _ _ _ _ us hl => match us, hl with | [_], _ => rfl, .nil, fun _ => .nil⟩
  have D_is_letter : DfG P w K mg base CX0 2 "is_letter" ["thing", "many"] [] P_is_letter := ⟨_, _, [], [], ok_is_letter D_is_number z_abs F1, PySem.W.mg_of X G a1, F1.kp, F1.binds (ps := ["thing", "many"]) fun _ _ _ _ _ _ us hl => match us, hl with | [_, _], _ => rfl, .nil, fun _ => .nil⟩
  have D_is_turn : DfG P w K mg base CX0 3 "is_turn" ["thing", "many"] [] P_is_turn := ⟨_, _, [], [], ok_is_turn z_isinstance z_tuple z_len c_MOST D_is_letter z_all z_abs F2, PySem.W.mg_of X G a2, F2.kp, F2.binds (ps := ["thing", "many"]) fun _ _ _ _ _ _ us hl => match us, hl with | [_, _], _ => rfl, .nil, fun _ => .nil⟩
  have D_need_makers_x : DfG P w K mg base (L2.CX P w) 4 "need_makers" ["many", "makers"] [] P_need_makers_x := ⟨_, _, [], [], ok_need_makers_x z_isinstance z_list z_tuple XD_NoTurn z_len c_MOST_MAKERS XD_TooMany D_is_turn z_all F13, PySem.W.mg_of X G a13, F13.kp, F13.binds (ps := ["many", "makers"]) fun _ _ _ _ _ _ us hl => match us, hl with | [_, _], _ => rfl, .nil, fun _ => .nil⟩
  have D_need_letters_x : DfG P w K mg base (L2.CX P w) 3 "need_letters" ["many", "letters"] [] P_need_letters_x := ⟨_, _, [], [], ok_need_letters_x z_isinstance z_list z_tuple D_is_letter z_all XD_NoLetter F14, PySem.W.mg_of X G a14, F14.kp, F14.binds (ps := ["many", "letters"]) fun _ _ _ _ _ _ us hl => match us, hl with | [_, _], _ => rfl, .nil, fun _ => .nil⟩
  have D_unlike : DfG P w K mg base CX0 1 "unlike" ["things"] [] P_unlike := ⟨_, _, [], [], ok_unlike z_list F15, PySem.W.mg_of X G a15, F15.kp, F15.binds (ps := ["things"]) fun _ _ _ _ _ _ us hl => match us, hl with | [_], _ => rfl, .nil, fun _ => .nil⟩
  have D_still : DfG P w K mg base CX0 1 "still" ["many"] [] P_still := ⟨_, _, [], [], ok_still z_tuple z_range F3, PySem.W.mg_of X G a3, F3.kp, F3.binds (ps := ["many"]) fun _ _ _ _ _ _ us hl => match us, hl with | [_], _ => rfl, .nil, fun _ => .nil⟩
  have M_Floor : MakeD P w K mg base CX0 2 "Floor" ["self", "letter", "many"] [] P_Floor___init__ := ⟨C_Floor, f7, _, [], [], aC_Floor, ⟨mk_Floor, a7, i7, kc_Floor⟩, PySem.W.mg_of X G aC_Floor, ok_Floor___init__ Cn_Floor NA_Floor_letter D_still NA_Floor_ways NA_Floor_returns NA_Floor_pushers F7, F7.binds (ps := ["self", "letter", "many"]) fun _ _ _ _ _ _ us hl => match us, hl with | [_, _, _], _ => rfl, .nil, fun _ => .nil⟩
  have D_led : DfG P w K mg base CX0 1 "led" ["turn", "letter"] [] P_led := ⟨_, _, [], [], ok_led  F4, PySem.W.mg_of X G a4, F4.kp, F4.binds (ps := ["turn", "letter"]) fun _ _ _ _ _ _ us hl => match us, hl with | [_, _], _ => rfl, .nil, fun _ => .nil⟩
  have D_composed : DfG P w K mg base CX0 2 "composed" ["one", "other"] [] P_composed := ⟨_, _, [], [], ok_composed D_led z_tuple F5, PySem.W.mg_of X G a5, F5.kp, F5.binds (ps := ["one", "other"]) fun _ _ _ _ _ _ us hl => match us, hl with | [_, _], _ => rfl, .nil, fun _ => .nil⟩
  have D_rest_of : DfG P w K mg base CX0 3 "rest_of" ["chain", "at", "turn"] [] P_rest_of := ⟨_, _, [], [], ok_rest_of D_led Cn_Floor NA_Floor_letter NA_Floor_ways D_composed NA_Floor_returns F9, PySem.W.mg_of X G a9, F9.kp, F9.binds (ps := ["chain", "at", "turn"]) fun _ _ _ _ _ _ us hl => match us, hl with | [_, _, _], _ => rfl, .nil, fun _ => .nil⟩
  have D_inverted : DfG P w K mg base CX0 2 "inverted" ["turn"] [] P_inverted := ⟨_, _, [], [], ok_inverted z_enumerate z_abs D_still z_len z_tuple F6, PySem.W.mg_of X G a6, F6.kp, F6.binds (ps := ["turn"]) fun _ _ _ _ _ _ us hl => match us, hl with | [_], _ => rfl, .nil, fun _ => .nil⟩
  have ME_Floor_lay : MethD P w K mg base CX0 3 "Floor" "lay" ["self", "to", "turn"] [] P_Floor_lay := ⟨C_Floor, f8, _, [], [], aC_Floor, Cs_Floor, ⟨a8, i8, p8⟩, ok_Floor_lay Cn_Floor NA_Floor_ways D_inverted NA_Floor_returns F8, F8.binds (ps := ["self", "to", "turn"]) fun _ _ _ _ _ _ us hl => match us, hl with | [_, _, _], _ => rfl, .nil, fun _ => .nil⟩
  have D_let_in : DfG P w K mg base CX0 18 "let_in" ["chain", "at", "turn"] [] P_let_in := ⟨_, _, [], [], ok_let_in D_rest_of D_still z_len Cn_Floor NA_Floor_pushers NA_Floor_ways D_led D_composed NA_Floor_returns ME_Floor_lay F10 (PySem.W.mg_of X G a10) 14, PySem.W.mg_of X G a10, F10.kp, F10.binds (ps := ["chain", "at", "turn"]) fun _ _ _ _ _ _ us hl => match us, hl with | [_, _, _], _ => rfl, .nil, fun _ => .nil⟩
  have D_chain_of : DfG P w K mg base CX0 19 "chain_of" ["many", "firsts", "makers"] [] P_chain_of := ⟨_, _, [], [], ok_chain_of z_abs z_list D_still M_Floor D_let_in F11, PySem.W.mg_of X G a11, F11.kp, F11.binds (ps := ["many", "firsts", "makers"]) fun _ _ _ _ _ _ us hl => match us, hl with | [_, _, _], _ => rfl, .nil, fun _ => .nil⟩
  obtain ⟨is_KM_Group___init___x_3_base, mv_KM_Group___init___x_3_base, kb_KM_Group___init___x_3_base⟩ := FunD.kbinds F16 (ps := ["self", "many", "makers", "base"]) 3 ["base"] [] (fun us its mv ws => us ++ (ws)) (List.cons_ne_nil _ _) (List.cons_ne_nil _ _) (by simp) (fun r1 rd rm r2 => (r1).append (r2)) (fun _ _ _ _ _ _ _ us its mv ws h1 h2 h3 h4 => match us, its, mv, ws, h1, h2, h3, h4 with | [_, _, _], [_], [], [_], _, _, _, _ => ⟨_, rfl, rfl⟩)
  have KM_Group___init___x_3_base : KmG P w K mg base (L2.CX P w) 20 "Group" ["self", "many", "makers", "base"] 2 ["base"] (fun us ws => us ++ ws) P_Group___init___x := ⟨C_Group, f16, _, _, _, aC_Group, ⟨mk_Group, a16, i16, kc_Group⟩, PySem.W.mg_of X G aC_Group, ok_Group___init___x D_need_truths_x D_need_makers_x D_need_letters_x D_unlike z_abs z_len XD_NoLetter Cn_Group NA_Group_many z_tuple NA_Group_firsts D_still NA_Group_pushers D_chain_of NA_Group_chain F16, kb_KM_Group___init___x_3_base, fun H vs zs ws us r1 r2 => (r1).append (r2)⟩
  have D__law_base_drawn : DfG P w K mg base CX0 3 "_law_base_drawn" ["draw", "many"] [] P__law_base_drawn := ⟨_, _, [], [], ok__law_base_drawn z_list z_range D__law_next z_len F33, PySem.W.mg_of X G a33, F33.kp, F33.binds (ps := ["draw", "many"]) fun _ _ _ _ _ _ us hl => match us, hl with | [_, _], _ => rfl, .nil, fun _ => .nil⟩
  have D__law_goes : DfG P w K mg base CX0 1 "_law_goes" ["turn", "letter"] [] P__law_goes := ⟨_, _, [], [], ok__law_goes  F27, PySem.W.mg_of X G a27, F27.kp, F27.binds (ps := ["turn", "letter"]) fun _ _ _ _ _ _ us hl => match us, hl with | [_, _], _ => rfl, .nil, fun _ => .nil⟩
  have D__law_joined : DfG P w K mg base CX0 2 "_law_joined" ["one", "other"] [] P__law_joined := ⟨_, _, [], [], ok__law_joined D__law_goes z_tuple F28, PySem.W.mg_of X G a28, F28.kp, F28.binds (ps := ["one", "other"]) fun _ _ _ _ _ _ us hl => match us, hl with | [_, _], _ => rfl, .nil, fun _ => .nil⟩
  have kb_KE_Group_has_x_1_thing := fun_kb F23 (ps := ["self", "thing"]) 1 ["thing"] (fun us ws => us ++ (ws)) (fun us ws => us ++ (ws)) (fun r1 r2 => Paired.app (r1) (r2)) (fun _ _ _ _ _ _ us ws h1 h2 => match us, ws, h1, h2 with | [_], [_], _, _ => rfl)
  have KE_Group_has_x_1_thing : KeG P w K mg base (L2.CX P w) 4 "Group" "has" ["self", "thing"] ["thing"] (fun us ws => us ++ ws) P_Group_has_x := ⟨C_Group, f23, _, _, _, aC_Group, Cs_Group, ⟨a23, i23, p23⟩, ok_Group_has_x D_is_turn Cn_Group NA_Group_many D_rest_of NA_Group_chain D_still F23, kb_KE_Group_has_x_1_thing, fun H vs zs ws us r1 r2 => (r1).append (r2)⟩
  have ME_Group_told_chain : MethD P w K mg base CX0 1 "Group" "told_chain" ["self"] [] P_Group_told_chain := ⟨C_Group, f19, _, [], [], aC_Group, Cs_Group, ⟨a19, i19, p19⟩, ok_Group_told_chain Cn_Group NA_Group_chain z_enumerate NA_Group_firsts z_len Cn_Floor NA_Floor_ways F19, F19.binds (ps := ["self"]) fun _ _ _ _ _ _ us hl => match us, hl with | [_], _ => rfl, .nil, fun _ => .nil⟩
  have ME_Group_floors : MethD P w K mg base CX0 2 "Group" "floors" ["self"] [] P_Group_floors := ⟨C_Group, f21, _, [], [], aC_Group, Cs_Group, ⟨a21, i21, p21⟩, ok_Group_floors ME_Group_told_chain Cn_Floor NA_Floor_ways z_sorted F21, F21.binds (ps := ["self"]) fun _ _ _ _ _ _ us hl => match us, hl with | [_], _ => rfl, .nil, fun _ => .nil⟩
  have ME_Group_has_x : MethD P w K mg base (L2.CX P w) 4 "Group" "has" ["self", "thing"] [] P_Group_has_x := ⟨C_Group, f23, _, [], [], aC_Group, Cs_Group, ⟨a23, i23, p23⟩, ok_Group_has_x D_is_turn Cn_Group NA_Group_many D_rest_of NA_Group_chain D_still F23, F23.binds (ps := ["self", "thing"]) fun _ _ _ _ _ _ us hl => match us, hl with | [_, _], _ => rfl, .nil, fun _ => .nil⟩
  have ME_Group_factors_x : MethD P w K mg base (L2.CX P w) 5 "Group" "factors" ["self", "turn"] [] P_Group_factors_x := ⟨C_Group, f24, _, [], [], aC_Group, Cs_Group, ⟨a24, i24, p24⟩, ok_Group_factors_x ME_Group_has_x XF_NotThere ME_Group_told_chain D_led Cn_Floor NA_Floor_letter NA_Floor_ways D_composed NA_Floor_returns F24, F24.binds (ps := ["self", "turn"]) fun _ _ _ _ _ _ us hl => match us, hl with | [_, _], _ => rfl, .nil, fun _ => .nil⟩
  have D__law_factors_right : DfG P w K mg base CX0 6 "_law_factors_right" ["group", "turn", "many"] [] P__law_factors_right := ⟨_, _, [], [], ok__law_factors_right ME_Group_floors ME_Group_factors_x z_isinstance z_list z_len z_tuple z_range z_zip D__law_joined F36, PySem.W.mg_of X G a36, F36.kp, F36.binds (ps := ["group", "turn", "many"]) fun _ _ _ _ _ _ us hl => match us, hl with | [_, _, _], _ => rfl, .nil, fun _ => .nil⟩
  have D__law_great_right : DfG P w K mg base CX0 22 "_law_great_right" ["draw"] [] P__law_great_right := ⟨_, _, [], [], ok__law_great_right D__law_next z_range z_list z_tuple KM_Group___init___x_3_base D__law_base_drawn D__law_joined z_len KE_Group_has_x_1_thing D__law_factors_right F38, PySem.W.mg_of X G a38, F38.kp, F38.binds (ps := ["draw"]) fun _ _ _ _ _ _ us hl => match us, hl with | [_], _ => rfl, .nil, fun _ => .nil⟩
  have D__law_turn : DfG P w K mg base CX0 3 "_law_turn" ["draw", "many"] [] P__law_turn := ⟨_, _, [], [], ok__law_turn D__law_next z_list z_range z_len z_tuple F29, PySem.W.mg_of X G a29, F29.kp, F29.binds (ps := ["draw", "many"]) fun _ _ _ _ _ _ us hl => match us, hl with | [_, _], _ => rfl, .nil, fun _ => .nil⟩
  have D__law_products : DfG P w K mg base CX0 3 "_law_products" ["many", "makers", "bound"] [] P__law_products := ⟨_, _, [], [], ok__law_products z_tuple z_range z_len D__law_joined z_sorted F30, PySem.W.mg_of X G a30, F30.kp, F30.binds (ps := ["many", "makers", "bound"]) fun _ _ _ _ _ _ us hl => match us, hl with | [_, _, _], _ => rfl, .nil, fun _ => .nil⟩
  have D__law_some : DfG P w K mg base CX0 4 "_law_some" ["draw"] [] P__law_some := ⟨_, _, [], [], ok__law_some D__law_next z_range D__law_turn D__law_products F31, PySem.W.mg_of X G a31, F31.kp, F31.binds (ps := ["draw"]) fun _ _ _ _ _ _ us hl => match us, hl with | [_], _ => rfl, .nil, fun _ => .nil⟩
  have D__law_thing : DfG P w K mg base CX0 4 "_law_thing" ["draw", "many", "found"] [] P__law_thing := ⟨_, _, [], [], ok__law_thing D__law_next z_len z_list D__law_turn z_tuple F34, PySem.W.mg_of X G a34, F34.kp, F34.binds (ps := ["draw", "many", "found"]) fun _ _ _ _ _ _ us hl => match us, hl with | [_, _, _], _ => rfl, .nil, fun _ => .nil⟩
  have D__law_is_in : DfG P w K mg base CX0 1 "_law_is_in" ["item", "found"] [] P__law_is_in := ⟨_, _, [], [], ok__law_is_in z_isinstance z_tuple z_int z_bool z_all F35, PySem.W.mg_of X G a35, F35.kp, F35.binds (ps := ["item", "found"]) fun _ _ _ _ _ _ us hl => match us, hl with | [_, _], _ => rfl, .nil, fun _ => .nil⟩
  have D__law_word : DfG P w K mg base CX0 3 "_law_word" ["e"] [] P__law_word := ⟨_, _, [], [], ok__law_word XC_NoText z_isinstance XC_TooMany XC_NoClause XC_NoProblem XC_NoStep XC_NotThere XC_NoLetter XC_NoTurn XC_NoAnswer XC_NoPart XC_NoWay XC_NoLog XC_NoDeed XC_Twice XC_NoAsk XB_ValueError z_ValueError F32, PySem.W.mg_of X G a32, F32.kp, F32.binds (ps := ["e"]) fun _ _ _ _ _ _ us hl => match us, hl with | [_], _ => rfl, .nil, fun _ => .nil⟩
  have D__law_refused : DfG P w K mg base CX0 6 "_law_refused" ["group", "item"] [] P__law_refused := ⟨_, _, [], [], ok__law_refused HT_TurnError ME_Group_factors_x D__law_word XA_at F37, PySem.W.mg_of X G a37, F37.kp, F37.binds (ps := ["group", "item"]) fun _ _ _ _ _ _ us hl => match us, hl with | [_, _], _ => rfl, .nil, fun _ => .nil⟩
  exact ok_law z_list D__law_next D__law_great_right D__law_some KM_Group___init___x_3_base D__law_base_drawn z_range D__law_thing D__law_is_in KE_Group_has_x_1_thing z_isinstance z_bool D__law_factors_right D__law_refused F39
end K19
open PySem PySem.W PyProof.Rows
set_option maxHeartbeats 0 in
theorem PySem.Challenge.cw_turnless_k19_members_and_factors_holds : PySem.Challenge.rw_turnless_k19_members_and_factors.Holds := by
  w_on; o_law; k_head; (case hw => w_witness2)
  k_fill
  refine WL.walk_g (l := PySem.Challenge.rw_turnless_k19_members_and_factors) (n := 63) (k := 23) (x := "script") (CX := fun _ => L2.CX0) (sp := fun w => WL.spL _ K19.P_law) rfl (by decide) rfl ⟨rfl, by decide, by decide⟩ (fun w h Y => PySem.W.kIn_of Y) ?F (fun _ _ a ns hl hb ho hS => WL.law_sp ⟨ns, rfl, ⟨hb, hl⟩, fun _ => rfl⟩ ho hS) (fun _ _ _ _ _ h => h)
  case F =>
    intro w mg fa h KX G hmg
    refine' K19.all_mk KX G hmg ?aC_Floor ?pg_Floor ?hd_Floor ?po_Floor ?sa_Floor ?mk_Floor ?kc_Floor ?aC_Group ?pg_Group ?hd_Group ?po_Group ?sa_Group ?mk_Group ?kc_Group ?nNA_Floor_letter ?nNA_Floor_ways ?nNA_Floor_returns ?nNA_Floor_pushers ?nNA_Group_many ?nNA_Group_firsts ?nNA_Group_pushers ?nNA_Group_chain ?aC_NoProblem ?xkp_NoProblem ?xsb_NoProblem ?xty_NoProblem ?xex_NoProblem ?aC_NoTurn ?xkp_NoTurn ?xsb_NoTurn ?xty_NoTurn ?xex_NoTurn ?aC_TooMany ?xkp_TooMany ?xsb_TooMany ?xty_TooMany ?xex_TooMany ?aC_NoLetter ?xkp_NoLetter ?xsb_NoLetter ?xty_NoLetter ?xex_NoLetter ?aC_NotThere ?xlo_NotThere ?xrf_NotThere ?xsa_NotThere ?xsb_NotThere ?xty_NotThere ?xkp_NotThere ?xno_NotThere ?xti_NotThere ?aC_NoText ?xn_NoText ?xcl_NoProblem ?xga_NoProblem ?xgg_NoProblem ?xc1_NoProblem ?xc2 ?xc3 ?xc4_NoProblem ?xcl_NoTurn ?xga_NoTurn ?xgg_NoTurn ?xc1_NoTurn ?xc4_NoTurn ?xcl_TooMany ?xga_TooMany ?xgg_TooMany ?xc1_TooMany ?xc4_TooMany ?xcl_NoLetter ?xga_NoLetter ?xgg_NoLetter ?xc1_NoLetter ?xc4_NoLetter ?xcl_NotThere ?xga_NotThere ?xgg_NotThere ?xc1_NotThere ?xc4_NotThere ?xk_NoProblem_NoText ?xk_NoTurn_NoText ?xk_TooMany_NoText ?xk_NoLetter_NoText ?xk_NotThere_NoText ?xn_TooMany ?xk_NoProblem_TooMany ?xk_NoTurn_TooMany ?xk_TooMany_TooMany ?xk_NoLetter_TooMany ?xk_NotThere_TooMany ?aC_NoClause ?xn_NoClause ?xk_NoProblem_NoClause ?xk_NoTurn_NoClause ?xk_TooMany_NoClause ?xk_NoLetter_NoClause ?xk_NotThere_NoClause ?xn_NoProblem ?xk_NoProblem_NoProblem ?xk_NoTurn_NoProblem ?xk_TooMany_NoProblem ?xk_NoLetter_NoProblem ?xk_NotThere_NoProblem ?aC_NoStep ?xn_NoStep ?xk_NoProblem_NoStep ?xk_NoTurn_NoStep ?xk_TooMany_NoStep ?xk_NoLetter_NoStep ?xk_NotThere_NoStep ?xn_NotThere ?xk_NoProblem_NotThere ?xk_NoTurn_NotThere ?xk_TooMany_NotThere ?xk_NoLetter_NotThere ?xk_NotThere_NotThere ?xn_NoLetter ?xk_NoProblem_NoLetter ?xk_NoTurn_NoLetter ?xk_TooMany_NoLetter ?xk_NoLetter_NoLetter ?xk_NotThere_NoLetter ?xn_NoTurn ?xk_NoProblem_NoTurn ?xk_NoTurn_NoTurn ?xk_TooMany_NoTurn ?xk_NoLetter_NoTurn ?xk_NotThere_NoTurn ?aC_NoAnswer ?xn_NoAnswer ?xk_NoProblem_NoAnswer ?xk_NoTurn_NoAnswer ?xk_TooMany_NoAnswer ?xk_NoLetter_NoAnswer ?xk_NotThere_NoAnswer ?aC_NoPart ?xn_NoPart ?xk_NoProblem_NoPart ?xk_NoTurn_NoPart ?xk_TooMany_NoPart ?xk_NoLetter_NoPart ?xk_NotThere_NoPart ?aC_NoWay ?xn_NoWay ?xk_NoProblem_NoWay ?xk_NoTurn_NoWay ?xk_TooMany_NoWay ?xk_NoLetter_NoWay ?xk_NotThere_NoWay ?aC_NoLog ?xn_NoLog ?xk_NoProblem_NoLog ?xk_NoTurn_NoLog ?xk_TooMany_NoLog ?xk_NoLetter_NoLog ?xk_NotThere_NoLog ?aC_NoDeed ?xn_NoDeed ?xk_NoProblem_NoDeed ?xk_NoTurn_NoDeed ?xk_TooMany_NoDeed ?xk_NoLetter_NoDeed ?xk_NotThere_NoDeed ?aC_Twice ?xn_Twice ?xk_NoProblem_Twice ?xk_NoTurn_Twice ?xk_TooMany_Twice ?xk_NoLetter_Twice ?xk_NotThere_Twice ?aC_NoAsk ?xn_NoAsk ?xk_NoProblem_NoAsk ?xk_NoTurn_NoAsk ?xk_TooMany_NoAsk ?xk_NoLetter_NoAsk ?xk_NotThere_NoAsk ?xn_ValueError ?xk_NoProblem_ValueError ?xk_NoTurn_ValueError ?xk_TooMany_ValueError ?xk_NoLetter_ValueError ?xk_NotThere_ValueError ?aC_TurnError ?xm_NoProblem_TurnError ?xm_NoTurn_TurnError ?xm_TooMany_TurnError ?xm_NoLetter_TurnError ?xm_NotThere_TurnError ?xhd_NotThere ?a0 ?l0 ?k0 ?p0 ?a1 ?l1 ?k1 ?p1 ?a2 ?l2 ?k2 ?p2 ?a3 ?l3 ?k3 ?p3 ?a4 ?l4 ?k4 ?p4 ?a5 ?l5 ?k5 ?p5 ?a6 ?l6 ?k6 ?p6 ?a7 ?i7 ?l7 ?k7 ?p7 ?a8 ?i8 ?l8 ?k8 ?p8 ?a9 ?l9 ?k9 ?p9 ?a10 ?l10 ?k10 ?p10 ?a11 ?l11 ?k11 ?p11 ?a12 ?l12 ?k12 ?p12 ?a13 ?l13 ?k13 ?p13 ?a14 ?l14 ?k14 ?p14 ?a15 ?l15 ?k15 ?p15 ?a16 ?i16 ?l16 ?k16 ?p16 ?t16 ?xtd16_0 ?xtk16_0 ?q16_0 ?a17 ?i17 ?l17 ?k17 ?p17 ?a18 ?i18 ?l18 ?k18 ?p18 ?a19 ?i19 ?l19 ?k19 ?p19 ?a20 ?i20 ?l20 ?k20 ?p20 ?a21 ?i21 ?l21 ?k21 ?p21 ?a22 ?i22 ?l22 ?k22 ?p22 ?a23 ?i23 ?l23 ?k23 ?p23 ?a24 ?i24 ?l24 ?k24 ?p24 ?a25 ?l25 ?k25 ?p25 ?a26 ?l26 ?k26 ?p26 ?a27 ?l27 ?k27 ?p27 ?a28 ?l28 ?k28 ?p28 ?a29 ?l29 ?k29 ?p29 ?a30 ?l30 ?k30 ?p30 ?a31 ?l31 ?k31 ?p31 ?a32 ?l32 ?k32 ?p32 ?a33 ?l33 ?k33 ?p33 ?a34 ?l34 ?k34 ?p34 ?a35 ?l35 ?k35 ?p35 ?a36 ?l36 ?k36 ?p36 ?a37 ?l37 ?k37 ?p37 ?a38 ?l38 ?k38 ?p38 ?a39 ?l39 ?k39 ?p39 ?axNotThere ?ixNotThere ?lxNotThere ?kxNotThere ?pxNotThere ?z_isinstance ?z_int ?z_bool ?z_abs ?z_tuple ?z_len ?z_all ?z_range ?z_enumerate ?z_list ?z_sorted ?z_max ?z_ValueError ?z_zip ?c_MOST ?c_MOST_TRUTHS ?c_MOST_MAKERS
    (case aC_Floor => k_is); (case pg_Floor => k_is); (case hd_Floor => k_is); (case po_Floor => k_is); (case sa_Floor => k_is); (case mk_Floor => k_is); (case kc_Floor => k_is); (case aC_Group => k_is); (case pg_Group => k_is); (case hd_Group => k_is); (case po_Group => k_is); (case sa_Group => k_is); (case mk_Group => k_is); (case kc_Group => k_is); (case nNA_Floor_letter => k_is); (case nNA_Floor_ways => k_is); (case nNA_Floor_returns => k_is); (case nNA_Floor_pushers => k_is); (case nNA_Group_many => k_is); (case nNA_Group_firsts => k_is); (case nNA_Group_pushers => k_is); (case nNA_Group_chain => k_is); (case aC_NoProblem => k_is); (case xkp_NoProblem => k_is); (case xsb_NoProblem => k_is); (case xty_NoProblem => k_is); (case xex_NoProblem => kernel_rfl); (case aC_NoTurn => k_is); (case xkp_NoTurn => k_is); (case xsb_NoTurn => k_is); (case xty_NoTurn => k_is); (case xex_NoTurn => kernel_rfl); (case aC_TooMany => k_is); (case xkp_TooMany => k_is); (case xsb_TooMany => k_is); (case xty_TooMany => k_is); (case xex_TooMany => kernel_rfl); (case aC_NoLetter => k_is); (case xkp_NoLetter => k_is); (case xsb_NoLetter => k_is); (case xty_NoLetter => k_is); (case xex_NoLetter => kernel_rfl); (case aC_NotThere => k_is); (case xlo_NotThere => k_is); (case xrf_NotThere => kernel_rfl); (case xsa_NotThere => k_is); (case xsb_NotThere => k_is); (case xty_NotThere => k_is); (case xkp_NotThere => k_is); (case xno_NotThere => k_is); (case aC_NoText => k_is); (case xn_NoText => kernel_rfl); (case xcl_NoProblem => kernel_rfl); (case xga_NoProblem => k_is); (case xgg_NoProblem => k_is); (case xc1_NoProblem => k_is); (case xc2 => k_is); (case xc3 => k_is); (case xc4_NoProblem => k_is); (case xcl_NoTurn => kernel_rfl); (case xga_NoTurn => k_is); (case xgg_NoTurn => k_is); (case xc1_NoTurn => k_is); (case xc4_NoTurn => k_is); (case xcl_TooMany => kernel_rfl); (case xga_TooMany => k_is); (case xgg_TooMany => k_is); (case xc1_TooMany => k_is); (case xc4_TooMany => k_is); (case xcl_NoLetter => kernel_rfl); (case xga_NoLetter => k_is); (case xgg_NoLetter => k_is); (case xc1_NoLetter => k_is); (case xc4_NoLetter => k_is); (case xcl_NotThere => kernel_rfl); (case xga_NotThere => k_is); (case xgg_NotThere => k_is); (case xc1_NotThere => k_is); (case xc4_NotThere => k_is); (case xk_NoProblem_NoText => kernel_rfl); (case xk_NoTurn_NoText => kernel_rfl); (case xk_TooMany_NoText => kernel_rfl); (case xk_NoLetter_NoText => kernel_rfl); (case xk_NotThere_NoText => kernel_rfl); (case xn_TooMany => kernel_rfl); (case xk_NoProblem_TooMany => kernel_rfl); (case xk_NoTurn_TooMany => kernel_rfl); (case xk_TooMany_TooMany => kernel_rfl); (case xk_NoLetter_TooMany => kernel_rfl); (case xk_NotThere_TooMany => kernel_rfl); (case aC_NoClause => k_is); (case xn_NoClause => kernel_rfl); (case xk_NoProblem_NoClause => kernel_rfl); (case xk_NoTurn_NoClause => kernel_rfl); (case xk_TooMany_NoClause => kernel_rfl); (case xk_NoLetter_NoClause => kernel_rfl); (case xk_NotThere_NoClause => kernel_rfl); (case xn_NoProblem => kernel_rfl); (case xk_NoProblem_NoProblem => kernel_rfl); (case xk_NoTurn_NoProblem => kernel_rfl); (case xk_TooMany_NoProblem => kernel_rfl); (case xk_NoLetter_NoProblem => kernel_rfl); (case xk_NotThere_NoProblem => kernel_rfl); (case aC_NoStep => k_is); (case xn_NoStep => kernel_rfl); (case xk_NoProblem_NoStep => kernel_rfl); (case xk_NoTurn_NoStep => kernel_rfl); (case xk_TooMany_NoStep => kernel_rfl); (case xk_NoLetter_NoStep => kernel_rfl); (case xk_NotThere_NoStep => kernel_rfl); (case xn_NotThere => kernel_rfl); (case xk_NoProblem_NotThere => kernel_rfl); (case xk_NoTurn_NotThere => kernel_rfl); (case xk_TooMany_NotThere => kernel_rfl); (case xk_NoLetter_NotThere => kernel_rfl); (case xk_NotThere_NotThere => kernel_rfl); (case xn_NoLetter => kernel_rfl); (case xk_NoProblem_NoLetter => kernel_rfl); (case xk_NoTurn_NoLetter => kernel_rfl); (case xk_TooMany_NoLetter => kernel_rfl); (case xk_NoLetter_NoLetter => kernel_rfl); (case xk_NotThere_NoLetter => kernel_rfl); (case xn_NoTurn => kernel_rfl); (case xk_NoProblem_NoTurn => kernel_rfl); (case xk_NoTurn_NoTurn => kernel_rfl); (case xk_TooMany_NoTurn => kernel_rfl); (case xk_NoLetter_NoTurn => kernel_rfl); (case xk_NotThere_NoTurn => kernel_rfl); (case aC_NoAnswer => k_is); (case xn_NoAnswer => kernel_rfl); (case xk_NoProblem_NoAnswer => kernel_rfl); (case xk_NoTurn_NoAnswer => kernel_rfl); (case xk_TooMany_NoAnswer => kernel_rfl); (case xk_NoLetter_NoAnswer => kernel_rfl); (case xk_NotThere_NoAnswer => kernel_rfl); (case aC_NoPart => k_is); (case xn_NoPart => kernel_rfl); (case xk_NoProblem_NoPart => kernel_rfl); (case xk_NoTurn_NoPart => kernel_rfl); (case xk_TooMany_NoPart => kernel_rfl); (case xk_NoLetter_NoPart => kernel_rfl); (case xk_NotThere_NoPart => kernel_rfl); (case aC_NoWay => k_is); (case xn_NoWay => kernel_rfl); (case xk_NoProblem_NoWay => kernel_rfl); (case xk_NoTurn_NoWay => kernel_rfl); (case xk_TooMany_NoWay => kernel_rfl); (case xk_NoLetter_NoWay => kernel_rfl); (case xk_NotThere_NoWay => kernel_rfl); (case aC_NoLog => k_is); (case xn_NoLog => kernel_rfl); (case xk_NoProblem_NoLog => kernel_rfl); (case xk_NoTurn_NoLog => kernel_rfl); (case xk_TooMany_NoLog => kernel_rfl); (case xk_NoLetter_NoLog => kernel_rfl); (case xk_NotThere_NoLog => kernel_rfl); (case aC_NoDeed => k_is); (case xn_NoDeed => kernel_rfl); (case xk_NoProblem_NoDeed => kernel_rfl); (case xk_NoTurn_NoDeed => kernel_rfl); (case xk_TooMany_NoDeed => kernel_rfl); (case xk_NoLetter_NoDeed => kernel_rfl); (case xk_NotThere_NoDeed => kernel_rfl); (case aC_Twice => k_is); (case xn_Twice => kernel_rfl); (case xk_NoProblem_Twice => kernel_rfl); (case xk_NoTurn_Twice => kernel_rfl); (case xk_TooMany_Twice => kernel_rfl); (case xk_NoLetter_Twice => kernel_rfl); (case xk_NotThere_Twice => kernel_rfl); (case aC_NoAsk => k_is); (case xn_NoAsk => kernel_rfl); (case xk_NoProblem_NoAsk => kernel_rfl); (case xk_NoTurn_NoAsk => kernel_rfl); (case xk_TooMany_NoAsk => kernel_rfl); (case xk_NoLetter_NoAsk => kernel_rfl); (case xk_NotThere_NoAsk => kernel_rfl); (case xn_ValueError => kernel_rfl); (case xk_NoProblem_ValueError => kernel_rfl); (case xk_NoTurn_ValueError => kernel_rfl); (case xk_TooMany_ValueError => kernel_rfl); (case xk_NoLetter_ValueError => kernel_rfl); (case xk_NotThere_ValueError => kernel_rfl); (case aC_TurnError => k_is); (case xm_NoProblem_TurnError => kernel_rfl); (case xm_NoTurn_TurnError => kernel_rfl); (case xm_TooMany_TurnError => kernel_rfl); (case xm_NoLetter_TurnError => kernel_rfl); (case xm_NotThere_TurnError => kernel_rfl); (case xhd_NotThere => kernel_rfl); (case a0 => k_is); (case l0 => k_is); (case k0 => k_is); (case p0 => k_is); (case a1 => k_is); (case l1 => k_is); (case k1 => k_is); (case p1 => k_is); (case a2 => k_is); (case l2 => k_is); (case k2 => k_is); (case p2 => k_is); (case a3 => k_is); (case l3 => k_is); (case k3 => k_is); (case p3 => k_is); (case a4 => k_is); (case l4 => k_is); (case k4 => k_is); (case p4 => k_is); (case a5 => k_is); (case l5 => k_is); (case k5 => k_is); (case p5 => k_is); (case a6 => k_is); (case l6 => k_is); (case k6 => k_is); (case p6 => k_is); (case a7 => k_is); (case i7 => k_is); (case l7 => k_is); (case k7 => k_is); (case p7 => k_is); (case a8 => k_is); (case i8 => k_is); (case l8 => k_is); (case k8 => k_is); (case p8 => k_is); (case a9 => k_is); (case l9 => k_is); (case k9 => k_is); (case p9 => k_is); (case a10 => k_is); (case l10 => k_is); (case k10 => k_is); (case p10 => k_is); (case a11 => k_is); (case l11 => k_is); (case k11 => k_is); (case p11 => k_is); (case a12 => k_is); (case l12 => k_is); (case k12 => k_is); (case p12 => k_is); (case a13 => k_is); (case l13 => k_is); (case k13 => k_is); (case p13 => k_is); (case a14 => k_is); (case l14 => k_is); (case k14 => k_is); (case p14 => k_is); (case a15 => k_is); (case l15 => k_is); (case k15 => k_is); (case p15 => k_is); (case a16 => k_is); (case i16 => k_is); (case l16 => k_is); (case k16 => k_is); (case p16 => k_is); (case t16 => k_is); (case xtd16_0 => k_is); (case q16_0 => k_is); (case a17 => k_is); (case i17 => k_is); (case l17 => k_is); (case k17 => k_is); (case p17 => k_is); (case a18 => k_is); (case i18 => k_is); (case l18 => k_is); (case k18 => k_is); (case p18 => k_is); (case a19 => k_is); (case i19 => k_is); (case l19 => k_is); (case k19 => k_is); (case p19 => k_is); (case a20 => k_is); (case i20 => k_is); (case l20 => k_is); (case k20 => k_is); (case p20 => k_is); (case a21 => k_is); (case i21 => k_is); (case l21 => k_is); (case k21 => k_is); (case p21 => k_is); (case a22 => k_is); (case i22 => k_is); (case l22 => k_is); (case k22 => k_is); (case p22 => k_is); (case a23 => k_is); (case i23 => k_is); (case l23 => k_is); (case k23 => k_is); (case p23 => k_is); (case a24 => k_is); (case i24 => k_is); (case l24 => k_is); (case k24 => k_is); (case p24 => k_is); (case a25 => k_is); (case l25 => k_is); (case k25 => k_is); (case p25 => k_is); (case a26 => k_is); (case l26 => k_is); (case k26 => k_is); (case p26 => k_is); (case a27 => k_is); (case l27 => k_is); (case k27 => k_is); (case p27 => k_is); (case a28 => k_is); (case l28 => k_is); (case k28 => k_is); (case p28 => k_is); (case a29 => k_is); (case l29 => k_is); (case k29 => k_is); (case p29 => k_is); (case a30 => k_is); (case l30 => k_is); (case k30 => k_is); (case p30 => k_is); (case a31 => k_is); (case l31 => k_is); (case k31 => k_is); (case p31 => k_is); (case a32 => k_is); (case l32 => k_is); (case k32 => k_is); (case p32 => k_is); (case a33 => k_is); (case l33 => k_is); (case k33 => k_is); (case p33 => k_is); (case a34 => k_is); (case l34 => k_is); (case k34 => k_is); (case p34 => k_is); (case a35 => k_is); (case l35 => k_is); (case k35 => k_is); (case p35 => k_is); (case a36 => k_is); (case l36 => k_is); (case k36 => k_is); (case p36 => k_is); (case a37 => k_is); (case l37 => k_is); (case k37 => k_is); (case p37 => k_is); (case a38 => k_is); (case l38 => k_is); (case k38 => k_is); (case p38 => k_is); (case a39 => k_is); (case l39 => k_is); (case k39 => k_is); (case p39 => k_is); (case axNotThere => k_is); (case ixNotThere => k_is); (case lxNotThere => k_is); (case kxNotThere => k_is); (case pxNotThere => k_is); (case z_isinstance => k_is); (case z_int => k_is); (case z_bool => k_is); (case z_abs => k_is); (case z_tuple => k_is); (case z_len => k_is); (case z_all => k_is); (case z_range => k_is); (case z_enumerate => k_is); (case z_list => k_is); (case z_sorted => k_is); (case z_max => k_is); (case z_ValueError => k_is); (case z_zip => k_is); (case c_MOST => k_is); (case c_MOST_TRUTHS => k_is); (case c_MOST_MAKERS => k_is); (case xti_NotThere => k_is); (case xtk16_0 => k_is)
