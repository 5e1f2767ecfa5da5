import PyProof.Rows.All
import Wide.All
import OpenK.AllK
import Wide.FinOn
import HandS.ForMost
import HandS.Exc
import HandS.TryOnly
import HandS.ExcOwn
import HandS.WordsExc
import HandS.Wide
import HandS.TupAny
import HandS.IsInst
import HandS.Flow
import HandS.Style
import HandS.FStr
import HandS.Conv
import HandS.SetKeys
import HandS.SetBool
import HandS.Zip
import HandS.RaiseMore
import HandS.NoneIn
import KE.DataEq
import KE.KUnpackStar
import HandS.Slots
import KE.Datum
import HandS.EndBits
import PyProof.ReprRoads
import HandS.SortInts
import HandS.Dict
import HandS.DictTup
import KE.KRevSl
import PyProof.ReprLen
import KE.SortUse
import KE.SortKeyHeap
import PyProof.Rows.RuleN_abs
import HandS.DictComp
import HandS.Iter
import KE.GoesEnum
import KE.GoesEnumKw
import HandS.More
import HandS.Defaults
import HandS.TupLen
import KE.KDictPairs
import PyProof.FactsAll.bool_1
import PyProof.TupleOfStr
import HandS.TupMul
import HandS.SetFor
import HandS.MakeKwOnly
import HandS.MakeKw
import KE.KIntText
import HandS.Text
import PySem.Challenge.RW_turnless_k03_whole_answers_one_by_one
set_option Elab.async false
set_option linter.all false
set_option maxRecDepth 100000
/-! WL, part a: values as trees (W), the heap of what changes (GH), readings over them. -/
namespace WL
open PySem PySem.Spec PyProof.Rows L2

/-- a value: a tuple is a tree, a list or another object an address -/
inductive W where
  | non | bl (b : Bool) | int (i : Int) | str (x : Str) | tup (xs : List W) | kt (xs : List W) | fl (xs : List W) | ref (a : Addr) | ty (n : String)
  /-- a dict that nothing writes any more: its keys, its values; an instance likewise: its class, its attributes' names, their values -/
  | fdK (kws : List (Key × W)) | fdT (kws : List (List Key × W)) | fo (c : Str) (fs : List (Str × W))
/-- a key as a value; a tuple of keys -/
def kW : Key → W
  | .inl i => .int i
  | .inr x => .str x

/-- the class that the module's name c holds -/
def ClsAt (K : PySem.W.Frag) (c : Str) (C : Addr) : Prop := PySem.W.nsIn K mainGlobals c = some (some (.ref C))
theorem ClsAt.inj {K : PySem.W.Frag} {c : Str} {C D : Addr} (h : ClsAt K c C) (h' : ClsAt K c D) : C = D := by
  have e := h.symm.trans h'
  cases e; rfl
/-- a list that nothing writes: the script, a list of the written part -/
def FrzL (K : PySem.W.Frag) (H : Hp) (a : Addr) (xs : List V) : Prop :=
  (∃ o, H a = some (.frz o (.lst xs))) ∨
    ∃ (o : Obj) (its : Array Value) (n : Nat), K.lookup a = some o ∧ o.cls = .type "list" ∧ o.dict = none ∧ o.data = .seq its n ∧ its.size ≤ sizeLine ∧ Vals xs its.toList
theorem FrzL.seq {K : PySem.W.Frag} {H : Hp} {a : Addr} {xs : List V} (h : FrzL K H a xs) : SqL K H a xs := by
  rcases h with ⟨o, h⟩ | h
  · exact .inl (.inr ⟨o, h⟩)
  · exact .inr h
/-- a tuple of the written part -/
def KtT (K : PySem.W.Frag) (a : Addr) (xs : List V) : Prop :=
  ∃ (o : Obj) (its : Array Value) (n : Nat), K.lookup a = some o ∧ o.cls = .type "tuple" ∧ o.data = .seq its n ∧ its.size ≤ sizeLine ∧ Vals xs its.toList
theorem KtT.seq {K : PySem.W.Frag} {H : Hp} {a : Addr} {xs : List V} (h : KtT K a xs) : SqT K H a xs := .inr h
mutual
inductive RV (K : PySem.W.Frag) (H : Hp) : V → W → Prop
  | non : RV K H .non .non
  | bl (b : Bool) : RV K H (.bl b) (.bl b)
  | int (i : Int) : RV K H (.int i) (.int i)
  | str (x : Str) : RV K H (.str x) (.str x)
  | ty (n : String) : RV K H (.ty n) (.ty n)
  | ref (a : Addr) : RV K H (.ref a) (.ref a)
  | tup {a : Addr} {vs : List V} {ws : List W} : H a = some (.tup vs) → RVs K H vs ws → RV K H (.ref a) (.tup ws)
  | kt {a : Addr} {vs : List V} {ws : List W} : KtT K a vs → RVs K H vs ws → RV K H (.ref a) (.kt ws)
  | fl {a : Addr} {vs : List V} {ws : List W} : FrzL K H a vs → RVs K H vs ws → RV K H (.ref a) (.fl ws)
  | fdK {a : Addr} {o : Obj} {kvs : List (Key × V)} {kws : List (Key × W)} : H a = some (.frz o (.dK kvs)) → kvs.map (·.1) = kws.map (·.1) → RVs K H (kvs.map (·.2)) (kws.map (·.2)) → RV K H (.ref a) (.fdK kws)
  | fdT {a : Addr} {o : Obj} {kvs : List (List Key × V)} {kws : List (List Key × W)} : H a = some (.frz o (.dT kvs)) → kvs.map (·.1) = kws.map (·.1) → RVs K H (kvs.map (·.2)) (kws.map (·.2)) → RV K H (.ref a) (.fdT kws)
  | fo {a C dx : Addr} {o : Obj} {c : Str} {fvs : List (Str × V)} {fs : List (Str × W)} : ClsAt K c C → H a = some (.frz o (.ins C dx fvs)) → fvs.map (·.1) = fs.map (·.1) → RVs K H (fvs.map (·.2)) (fs.map (·.2)) → RV K H (.ref a) (.fo c fs)
inductive RVs (K : PySem.W.Frag) (H : Hp) : List V → List W → Prop
  | nil : RVs K H [] []
  | cons {v : V} {vs : List V} {w : W} {ws : List W} : RV K H v w → RVs K H vs ws → RVs K H (v :: vs) (w :: ws)
end
section
variable {K : PySem.W.Frag} {H H' H1 H2 : Hp} {v : V} {w : W} {vs us : List V} {ws : List W}
theorem RVs.length : ∀ {vs : List V} {ws : List W}, RVs K H vs ws → vs.length = ws.length
  | _, _, .nil => rfl
  | _, _, .cons _ rs => congrArg (· + 1) (RVs.length rs)
theorem RVs.get : ∀ {vs : List V} {ws : List W} {i : Nat} {w : W}, RVs K H vs ws → ws[i]? = some w → ∃ v, vs[i]? = some v ∧ RV K H v w
  | _, _, _, _, .nil, e => by simp at e
  | _, _, 0, _, .cons r _, e => by simp at e; subst e; exact ⟨_, rfl, r⟩
  | _, _, i + 1, w, .cons _ t, e => by
    obtain ⟨u, h1, h2⟩ := RVs.get (i := i) (w := w) t (by simpa using e)
    exact ⟨u, by simpa using h1, h2⟩
theorem RVs.getV : ∀ {vs : List V} {ws : List W} {i : Nat} {v : V}, RVs K H vs ws → vs[i]? = some v → ∃ w, ws[i]? = some w ∧ RV K H v w
  | _, _, _, _, .nil, e => by simp at e
  | _, _, 0, _, .cons r _, e => by simp at e; subst e; exact ⟨_, rfl, r⟩
  | _, _, i + 1, w, .cons _ t, e => by
    obtain ⟨u, h1, h2⟩ := RVs.getV (i := i) (v := w) t (by simpa using e)
    exact ⟨u, by simpa using h1, h2⟩
theorem RVs.append : ∀ {vs us : List V} {ws xs : List W}, RVs K H vs ws → RVs K H us xs → RVs K H (vs ++ us) (ws ++ xs)
  | _, _, _, _, .nil, r => r
  | _, _, _, _, .cons a t, r => .cons a (RVs.append t r)
theorem RVs.take : ∀ {vs : List V} {ws : List W} (n : Nat), RVs K H vs ws → RVs K H (vs.take n) (ws.take n)
  | _, _, 0, _ => .nil
  | _, _, _ + 1, .nil => .nil
  | _, _, n + 1, .cons r t => .cons r (RVs.take n t)
theorem RVs.drop : ∀ {vs : List V} {ws : List W} (n : Nat), RVs K H vs ws → RVs K H (vs.drop n) (ws.drop n)
  | _, _, 0, r => r
  | _, _, _ + 1, .nil => .nil
  | _, _, n + 1, .cons _ t => RVs.drop n t
theorem RVs.set {v : V} {w : W} (r : RV K H v w) : ∀ {vs : List V} {ws : List W} (i : Nat), RVs K H vs ws → RVs K H (vs.set i v) (ws.set i w)
  | _, _, _, .nil => .nil
  | _, _, 0, .cons _ t => .cons r t
  | _, _, i + 1, .cons q t => .cons q (RVs.set r i t)
theorem RVs.erase : ∀ {vs : List V} {ws : List W} (i : Nat), RVs K H vs ws → RVs K H (vs.eraseIdx i) (ws.eraseIdx i)
  | _, _, _, .nil => .nil
  | _, _, 0, .cons _ t => t
  | _, _, i + 1, .cons q t => .cons q (RVs.erase i t)
theorem RVs.dropLast : ∀ {vs : List V} {ws : List W}, RVs K H vs ws → RVs K H vs.dropLast ws.dropLast
  | _, _, .nil => .nil
  | _, _, .cons q .nil => .nil
  | _, _, .cons q (.cons r t) => .cons q (RVs.dropLast (.cons r t))
theorem RVs.rev : ∀ {vs : List V} {ws : List W}, RVs K H vs ws → RVs K H vs.reverse ws.reverse
  | _, _, .nil => .nil
  | _, _, .cons q t => by
    rw [List.reverse_cons, List.reverse_cons]
    exact RVs.append (RVs.rev t) (.cons q .nil)
end
/-- the items of a sequence that stays -/
def W.seq? : W → Option (List W)
  | .tup xs => some xs
  | .kt xs => some xs
  | .fl xs => some xs
  | _ => none
/-- .. of a tuple -/
def W.tup? : W → Option (List W)
  | .tup xs => some xs
  | .kt xs => some xs
  | _ => none
section
variable {K : PySem.W.Frag} {H : Hp}
theorem RV.tupT {v : V} {w : W} {xs : List W} (r : RV K H v w) (e : w.tup? = some xs) : ∃ a vs, v = .ref a ∧ SqT K H a vs ∧ RVs K H vs xs := by
  cases w with
  | tup ys =>
    cases e
    cases r with
    | tup q rs => exact ⟨_, _, rfl, SqT.of q, rs⟩
  | kt ys =>
    cases e
    cases r with
    | kt q rs => exact ⟨_, _, rfl, q.seq, rs⟩
  | _ => cases e
theorem RVs.ints : ∀ {ns : List Int} {vs : List V}, RVs K H vs (ns.map W.int) → vs = ns.map V.int
  | [], _, .nil => rfl
  | n :: ns, _, .cons r t => by
    cases r
    rw [List.map_cons, RVs.ints t]
theorem RVs.of_ints : ∀ (ns : List Int), RVs K H (ns.map V.int) (ns.map W.int)
  | [] => .nil
  | n :: ns => .cons (.int n) (RVs.of_ints ns)
theorem RVs.strs : ∀ {ns : List Str} {vs : List V}, RVs K H vs (ns.map W.str) → vs = ns.map V.str
  | [], _, .nil => rfl
  | n :: ns, _, .cons r t => by
    cases r
    rw [List.map_cons, RVs.strs t]
theorem RVs.of_strs : ∀ (ns : List Str), RVs K H (ns.map V.str) (ns.map W.str)
  | [] => .nil
  | n :: ns => .cons (.str n) (RVs.of_strs ns)
theorem RVs.bls : ∀ {ns : List Bool} {vs : List V}, RVs K H vs (ns.map W.bl) → vs = ns.map V.bl
  | [], _, .nil => rfl
  | n :: ns, _, .cons r t => by
    cases r
    rw [List.map_cons, RVs.bls t]
end

/-! ### the objects -/
inductive GO where
  /-- a list that may be written -/
  | lst (ws : List W)
  /-- a dict with keys ints and texts; with keys that are tuples of these -/
  | dK (kws : List (Key × W)) | dT (kws : List (List Key × W))
  /-- an instance -/
  | ins (c : Str) (fs : List (Str × W))
  /-- any other thing that is tracked -/
  | ho (u : HO)
abbrev GH := Addr → Option GO
def updG (G : GH) (a : Addr) (o : GO) : GH := fun b => if b = a then some o else G b
theorem updG_same {G : GH} {a : Addr} {o : GO} : updG G a o a = some o := by unfold updG; rw [if_pos rfl]
theorem updG_ne {G : GH} {a b : Addr} {o : GO} (h : b ≠ a) : updG G a o b = G b := by unfold updG; rw [if_neg h]
theorem updG_updG {G : GH} {a : Addr} {o u : GO} : updG (updG G a o) a u = updG G a u := by
  funext b; unfold updG; split <;> rfl
theorem neG {G : GH} {a b : Addr} {o : GO} (h : G a = some o) (h' : G b = none) : a ≠ b := by
  intro e; subst e; rw [h] at h'; cases h'
/-- what is neither a tuple nor frozen -/
def NoTup : HO → Prop
  | .tup _ => False
  | .frz _ _ => False
  | _ => True
def RKV {κ : Type} (K : PySem.W.Frag) (H : Hp) : List (κ × V) → List (κ × W) → Prop := Paired fun p q => p.1 = q.1 ∧ RV K H p.2 q.2
def RO (K : PySem.W.Frag) (H : Hp) (a : Addr) : GO → Prop
  | .lst ws => ∃ vs, H a = some (.lst vs) ∧ RVs K H vs ws
  | .dK kws => ∃ kvs, H a = some (.dK kvs) ∧ RKV K H kvs kws
  | .dT kws => ∃ kvs, H a = some (.dT kvs) ∧ RKV K H kvs kws
  | .ins c fs => ∃ C dx fvs, ClsAt K c C ∧ H a = some (.ins C dx fvs) ∧ RKV K H fvs fs
  | .ho u => H a = some u ∧ NoTup u
theorem RVs.rkv {κ : Type} {K : PySem.W.Frag} {H : Hp} : ∀ {kvs : List (κ × V)} {kws : List (κ × W)}, kvs.map (·.1) = kws.map (·.1) → RVs K H (kvs.map (·.2)) (kws.map (·.2)) → RKV K H kvs kws
  | [], [], _, _ => .nil
  | _ :: _, [], e, _ => by cases e
  | [], _ :: _, e, _ => by cases e
  | _ :: _, _ :: _, e, .cons r t => .cons ⟨(List.cons.inj e).1, r⟩ (RVs.rkv (List.cons.inj e).2 t)
def RH (K : PySem.W.Frag) (H : Hp) (G : GH) : Prop := ∀ a o, G a = some o → RO K H a o

/-- the frame: what is tracked and not named by G stands, and is not named behind -/
def FR (G : GH) (H : Hp) (G' : GH) (H' : Hp) : Prop := ∀ a o, H a = some o → G a = none → H' a = some o ∧ G' a = none
section
variable {K : PySem.W.Frag} {H H' H1 H2 : Hp} {G G' G1 G2 : GH} {a p : Addr} {o x : GO} {u : HO} {v : V} {w : W} {vs us : List V} {ws : List W}
theorem FR.refl : FR G H G H := fun _ _ h g => ⟨h, g⟩
theorem FR.trans (a : FR G H G1 H1) (b : FR G1 H1 G2 H2) : FR G H G2 H2 := fun c o h g => let ⟨h1, g1⟩ := a c o h g; b c o h1 g1
theorem FR.new (hp : H p = none) : FR G H G (upd H p u) := fun c o h g => ⟨by rw [upd_ne (ne_of_none h hp)]; exact h, g⟩
theorem FR.newG (hp : H p = none) : FR G H (updG G p o) (upd H p u) := fun c y h g => by
  have ne := ne_of_none h hp
  exact ⟨by rw [upd_ne ne]; exact h, by rw [updG_ne ne]; exact g⟩
theorem FR.put (hg : G p = some x) : FR G H (updG G p o) (upd H p u) := fun c y h g => by
  have ne : c ≠ p := fun e => by subst e; rw [hg] at g; cases g
  exact ⟨by rw [upd_ne ne]; exact h, by rw [updG_ne ne]; exact g⟩
/-- a thing is forgotten -/
theorem FR.weak (f : FR G H G1 H1) (h : ∀ a, G1 a = none → G2 a = none) : FR G H G2 H1 := fun c o e g => let ⟨h1, g1⟩ := f c o e g; ⟨h1, h c g1⟩
theorem RO.ntup (r : RO K H a o) (h : H a = some u) : NoTup u := by
  cases o with
  | lst ws => obtain ⟨vs, q, _⟩ := r; rw [h] at q; cases q; trivial
  | dK ws => obtain ⟨vs, q, _⟩ := r; rw [h] at q; cases q; trivial
  | dT ws => obtain ⟨vs, q, _⟩ := r; rw [h] at q; cases q; trivial
  | ins C fs => obtain ⟨_, _, vs, _, q, _⟩ := r; rw [h] at q; cases q; trivial
  | ho z => obtain ⟨q, n⟩ := r; rw [h] at q; cases q; exact n
theorem RH.notup (r : RH K H G) (h : H a = some u) (n : ¬ NoTup u) : G a = none := by
  cases e : G a with
  | none => rfl
  | some o => exact absurd (RO.ntup (r a o e) h) n
theorem FR.tup (f : FR G H G' H') (r : RH K H G) {xs : List V} (h : H a = some (.tup xs)) : H' a = some (.tup xs) := (f a _ h (r.notup h fun z => z)).1
theorem FR.frz (f : FR G H G' H') (r : RH K H G) {xs : List V} (h : FrzL K H a xs) : FrzL K H' a xs := by
  rcases h with ⟨o, h⟩ | h
  · exact .inl ⟨o, (f a _ h (r.notup h fun z => z)).1⟩
  · exact .inr h
theorem FR.frzO (f : FR G H G' H') (r : RH K H G) {o : Obj} {u : HO} (h : H a = some (.frz o u)) : H' a = some (.frz o u) := (f a _ h (r.notup h fun z => z)).1
mutual
theorem RV.mono (t : FR G H G' H') (r : RH K H G) : ∀ {v : V} {w : W}, RV K H v w → RV K H' v w
  | _, _, .non => .non
  | _, _, .bl b => .bl b
  | _, _, .int i => .int i
  | _, _, .str x => .str x
  | _, _, .ty n => .ty n
  | _, _, .ref a => .ref a
  | _, _, .tup q rs => .tup (t.tup r q) (RVs.mono t r rs)
  | _, _, .kt q rs => .kt q (RVs.mono t r rs)
  | _, _, .fl q rs => .fl (t.frz r q) (RVs.mono t r rs)
  | _, _, .fdK q e rs => .fdK (t.frzO r q) e (RVs.mono t r rs)
  | _, _, .fdT q e rs => .fdT (t.frzO r q) e (RVs.mono t r rs)
  | _, _, .fo c q e rs => .fo c (t.frzO r q) e (RVs.mono t r rs)
theorem RVs.mono (t : FR G H G' H') (r : RH K H G) : ∀ {vs : List V} {ws : List W}, RVs K H vs ws → RVs K H' vs ws
  | _, _, .nil => .nil
  | _, _, .cons q rs => .cons (RV.mono t r q) (RVs.mono t r rs)
end
theorem RKV.mono {κ : Type} {kvs : List (κ × V)} {kws : List (κ × W)} (t : FR G H G' H') (r : RH K H G) (q : RKV K H kvs kws) : RKV K H' kvs kws := Paired.mapP q fun _ _ h => ⟨h.1, h.2.mono t r⟩
theorem RKV.length {κ : Type} {kvs : List (κ × V)} {kws : List (κ × W)} (r : RKV K H kvs kws) : kvs.length = kws.length := Paired.length r
theorem RO.ex (r : RO K H a o) : ∃ u, H a = Option.some u := by
  cases o with
  | lst ws => obtain ⟨vs, h, _⟩ := r; exact ⟨_, h⟩
  | dK kws => obtain ⟨vs, h, _⟩ := r; exact ⟨_, h⟩
  | dT kws => obtain ⟨vs, h, _⟩ := r; exact ⟨_, h⟩
  | ins C fs => obtain ⟨_, _, _, _, h, _⟩ := r; exact ⟨_, h⟩
  | ho u => exact ⟨_, r.1⟩
/-- the object at b stands where its own place stands -/
theorem RO.keep {b : Addr} {y : GO} (r : RO K H b y) (t : FR G H G' H') (rh : RH K H G) (e : ∀ u, H b = some u → H' b = some u) : RO K H' b y := by
  cases y with
  | lst ws => obtain ⟨vs, h, rr⟩ := r; exact ⟨vs, e _ h, rr.mono t rh⟩
  | dK kws => obtain ⟨vs, h, rr⟩ := r; exact ⟨vs, e _ h, RKV.mono t rh rr⟩
  | dT kws => obtain ⟨vs, h, rr⟩ := r; exact ⟨vs, e _ h, RKV.mono t rh rr⟩
  | ins C fs => obtain ⟨D, dx, vs, c, h, rr⟩ := r; exact ⟨D, dx, vs, c, e _ h, RKV.mono t rh rr⟩
  | ho u => exact ⟨e _ r.1, r.2⟩
/-- a new thing that G does not name -/
theorem RH.new (r : RH K H G) (hp : H p = none) : RH K (upd H p u) G := fun a x e =>
  RO.keep (r a x e) (FR.new hp) r fun z h => by rw [upd_ne (ne_of_none h hp)]; exact h
/-- a new thing that G names -/
theorem RH.newG (r : RH K H G) (hp : H p = none) (ro : RO K (upd H p u) p o) : RH K (upd H p u) (updG G p o) := fun a x e => by
  by_cases h : a = p
  · subst h; rw [updG_same] at e; cases e; exact ro
  · rw [updG_ne h] at e
    exact RO.keep (r a x e) (FR.new hp) r fun z q => by rw [upd_ne h]; exact q
/-- a thing is written -/
theorem RH.put (r : RH K H G) (hg : G p = some x) (ro : RO K (upd H p u) p o) : RH K (upd H p u) (updG G p o) := fun a y e => by
  by_cases h : a = p
  · subst h; rw [updG_same] at e; cases e; exact ro
  · rw [updG_ne h] at e
    exact RO.keep (r a y e) (FR.put (o := o) hg) r fun z q => by rw [upd_ne h]; exact q
/-- G may forget -/
theorem RH.weak (r : RH K H G) (h : ∀ a o, G' a = some o → G a = some o) : RH K H G' := fun a o e => r a o (h a o e)
theorem RH.free (r : RH K H G) (hp : H p = none) : G p = none := by
  cases e : G p with
  | none => rfl
  | some o =>
    obtain ⟨u, h⟩ := RO.ex (r p o e)
    rw [hp] at h; cases h
end
/-! ### the state of a frame -/
abbrev WSt := List (Option W)
def OV (K : PySem.W.Frag) (H : Hp) (ov : Option V) (ow : Option W) : Prop := ∀ w : W, ow = some w → ∃ v, ov = some v ∧ RV K H v w
/-- Z: the heaps at the def's entry -/
structure SR (K : PySem.W.Frag) (Z : GH × Hp) (σ : L2.St) (H : Hp) (S : WSt) (G : GH) : Prop where
  tk : FR Z.1 Z.2 G H
  rs : Paired (OV K H) σ S
  rh : RH K H G
theorem Paired.get2 {α β : Type} {F : α → β → Prop} : ∀ {l₁ : List α} {l₂ : List β} {i : Nat} {y : β}, Paired F l₁ l₂ → l₂[i]? = some y → ∃ x, l₁[i]? = some x ∧ F x y
  | _, _, _, _, .nil, e => by simp at e
  | _, _, 0, _, .cons r _, e => by simp at e; subst e; exact ⟨_, rfl, r⟩
  | _, _, i + 1, y, .cons _ t, e => by
    obtain ⟨u, h1, h2⟩ := Paired.get2 (i := i) (y := y) t (by simpa using e)
    exact ⟨u, by simpa using h1, h2⟩
theorem Paired.set2 {α β : Type} {F : α → β → Prop} {x : α} {y : β} (r : F x y) : ∀ {l₁ : List α} {l₂ : List β} (i : Nat), Paired F l₁ l₂ → Paired F (l₁.set i x) (l₂.set i y)
  | _, _, _, .nil => .nil
  | _, _, 0, .cons _ t => .cons r t
  | _, _, i + 1, .cons q t => .cons q (Paired.set2 r i t)
section
variable {K : PySem.W.Frag} {Z : GH × Hp} {H H' : Hp} {σ : L2.St} {S : WSt} {G G' : GH}
theorem SR.next (r : SR K Z σ H S G) (t : FR G H G' H') (h : RH K H' G') : SR K Z σ H' S G' :=
  ⟨r.tk.trans t, Paired.mapP r.rs fun ov ow f w e => let ⟨v, h1, h2⟩ := f w e; ⟨v, h1, h2.mono t r.rh⟩, h⟩
theorem SR.get (r : SR K Z σ H S G) {i : Nat} {w : W} (e : S[i]? = some (some w)) : ∃ v, σ[i]? = some (some v) ∧ RV K H v w := by
  obtain ⟨ov, h1, h2⟩ := Paired.get2 r.rs e
  obtain ⟨v, rfl, h3⟩ := h2 w rfl
  exact ⟨v, h1, h3⟩
theorem SR.set (r : SR K Z σ H S G) {i : Nat} {v : V} {w : W} (e : RV K H v w) : SR K Z (σ.set i (some v)) H (S.set i (some w)) G :=
  ⟨r.tk, Paired.set2 (show OV K H (some v) (some w) from fun w' e' => by cases e'; exact ⟨v, rfl, e⟩) i r.rs, r.rh⟩
theorem SR.unset (r : SR K Z σ H S G) {i : Nat} : SR K Z (σ.set i none) H (S.set i none) G :=
  ⟨r.tk, Paired.set2 (show OV K H none none from fun w' e' => by cases e') i r.rs, r.rh⟩
end

/-! ### readings over W -/
abbrev KW := W → GH → Prop
abbrev TW := WSt → GH → KW → Prop
abbrev TWT := WSt → GH → (Bool → GH → Prop) → Prop
abbrev TWA := WSt → GH → (List W → GH → Prop) → Prop
structure WEnds where
  nx : WSt → GH → Prop
  rt : KW
  bk : WSt → GH → Prop := fun _ _ => False
  ct : WSt → GH → Prop := fun _ _ => False
abbrev TWS := WEnds → WSt → GH → Prop
/-- what a wish over W is of V -/
def LK (K : PySem.W.Frag) (G : GH) (H : Hp) (R : KW) (Q : VK) : Prop := ∀ w G' v H', R w G' → FR G H G' H' → RV K H' v w → RH K H' G' → Q v H'
def Lf (K : PySem.W.Frag) (Z : GH × Hp) (T : TW) : TE := fun σ H Q => ∃ S G R, SR K Z σ H S G ∧ T S G R ∧ LK K G H R Q
def LfT (K : PySem.W.Frag) (Z : GH × Hp) (T : TWT) : TT := fun σ H Q => ∃ S G R, SR K Z σ H S G ∧ T S G R ∧ ∀ b G' H', R b G' → FR G H G' H' → RH K H' G' → Q b H'
def LfA (K : PySem.W.Frag) (Z : GH × Hp) (T : TWA) : TA := fun σ H Q => ∃ S G R, SR K Z σ H S G ∧ T S G R ∧ ∀ ws G' vs H', R ws G' → FR G H G' H' → RVs K H' vs ws → RH K H' G' → Q vs H'
/-- from the heaps (G, H) on -/
structure LD (K : PySem.W.Frag) (Z : GH × Hp) (G : GH) (H : Hp) (DW : WEnds) (D : Ends) : Prop where
  nx : ∀ S G' σ H', DW.nx S G' → SR K Z σ H' S G' → FR G H G' H' → D.nx σ H'
  rt : ∀ w G' v H', DW.rt w G' → FR G H G' H' → RV K H' v w → RH K H' G' → D.rt v H'
  bk : ∀ S G' σ H', DW.bk S G' → SR K Z σ H' S G' → FR G H G' H' → D.bk σ H'
  ct : ∀ S G' σ H', DW.ct S G' → SR K Z σ H' S G' → FR G H G' H' → D.ct σ H'
def LfS (K : PySem.W.Frag) (Z : GH × Hp) (T : TWS) : TS := fun D σ H => ∃ S G DW, SR K Z σ H S G ∧ T DW S G ∧ LD K Z G H DW D
theorem LD.from_ {K : PySem.W.Frag} {Z : GH × Hp} {G G1 : GH} {H H1 : Hp} {DW : WEnds} {D : Ends} (l : LD K Z G H DW D) (f : FR G H G1 H1) : LD K Z G1 H1 DW D :=
  ⟨fun S G' σ H' d sr g => l.nx S G' σ H' d sr (f.trans g), fun w G' v H' d g => l.rt w G' v H' d (f.trans g), fun S G' σ H' d sr g => l.bk S G' σ H' d sr (f.trans g), fun S G' σ H' d sr g => l.ct S G' σ H' d sr (f.trans g)⟩
section
variable (X : Cx) (Z : GH × Hp)
def WE (e : Expr) (T : TW) : Prop := PE X e (Lf X.K Z T)
def WT (e : Expr) (T : TWT) : Prop := PT X e (LfT X.K Z T)
def WP (e : Expr) (T : TWT) : Prop := PW X e (LfT X.K Z T)
def WA (es : List Expr) (T : TWA) : Prop := PA X es (LfA X.K Z T)
def WS (s : Stmt) (T : TWS) : Prop := PS X s (LfS X.K Z T)
def WSs (s : List Stmt) (T : TWS) : Prop := PSs X s (LfS X.K Z T)
end
theorem _root_.L2.PE.weak {X : Cx} {e : Expr} {t t' : TE} (h : PE X e t) (w : ∀ σ H Q, t' σ H Q → t σ H Q) : PE X e t' := ⟨fun pins s σ H Q I q => h.run pins s σ H Q I (w σ H Q q)⟩
theorem _root_.L2.PT.weak {X : Cx} {e : Expr} {t t' : TT} (h : PT X e t) (w : ∀ σ H Q, t' σ H Q → t σ H Q) : PT X e t' := ⟨fun pins s σ H Q I q => h.run pins s σ H Q I (w σ H Q q)⟩
theorem _root_.L2.PW.weak {X : Cx} {e : Expr} {t t' : TT} (h : PW X e t) (w : ∀ σ H Q, t' σ H Q → t σ H Q) : PW X e t' := ⟨fun wh pins s σ H Q I q => h.run wh pins s σ H Q I (w σ H Q q)⟩
theorem _root_.L2.PA.weak {X : Cx} {e : List Expr} {t t' : TA} (h : PA X e t) (w : ∀ σ H Q, t' σ H Q → t σ H Q) : PA X e t' := ⟨fun p pins s σ H Q I q => h.run p pins s σ H Q I (w σ H Q q)⟩
theorem _root_.L2.PS.weak {X : Cx} {e : Stmt} {t t' : TS} (h : PS X e t) (w : ∀ D σ H, t' D σ H → t D σ H) : PS X e t' := ⟨fun pins s σ H D I q => h.run pins s σ H D I (w D σ H q)⟩
theorem _root_.L2.PSs.weak {X : Cx} {e : List Stmt} {t t' : TS} (h : PSs X e t) (w : ∀ D σ H, t' D σ H → t D σ H) : PSs X e t' := ⟨fun pins s σ H D I q => h.run pins s σ H D I (w D σ H q)⟩
end WL
set_option Elab.async false
set_option linter.all false
set_option maxRecDepth 100000
set_option maxHeartbeats 2000000
/-! WL, part b: expressions. -/
namespace WL
open PySem PySem.Spec PyProof.Rows L2

section
variable {X : Cx} {Z : GH × Hp} {a b c e : Expr} {Ta Tb Tc : TW} {pos : Pos}
/-! ### lifts -/
theorem Lf.go {K : PySem.W.Frag} {σ : L2.St} {H : Hp} {S : WSt} {G : GH} {T : TW} {R : KW} {Q : VK} (sr : SR K Z σ H S G) (t : T S G R) (k : ∀ w G' v H', R w G' → FR G H G' H' → RV K H' v w → RH K H' G' → Q v H') : Lf K Z T σ H Q := ⟨S, G, R, sr, t, k⟩
/-- a two-place operation over W -/
abbrev R2W := W → W → GH → KW → Prop
def l2 (K : PySem.W.Frag) (r : R2W) : R2 := fun x y H Q => ∃ w1 w2 G R, RV K H x w1 ∧ RV K H y w2 ∧ RH K H G ∧ r w1 w2 G R ∧ LK K G H R Q
def tOpW (r : R2W) (Ta Tb : TW) : TW := fun S G R => Ta S G fun w1 G1 => Tb S G1 fun w2 G2 => r w1 w2 G2 R
theorem lf2 {K : PySem.W.Frag} {r : R2W} (σ : L2.St) (H : Hp) (Q : VK) (h : Lf K Z (tOpW r Ta Tb) σ H Q) : tOp (l2 K r) (Lf K Z Ta) (Lf K Z Tb) σ H Q := by
  obtain ⟨S, G, R, sr, t, k⟩ := h
  refine Lf.go sr t fun w1 G1 x H1 t1 tk1 r1 h1 => ?_
  refine Lf.go (sr.next tk1 h1) t1 fun w2 G2 y H2 t2 tk2 r2 h2 => ?_
  exact ⟨w1, w2, G2, R, r1.mono tk2 h1, r2, h2, t2, fun w G' v H' q tk rv rh => k w G' v H' q (tk1.trans (tk2.trans tk)) rv rh⟩
def OpW (X : Cx) (f : Value → Value → Sem Value) (r : R2W) : Prop := OpR X f (l2 X.K r)
theorem we_op {op : Operator} {r : R2W} (ho : OpW X (binaryOp op) r) (ha : WE X Z a Ta) (hb : WE X Z b Tb) : WE X Z (.BinOp a op b pos) (tOpW r Ta Tb) := (pe_op ho ha hb).weak lf2
theorem we_cmp {op : CmpOp} {r : R2W} (ho : OpW X (compareOp op) r) (ha : WE X Z a Ta) (hb : WE X Z b Tb) (hm : behindInMarks op b = false) : WE X Z (.Compare a [op] [b] pos) (tOpW r Ta Tb) := (pe_cmpR ho ha hb hm).weak lf2
/-- a value as a test -/
def boolW (w : W) (G : GH) (R : Bool → GH → Prop) : Prop := match w with
  | .bl b => R b G
  | _ => False
def tTestW (T : TW) : TWT := fun S G R => T S G fun w G1 => boolW w G1 R
theorem lfTest {K : PySem.W.Frag} {T : TW} (σ : L2.St) (H : Hp) (Q : Bool → Hp → Prop) (h : LfT K Z (tTestW T) σ H Q) : tTest (Lf K Z T) σ H Q := by
  obtain ⟨S, G, R, sr, t, k⟩ := h
  refine Lf.go sr t fun w G1 v H1 t1 tk rv rh => ?_
  cases w with
  | bl b => cases rv; exact ⟨b, rfl, k b G1 H1 t1 tk rh⟩
  | _ => exact t1.elim
theorem wt_cmp {op : CmpOp} {r : R2W} (ho : OpW X (compareOp op) r) (ha : WE X Z a Ta) (hb : WE X Z b Tb) (hm : behindInMarks op b = false) : WT X Z (.Compare a [op] [b] pos) (tTestW (tOpW r Ta Tb)) :=
  (pt_cmpR ho ha hb hm).weak fun σ H Q h => lfTest' (fun σ H Q q => lf2 σ H Q q) σ H Q h
where lfTest' {K : PySem.W.Frag} {T : TW} {t : TE} (hw : ∀ σ H Q, Lf K Z T σ H Q → t σ H Q) (σ : L2.St) (H : Hp) (Q : Bool → Hp → Prop) (h : LfT K Z (tTestW T) σ H Q) : tTest t σ H Q := hw _ _ _ (lfTest σ H Q h)
/-- a op b op' c -/
def tChainW (r r' : R2W) (Ta Tb Tc : TW) : TW := fun S G R => Ta S G fun x G1 => Tb S G1 fun y G2 => r x y G2 fun z G3 => boolW z G3 fun k G3 => if k = true then Tc S G3 fun w' G4 => r' y w' G4 R else R (.bl false) G3
theorem lfChain {K : PySem.W.Frag} {r r' : R2W} (σ : L2.St) (H : Hp) (Q : VK) (h : Lf K Z (tChainW r r' Ta Tb Tc) σ H Q) : tChain (l2 K r) (l2 K r') (Lf K Z Ta) (Lf K Z Tb) (Lf K Z Tc) σ H Q := by
  obtain ⟨S, G, R, sr, t, k⟩ := h
  refine Lf.go sr t fun w1 G1 x H1 t1 tk1 r1 h1 => ?_
  refine Lf.go (sr.next tk1 h1) t1 fun w2 G2 y H2 t2 tk2 r2 h2 => ?_
  refine ⟨w1, w2, G2, _, r1.mono tk2 h1, r2, h2, t2, fun z G3 v H3 t3 tk3 r3 h3 => ?_⟩
  cases z with
  | bl b =>
    cases r3
    refine ⟨b, rfl, ?_⟩
    cases b with
    | false => exact iteF (k _ _ _ _ t3 (tk1.trans (tk2.trans tk3)) (.bl false) h3)
    | true =>
      refine iteT ?_
      refine Lf.go ((sr.next tk1 h1).next (tk2.trans tk3) h3) t3 fun w4 G4 y4 H4 t4 tk4 r4 h4 => ?_
      exact ⟨w2, w4, G4, R, (r2.mono tk3 h2).mono tk4 h3, r4, h4, t4, fun w G' v H' q tk rv rh => k w G' v H' q (tk1.trans (tk2.trans (tk3.trans (tk4.trans tk)))) rv rh⟩
  | _ => exact (show False from t3).elim
theorem we_chain {op op' : CmpOp} {r r' : R2W} (ho : OpW X (compareOp op) r) (ho' : OpW X (compareOp op') r') (ha : WE X Z a Ta) (hb : WE X Z b Tb) (hc : WE X Z c Tc)
    (hm : lastMarks [op, op'] [b, c] = false := by with_unfolding_all rfl) : WE X Z (.Compare a [op, op'] [b, c] pos) (tChainW r r' Ta Tb Tc) := (pe_chain ho ho' ha hb hc hm).weak lfChain
theorem wt_chain {op op' : CmpOp} {r r' : R2W} (ho : OpW X (compareOp op) r) (ho' : OpW X (compareOp op') r') (ha : WE X Z a Ta) (hb : WE X Z b Tb) (hc : WE X Z c Tc)
    (hm : lastMarks [op, op'] [b, c] = false := by with_unfolding_all rfl) : WT X Z (.Compare a [op, op'] [b, c] pos) (tTestW (tChainW r r' Ta Tb Tc)) :=
  (pt_chain ho ho' ha hb hc hm).weak fun σ H Q h => lfChain _ _ _ (lfTest σ H Q h)
/-- truth -/
def truW (w : W) (G : GH) (R : Bool → GH → Prop) : Prop := match w with
  | .bl b => R b G
  | .non => R false G
  | .int i => R (i != 0) G
  | .str x => x.length ≤ sizeLine ∧ R ((x.length : Int) != 0) G
  | .tup xs => R (!xs.isEmpty) G
  | .kt xs => R (!xs.isEmpty) G
  | .fl xs => R (!xs.isEmpty) G
  | .ref p => match G p with
    | some (.lst xs) => R (!xs.isEmpty) G
    | some (.dK kws) => R (!kws.isEmpty) G
    | _ => False
  | _ => False
theorem tru_of {K : PySem.W.Frag} {w : W} {G : GH} {R : Bool → GH → Prop} {v : V} {H : Hp} (t : truW w G R) (rv : RV K H v w) (rh : RH K H G) : ∃ k, TruV K v H k ∧ R k G := by
  cases w with
  | bl b => cases rv; exact ⟨b, rfl, t⟩
  | non => cases rv; exact ⟨false, rfl, t⟩
  | int i => cases rv; exact ⟨_, rfl, t⟩
  | str x => cases rv; exact ⟨_, ⟨t.1, rfl⟩, t.2⟩
  | tup xs =>
    cases rv with
    | tup q rs =>
      refine ⟨_, .inr (.inl ⟨_, SqT.of q, rfl⟩), ?_⟩
      have t' : R (!xs.isEmpty) G := t
      cases rs <;> exact t'
  | kt xs =>
    cases rv with
    | kt q rs =>
      refine ⟨_, .inr (.inl ⟨_, q.seq, rfl⟩), ?_⟩
      have t' : R (!xs.isEmpty) G := t
      cases rs <;> exact t'
  | fl xs =>
    cases rv with
    | fl q rs =>
      refine ⟨_, .inl ⟨_, q.seq, rfl⟩, ?_⟩
      have t' : R (!xs.isEmpty) G := t
      cases rs <;> exact t'
  | ref p =>
    cases rv
    unfold truW at t
    cases e : G p with
    | none => simp only [e] at t
    | some o =>
      cases o with
      | lst xs =>
        simp only [e] at t
        obtain ⟨vs, h, rs⟩ := rh _ _ e
        refine ⟨_, .inl ⟨_, SqL.of h, rfl⟩, ?_⟩
        cases rs <;> exact t
      | dK kws =>
        simp only [e] at t
        obtain ⟨vs, h, rs⟩ := rh _ _ e
        refine ⟨_, .inr (.inr ⟨_, h, rfl⟩), ?_⟩
        cases rs <;> exact t
      | _ => simp only [e] at t
  | _ => exact (show False from t).elim
def tTruW (T : TW) : TWT := fun S G R => T S G fun w G1 => truW w G1 R
theorem wt_truth (ha : WE X Z a Ta) (he : ∀ whole, isTrue a X.env whole = (do let v ← whole; standAt a.pos; holding [v] (truthy v)) := by intro _; rfl) : WT X Z a (tTruW Ta) :=
  (pt_truth ha he).weak fun σ H Q h => by
    obtain ⟨S, G, R, sr, t, k⟩ := h
    refine Lf.go sr t fun w G1 v H1 t1 tk rv rh => ?_
    obtain ⟨b, h1, h2⟩ := tru_of t1 rv rh
    exact ⟨b, h1, k _ _ _ h2 tk rh⟩
/-! ### and, or, not -/
variable {rest : List Expr} {tA tB : TWT}
def tAndW (t u : TWT) : TWT := fun S G R => t S G fun c G1 => if c = true then u S G1 R else R false G1
def tOrW (t u : TWT) : TWT := fun S G R => t S G fun c G1 => if c = true then R true G1 else u S G1 R
def tNotW (t : TWT) : TWT := fun S G R => t S G fun c G1 => R (!c) G1
theorem LfT.go {K : PySem.W.Frag} {σ : L2.St} {H : Hp} {S : WSt} {G : GH} {T : TWT} {R : Bool → GH → Prop} {Q : Bool → Hp → Prop} (sr : SR K Z σ H S G) (t : T S G R) (k : ∀ w G' H', R w G' → FR G H G' H' → RH K H' G' → Q w H') : LfT K Z T σ H Q := ⟨S, G, R, sr, t, k⟩
theorem wp_and1 (ha : WT X Z a tA) : WP X Z (.BoolOp .And [a] pos) tA := pw_and1 ha
theorem wp_or1 (ha : WT X Z a tA) : WP X Z (.BoolOp .Or [a] pos) tA := pw_or1 ha
theorem wp_and (ha : WT X Z a tA) (hb : WP X Z (.BoolOp .And (b :: rest) pos) tB) : WP X Z (.BoolOp .And (a :: b :: rest) pos) (tAndW tA tB) :=
  (pw_and ha hb).weak fun σ H Q h => by
    obtain ⟨S, G, R, sr, t, k⟩ := h
    refine LfT.go sr t fun b G1 H1 t1 tk rh => ?_
    cases b with
    | true => exact iteT (LfT.go (sr.next tk rh) t1 fun b G2 H2 t2 tk2 rh2 => k _ _ _ t2 (tk.trans tk2) rh2)
    | false => exact iteF (k _ _ _ t1 tk rh)
theorem wp_or (ha : WT X Z a tA) (hb : WP X Z (.BoolOp .Or (b :: rest) pos) tB) : WP X Z (.BoolOp .Or (a :: b :: rest) pos) (tOrW tA tB) :=
  (pw_or ha hb).weak fun σ H Q h => by
    obtain ⟨S, G, R, sr, t, k⟩ := h
    refine LfT.go sr t fun b G1 H1 t1 tk rh => ?_
    cases b with
    | true => exact iteT (k _ _ _ t1 tk rh)
    | false => exact iteF (LfT.go (sr.next tk rh) t1 fun b G2 H2 t2 tk2 rh2 => k _ _ _ t2 (tk.trans tk2) rh2)
theorem wp_t (h : WP X Z e tA) : WT X Z e tA := PW.pt h
theorem wt_not (ha : WT X Z a tA) : WT X Z (.UnaryOp .Not a pos) (tNotW tA) :=
  (pt_not ha).weak fun σ H Q h => by
    obtain ⟨S, G, R, sr, t, k⟩ := h
    exact LfT.go sr t fun b G1 H1 t1 tk rh => k _ _ _ t1 tk rh
def tAndE (Ta Tb : TW) : TW := fun S G R => Ta S G fun x G1 => truW x G1 fun k G1 => if k = true then Tb S G1 R else R x G1
def tOrE (Ta Tb : TW) : TW := fun S G R => Ta S G fun x G1 => truW x G1 fun k G1 => if k = true then R x G1 else Tb S G1 R
def tNotE (Ta : TW) : TW := fun S G R => Ta S G fun x G1 => truW x G1 fun k G1 => R (.bl (!k)) G1
theorem we_one {op} {T : TW} (h : WE X Z a T) : WE X Z (.BoolOp op [a] pos) T := pe_one h
theorem we_and (ha : WE X Z a Ta) (hb : WE X Z (.BoolOp .And (b :: rest) pos) Tb) : WE X Z (.BoolOp .And (a :: b :: rest) pos) (tAndE Ta Tb) :=
  (pe_andT ha hb).weak fun σ H Q h => by
    obtain ⟨S, G, R, sr, t, k⟩ := h
    refine Lf.go sr t fun w G1 v H1 t1 tk rv rh => ?_
    obtain ⟨c, h1, h2⟩ := tru_of t1 rv rh
    refine ⟨c, h1, ?_⟩
    cases c with
    | true => exact iteT (Lf.go (sr.next tk rh) h2 fun b G2 v2 H2 t2 tk2 rv2 rh2 => k _ _ _ _ t2 (tk.trans tk2) rv2 rh2)
    | false => exact iteF (k _ _ _ _ h2 tk rv rh)
theorem we_or (ha : WE X Z a Ta) (hb : WE X Z (.BoolOp .Or (b :: rest) pos) Tb) : WE X Z (.BoolOp .Or (a :: b :: rest) pos) (tOrE Ta Tb) :=
  (pe_orT ha hb).weak fun σ H Q h => by
    obtain ⟨S, G, R, sr, t, k⟩ := h
    refine Lf.go sr t fun w G1 v H1 t1 tk rv rh => ?_
    obtain ⟨c, h1, h2⟩ := tru_of t1 rv rh
    refine ⟨c, h1, ?_⟩
    cases c with
    | true => exact iteT (k _ _ _ _ h2 tk rv rh)
    | false => exact iteF (Lf.go (sr.next tk rh) h2 fun b G2 v2 H2 t2 tk2 rv2 rh2 => k _ _ _ _ t2 (tk.trans tk2) rv2 rh2)
theorem we_not (ha : WE X Z a Ta) : WE X Z (.UnaryOp .Not a pos) (tNotE Ta) :=
  (pe_notT ha).weak fun σ H Q h => by
    obtain ⟨S, G, R, sr, t, k⟩ := h
    refine Lf.go sr t fun w G1 v H1 t1 tk rv rh => ?_
    obtain ⟨c, h1, h2⟩ := tru_of t1 rv rh
    exact ⟨c, h1, k _ _ _ _ h2 tk (.bl _) rh⟩
def tIfE (t : TWT) (Ta Tb : TW) : TW := fun S G R => t S G fun c G1 => if c = true then Ta S G1 R else Tb S G1 R
theorem we_if {c : Expr} (hc : WT X Z c tA) (ha : WE X Z a Ta) (hb : WE X Z b Tb) : WE X Z (.IfExp c a b pos) (tIfE tA Ta Tb) :=
  (pe_ifExp hc ha hb).weak fun σ H Q h => by
    obtain ⟨S, G, R, sr, t, k⟩ := h
    refine LfT.go sr t fun c G1 H1 t1 tk rh => ?_
    cases c with
    | true => exact iteT (Lf.go (sr.next tk rh) t1 fun b G2 v2 H2 t2 tk2 rv2 rh2 => k _ _ _ _ t2 (tk.trans tk2) rv2 rh2)
    | false => exact iteF (Lf.go (sr.next tk rh) t1 fun b G2 v2 H2 t2 tk2 rv2 rh2 => k _ _ _ _ t2 (tk.trans tk2) rv2 rh2)

/-! ### names and constants -/
def tV (i : Nat) : TW := fun S G R => match S[i]? with
  | some (some w) => R w G
  | _ => False
def tK (w : W) : TW := fun _ G R => R w G
theorem we_v (i : Nat) {x : Str} (hN : X.N[i]? = some x := by rfl) (hv : Vis X.env.scope x := by first | exact Or.inl rfl | exact Or.inr (Or.inl rfl) | exact Or.inr (Or.inr rfl)) (hd : (x == ("__debug__" : Str)) = false := by decide)
    (hcd : (x == ("__classdict__" : Str)) = false := by decide) : WE X Z (.Name x pos) (tV i) := (pe_var hN hv hd hcd).weak fun σ H Q h => by
  obtain ⟨S, G, R, sr, t, k⟩ := h
  unfold tV at t
  split at t
  · rename_i w e
    obtain ⟨v, h1, h2⟩ := sr.get e
    exact ⟨v, h1, k _ _ _ _ t .refl h2 sr.rh⟩
  · exact t.elim
theorem we_c {v : V} {w : W} (h : PE X e (tC v)) (rv : ∀ H, RV X.K H v w) : WE X Z e (tK w) := h.weak fun σ H Q h => by
  obtain ⟨S, G, R, sr, t, k⟩ := h
  exact k _ _ _ _ t .refl (rv H) sr.rh
theorem we_int {i j} : WE X Z (.Constant (.int i) j pos) (tK (.int i)) := we_c pe_int fun _ => .int i
theorem we_bl {i j} : WE X Z (.Constant (.bool i) j pos) (tK (.bl i)) := we_c pe_bl fun _ => .bl i
theorem we_non {j} : WE X Z (.Constant .none j pos) (tK .non) := we_c pe_non fun _ => .non
theorem we_str {x j} : WE X Z (.Constant (.str x) j pos) (tK (.str x)) := we_c pe_str fun _ => .str x
/-- a module's constant that is an int, a text .. ; a built-in class as a value -/
theorem we_glob {x : Str} {v : V} {w : W} {u : Value} (hg : Gl X x) (hm : X.mg x = some u) (r : RelV v u) (rv : ∀ H, RV X.K H v w) (hd : (x == ("__debug__" : Str)) = false := by decide) : WE X Z (.Name x pos) (tK w) := we_c (pe_glob hg hm r hd) rv
theorem we_ty {x : Str} {n : String} (hg : Gl X x) (hm : X.mg x = none) (hv : bootBuiltins x = some (.type n)) (hn : x ≠ "__name__" := by decide) (hd : (x == ("__debug__" : Str)) = false := by decide) : WE X Z (.Name x pos) (tK (.ty n)) :=
  we_c (pe_bltn (v := .ty n) hg hm hv rfl hn hd) fun _ => .ty n

/-! ### arguments, displays -/
variable {es : List Expr} {Tr : TWA}
theorem LfA.go {K : PySem.W.Frag} {σ : L2.St} {H : Hp} {S : WSt} {G : GH} {T : TWA} {R : List W → GH → Prop} {Q : List V → Hp → Prop} (sr : SR K Z σ H S G) (t : T S G R) (k : ∀ ws G' vs H', R ws G' → FR G H G' H' → RVs K H' vs ws → RH K H' G' → Q vs H') : LfA K Z T σ H Q := ⟨S, G, R, sr, t, k⟩
def tN : TWA := fun _ G R => R [] G
def tCo (Ta : TW) (Tr : TWA) : TWA := fun S G R => Ta S G fun w G1 => Tr S G1 fun ws G2 => R (w :: ws) G2
theorem wa_nil : WA X Z [] tN := pa_nil.weak fun σ H Q h => by
  obtain ⟨S, G, R, sr, t, k⟩ := h
  exact k _ _ _ _ t .refl .nil sr.rh
theorem wa_cons (ha : WE X Z e Ta) (hr : WA X Z es Tr) (hs : starEach (e :: es) X.env = (false, eval e X.env) :: starEach es X.env := by rfl) : WA X Z (e :: es) (tCo Ta Tr) := (pa_cons ha hr hs).weak fun σ H Q h => by
  obtain ⟨S, G, R, sr, t, k⟩ := h
  refine Lf.go sr t fun w G1 v H1 t1 tk rv rh => ?_
  refine LfA.go (sr.next tk rh) t1 fun ws G2 vs H2 t2 tk2 rv2 rh2 => ?_
  exact k _ _ _ _ t2 (tk.trans tk2) (.cons (rv.mono tk2 rh) rv2) rh2
def tTupW (T : TWA) : TW := fun S G R => T S G fun ws G1 => ws.length ≤ sizeLine ∧ R (.tup ws) G1
def tLstW (T : TWA) : TW := fun S G R => T S G fun ws G1 => ws.length ≤ sizeLine ∧ ∀ p, G1 p = none → R (.ref p) (updG G1 p (.lst ws))
theorem we_tup {x1} (h : WA X Z es Tr) : WE X Z (.Tuple es x1 pos) (tTupW Tr) := (pe_tup h).weak fun σ H Q h => by
  obtain ⟨S, G, R, sr, t, k⟩ := h
  refine LfA.go sr t fun ws G1 vs H1 t1 tk rs rh => ⟨by rw [rs.length]; exact t1.1, fun p hp => ?_⟩
  exact k _ _ _ _ t1.2 (tk.trans (.new hp)) (.tup upd_same (rs.mono (.new hp) rh)) (rh.new hp)
theorem we_lst (h : WA X Z es Tr) : WE X Z (.List es pos) (tLstW Tr) := (pe_lst h).weak fun σ H Q h => by
  obtain ⟨S, G, R, sr, t, k⟩ := h
  refine LfA.go sr t fun ws G1 vs H1 t1 tk rs rh => ⟨by rw [rs.length]; exact t1.1, fun p hp => ?_⟩
  exact k _ _ _ _ (t1.2 p (rh.free hp)) (tk.trans (.newG hp)) (.ref p) (rh.newG hp ⟨vs, upd_same, rs.mono (.new hp) rh⟩)
end
end WL
set_option Elab.async false
set_option linter.all false
set_option maxRecDepth 100000
set_option maxHeartbeats 4000000
/-! WL, part c: operators and comparisons. -/
namespace WL
open PySem PySem.Spec PyProof.Rows L2

/-! ### data without objects of one's own, for == -/
mutual
inductive PD (G : GH) : W → PyData → Prop
  | non : PD G .non .none
  | bl (b : Bool) : PD G (.bl b) (.bool b)
  | int (i : Int) : PD G (.int i) (.int i)
  | str (x : Str) : PD G (.str x) (.str x)
  | tup {ws : List W} {ds : List PyData} : PDs G ws ds → PD G (.tup ws) (.tuple ds)
  | kt {ws : List W} {ds : List PyData} : PDs G ws ds → PD G (.kt ws) (.tuple ds)
  | fl {ws : List W} {ds : List PyData} : PDs G ws ds → PD G (.fl ws) (.list ds)
  | lst {p : Addr} {ws : List W} {ds : List PyData} : G p = some (.lst ws) → PDs G ws ds → PD G (.ref p) (.list ds)
inductive PDs (G : GH) : List W → List PyData → Prop
  | nil : PDs G [] []
  | cons {w : W} {ws : List W} {d : PyData} {ds : List PyData} : PD G w d → PDs G ws ds → PDs G (w :: ws) (d :: ds)
end
mutual
theorem PD.plain {G : GH} : ∀ {w : W} {d : PyData}, PD G w d → d.plain = true
  | _, _, .non => rfl
  | _, _, .bl _ => rfl
  | _, _, .int _ => rfl
  | _, _, .str _ => rfl
  | _, _, .tup q => PDs.plain q
  | _, _, .kt q => PDs.plain q
  | _, _, .fl q => PDs.plain q
  | _, _, .lst _ q => PDs.plain q
theorem PDs.plain {G : GH} : ∀ {w : List W} {d : List PyData}, PDs G w d → PyData.plainAll d = true
  | _, _, .nil => rfl
  | _, _, .cons q r => by
    simp only [PyData.plainAll, PD.plain q, PDs.plain r, Bool.and_self]
end
mutual
theorem PD.dp {K : PySem.W.Frag} {H : Hp} {G : GH} (rh : RH K H G) : ∀ {v : V} {w : W} {d : PyData}, RV K H v w → PD G w d → Dp K H v d
  | _, _, _, r, .non => by cases r; exact Dp.non
  | _, .bl b, _, r, .bl _ => by cases r; exact Dp.bl b
  | _, .int b, _, r, .int _ => by cases r; exact Dp.int b
  | _, .str b, _, r, .str _ => by cases r; exact Dp.str b
  | _, _, _, r, .tup p => by
    cases r with
    | tup q rs => exact .tup (SqT.of q) (PDs.dp rh rs p)
  | _, _, _, r, .kt p => by
    cases r with
    | kt q rs => exact .tup q.seq (PDs.dp rh rs p)
  | _, _, _, r, .fl p => by
    cases r with
    | fl q rs => exact .lst q.seq (PDs.dp rh rs p)
  | _, _, _, r, .lst e p => by
    cases r with
    | ref a =>
      obtain ⟨vs, h, rs⟩ := rh _ _ e
      exact .lst (SqL.of h) (PDs.dp rh rs p)
theorem PDs.dp {K : PySem.W.Frag} {H : Hp} {G : GH} (rh : RH K H G) : ∀ {vs : List V} {ws : List W} {ds : List PyData}, RVs K H vs ws → PDs G ws ds → DpAll K H vs ds
  | _, _, _, .nil, .nil => .nil
  | _, _, _, .cons r rs, .cons p ps => .cons (PD.dp rh r p) (PDs.dp rh rs ps)
end
theorem PDs.length {G : GH} : ∀ {ws : List W} {ds : List PyData}, PDs G ws ds → ws.length = ds.length
  | _, _, .nil => rfl
  | _, _, .cons _ r => congrArg (· + 1) (PDs.length r)
theorem PDs.ints {G : GH} : ∀ ns : List Int, PDs G (ns.map .int) (ns.map .int)
  | [] => .nil
  | n :: ns => .cons (.int n) (PDs.ints ns)
theorem PDs.map {α : Type} {G : GH} {f : α → W} {g : α → PyData} : ∀ ns : List α, (∀ n ∈ ns, PD G (f n) (g n)) → PDs G (ns.map f) (ns.map g)
  | [], _ => .nil
  | n :: ns, h => .cons (h n List.mem_cons_self) (PDs.map ns fun m hm => h m (List.mem_cons_of_mem _ hm))

section
variable {X : Cx} {Z : GH × Hp}
/-- what goes on with a value that stands in the same heap -/
theorem LK.here {K : PySem.W.Frag} {H : Hp} {R : KW} {Q : VK} {w : W} {v : V} {G : GH} (k : LK K G H R Q) (t : R w G) (rv : RV K H v w) (rh : RH K H G) : Q v H := k w G v H t .refl rv rh

/-! ### lists of any standing -/
def lstAt (w : W) (G : GH) : Option (List W) := match w with
  | .fl xs => some xs
  | .ref p => match G p with
    | some (.lst xs) => some xs
    | _ => none
  | _ => none
theorem lst_at {K : PySem.W.Frag} {H : Hp} {G : GH} {w : W} {v : V} {xs : List W} (h : lstAt w G = some xs) (rv : RV K H v w) (rh : RH K H G) : ∃ a vs, v = .ref a ∧ SqL K H a vs ∧ RVs K H vs xs := by
  unfold lstAt at h
  split at h
  · cases h
    cases rv with
    | fl q rs => exact ⟨_, _, rfl, q.seq, rs⟩
  · split at h
    · rename_i e
      cases h
      cases rv
      obtain ⟨vs, h1, rs⟩ := rh _ _ e
      exact ⟨_, _, rfl, SqL.of h1, rs⟩
    · cases h
  · cases h
/-- list + list, whatever they stand as -/
def rCatL (K : PySem.W.Frag) : R2 := fun x y H Q => ∃ l b xs zs, x = .ref l ∧ y = .ref b ∧ SqL K H l xs ∧ SqL K H b zs ∧ xs.length + zs.length ≤ sizeLine ∧ ∀ p, H p = none → Q (.ref p) (upd H p (.lst (xs ++ zs)))
theorem op_catL : OpR X (binaryOp .Add) (rCatL X.K) := by
  intro pins s σ H x y v u Q I rx ry h
  obtain ⟨l, b, xs, zs, rfl, rfl, hH, hB, hz, q⟩ := h
  cases rx
  cases ry
  obtain ⟨its, r, ⟨⟨cls, dd, data, sl⟩, n, e, hc, hd, hdat⟩, hl⟩ := I.list hH
  obtain ⟨its2, r2, ⟨⟨cls2, dd2, data2, sl2⟩, n2, e2, hc2, hd2, hdat2⟩, hl2⟩ := I.list hB
  simp only at hc hd hdat hc2 hd2 hdat2
  subst hc hd hdat hc2 hd2 hdat2
  have z1 := r.length
  have z2 := r2.length
  have ea : its.toArray ++ its2.toArray = (its ++ its2).toArray := by simp
  refine concat_meets ⟨_, e, rfl⟩ ⟨_, e2, rfl⟩ noFill_list_add seq_list_add PySem.F.slot_list_add PySem.F.entry_list_add (PySem.F.args_list_add_2 _ _) (list_addW l b its.toArray its2.toArray n n2 none none sl sl2 (by simp; omega)) ⟨e, e2, ?_⟩
  rw [ea]
  exact ⟨.ref _, _, I.lnew (t' := s.toks) (r.append r2) (by rw [List.length_append]; omega), rfl, q _ I.fresh⟩
/-! ### arithmetic -/
def catW (w1 w2 : W) (G : GH) (R : KW) : Prop := match lstAt w1 G with
  | some xs => match lstAt w2 G with
    | some ys => xs.length + ys.length ≤ sizeLine ∧ ∀ r, G r = none → R (.ref r) (updG G r (.lst (xs ++ ys)))
    | none => False
  | none => False
def addW : R2W := fun w1 w2 G R => match w1, w2 with
  | .int a, .int b => R (.int (a + b)) G
  | .str a, .str b => a.length + b.length ≤ sizeLine ∧ R (.str (a ++ b)) G
  | .tup a, .tup b => a.length + b.length ≤ sizeLine ∧ R (.tup (a ++ b)) G
  | .ref p, y => catW (.ref p) y G R
  | .fl xs, y => catW (.fl xs) y G R
  | _, _ => False
theorem op_addW : OpW X (binaryOp .Add) addW := by
  intro pins s σ H x y v u Q I rx ry h
  obtain ⟨w1, w2, G, R, r1, r2, rh, t, k⟩ := h
  have cat : catW w1 w2 G R → wpAny (model X.prog X.w) X.A (binaryOp .Add v u) (EP X pins σ Q) X.xe s := fun t => by
    unfold catW at t
    split at t
    · rename_i xs e1
      split at t
      · rename_i ys e2
        obtain ⟨a, vs, rfl, h1, s1⟩ := lst_at e1 r1 rh
        obtain ⟨b, us, rfl, h2, s2⟩ := lst_at e2 r2 rh
        exact op_catL pins s σ H _ _ v u Q I rx ry ⟨_, _, _, _, rfl, rfl, h1, h2, by rw [s1.length, s2.length]; exact t.1, fun r hr =>
          k _ _ _ _ (t.2 r (rh.free hr)) (.newG hr) (.ref r) (rh.newG hr ⟨_, upd_same, (s1.append s2).mono (.new hr) rh⟩)⟩
      · exact t.elim
    · exact t.elim
  cases w1 with
  | int a =>
    cases w2 with
    | int b => cases r1; cases r2; exact op_add pins s σ H _ _ v u Q I rx ry ⟨a, b, rfl, rfl, k.here t (.int _) rh⟩
    | _ => exact (show False from t).elim
  | str a =>
    cases w2 with
    | str b => cases r1; cases r2; exact op_add_str pins s σ H _ _ v u Q I rx ry ⟨a, b, rfl, rfl, t.1, k.here t.2 (.str _) rh⟩
    | _ => exact (show False from t).elim
  | tup a =>
    cases w2 with
    | tup b =>
      obtain ⟨z, t⟩ : a.length + b.length ≤ sizeLine ∧ R (.tup (a ++ b)) G := t
      cases r1 with
      | tup e1 s1 =>
        cases r2 with
        | tup e2 s2 =>
          refine op_catA pins s σ H _ _ v u Q I rx ry ⟨_, _, _, _, rfl, rfl, SqT.of e1, SqT.of e2, by rw [s1.length, s2.length]; exact z, fun h => ?_, fun h1 h2 => ?_, fun h1 h2 p hp => ?_⟩
          · subst h; cases s1; exact k.here t (.tup e2 s2) rh
          · subst h2; cases s2; rw [List.append_nil] at t; exact k.here t (.tup e1 s1) rh
          · exact k _ _ _ _ t (.new hp) (.tup upd_same ((s1.append s2).mono (.new hp) rh)) (rh.new hp)
    | _ => exact (show False from t).elim
  | ref p => exact cat (by cases w2 <;> exact t)
  | fl p => exact cat (by cases w2 <;> exact t)
  | _ => exact (show False from t).elim
/-- ints -/
def intW (C : Int → Int → Prop) (g : Int → Int → W) : R2W := fun w1 w2 G R => match w1, w2 with
  | .int a, .int b => C a b ∧ R (g a b) G
  | _, _ => False
theorem opIW {f : Value → Value → Sem Value} {C : Int → Int → Prop} {g : Int → Int → V} {g' : Int → Int → W} (h : OpR X f (rI C g)) (hg : ∀ H i j, RV X.K H (g i j) (g' i j)) : OpW X f (intW C g') := by
  intro pins s σ H x y v u Q I rx ry h'
  obtain ⟨w1, w2, G, R, r1, r2, rh, t, k⟩ := h'
  cases w1 with
  | int a =>
    cases w2 with
    | int b => cases r1; cases r2; exact h pins s σ H _ _ v u Q I rx ry ⟨a, b, rfl, rfl, t.1, k.here t.2 (hg _ _ _) rh⟩
    | _ => exact (show False from t).elim
  | _ => exact (show False from t).elim
def int0W (g : Int → Int → W) : R2W := fun w1 w2 G R => match w1, w2 with
  | .int a, .int b => R (g a b) G
  | _, _ => False
theorem opI0W {f : Value → Value → Sem Value} {g : Int → Int → V} {g' : Int → Int → W} (h : OpR X f (rI0 g)) (hg : ∀ H i j, RV X.K H (g i j) (g' i j)) : OpW X f (int0W g') := by
  intro pins s σ H x y v u Q I rx ry h'
  obtain ⟨w1, w2, G, R, r1, r2, rh, t, k⟩ := h'
  cases w1 with
  | int a =>
    cases w2 with
    | int b => cases r1; cases r2; exact h pins s σ H _ _ v u Q I rx ry ⟨a, b, rfl, rfl, k.here t (hg _ _ _) rh⟩
    | _ => exact (show False from t).elim
  | _ => exact (show False from t).elim
abbrev subW : R2W := int0W fun a b => .int (a - b)
theorem op_subW : OpW X (binaryOp .Sub) subW := opI0W op_sub fun _ _ _ => .int _
/-- one factor below 2 ^ 64, or both together below a million bits -/
def MulC (a b : Int) : Prop := CMul a b ∨ CMulW a b
theorem op_mulAny : OpR X (binaryOp .Mult) (rI MulC fun i j => .int (i * j)) := by
  intro pins s σ H x y v u Q I rx ry h
  obtain ⟨i, j, e1, e2, c, q⟩ := h
  rcases c with c | c
  · exact op_mul pins s σ H x y v u Q I rx ry ⟨i, j, e1, e2, c, q⟩
  · exact op_mulW pins s σ H x y v u Q I rx ry ⟨i, j, e1, e2, c, q⟩
def mulW : R2W := fun w1 w2 G R => match w1, w2 with
  | .int a, .int b => MulC a b ∧ R (.int (a * b)) G
  | .ref p, .int n => match G p with
    | some (.lst xs) => -(2 ^ 63) ≤ n ∧ n < 2 ^ 63 ∧ xs.length * n.toNat ≤ sizeLine ∧ ∀ r, G r = none → R (.ref r) (updG G r (.lst (List.replicate n.toNat xs).flatten))
    | _ => False
  | _, _ => False
theorem RVs.rep {K : PySem.W.Frag} {H : Hp} {vs : List V} {ws : List W} (h : RVs K H vs ws) : ∀ n : Nat, RVs K H (List.replicate n vs).flatten (List.replicate n ws).flatten
  | 0 => .nil
  | n + 1 => by
    rw [List.replicate_succ, List.replicate_succ, List.flatten_cons, List.flatten_cons]
    exact h.append (RVs.rep h n)
theorem op_mulWW : OpW X (binaryOp .Mult) mulW := by
  intro pins s σ H x y v u Q I rx ry h'
  obtain ⟨w1, w2, G, R, r1, r2, rh, t, k⟩ := h'
  cases w1 with
  | int a =>
    cases w2 with
    | int b => cases r1; cases r2; exact op_mulAny pins s σ H _ _ v u Q I rx ry ⟨a, b, rfl, rfl, t.1, k.here t.2 (.int _) rh⟩
    | _ => exact (show False from t).elim
  | ref p =>
    cases w2 with
    | int b =>
      cases r1; cases r2
      unfold mulW at t
      dsimp only at t
      split at t
      · rename_i xs e1
        obtain ⟨vs, h1, s1⟩ := rh _ _ e1
        exact op_rep pins s σ H _ _ v u Q I rx ry ⟨_, _, _, rfl, rfl, h1, t.1, t.2.1, by rw [s1.length]; exact t.2.2.1, fun r hr =>
          k _ _ _ _ (t.2.2.2 r (rh.free hr)) (.newG hr) (.ref r) (rh.newG hr ⟨_, upd_same, (s1.rep _).mono (.new hr) rh⟩)⟩
      · exact t.elim
    | _ => exact (show False from t).elim
  | _ => exact (show False from t).elim
abbrev modW : R2W := intW (fun _ j => 0 < j) fun a b => .int (a % b)
theorem op_modW : OpW X (binaryOp .Mod) modW := opIW op_mod fun _ _ _ => .int _
def DivC (a b : Int) : Prop := CDiv a b ∨ CDivW a b
abbrev fdivW : R2W := intW DivC fun a b => .int (a / b)
theorem op_fdivWW : OpW X (binaryOp .FloorDiv) fdivW := by
  refine opIW (g := fun i j => .int (i / j)) (fun pins s σ H x y v u Q I rx ry h => ?_) fun _ _ _ => .int _
  obtain ⟨i, j, e1, e2, c, q⟩ := h
  rcases c with c | c
  · exact op_fdiv pins s σ H x y v u Q I rx ry ⟨i, j, e1, e2, c, q⟩
  · exact op_fdivW pins s σ H x y v u Q I rx ry ⟨i, j, e1, e2, c, q⟩
abbrev powW : R2W := intW CPow fun a b => .int (a ^ b.toNat)
theorem op_powW : OpW X (binaryOp .Pow) powW := opIW op_pow fun _ _ _ => .int _
def negW (w : W) (G : GH) (R : KW) : Prop := match w with
  | .int i => R (.int (-i)) G
  | _ => False
def tNegW (T : TW) : TW := fun S G R => T S G fun w G1 => negW w G1 R
theorem we_neg {a : Expr} {Ta : TW} {pos : Pos} (ha : WE X Z a Ta) : WE X Z (.UnaryOp .USub a pos) (tNegW Ta) := (pe_un un_neg ha).weak fun σ H Q h => by
  obtain ⟨S, G, R, sr, t, k⟩ := h
  refine Lf.go sr t fun w G1 v H1 t1 tk rv rh => ?_
  cases w with
  | int i => cases rv; exact ⟨i, rfl, k _ _ _ _ t1 tk (.int _) rh⟩
  | _ => exact (show False from t1).elim

/-! ### comparisons -/
abbrev gtW : R2W := int0W fun a b => .bl (decide (b < a))
theorem op_gtW : OpW X (compareOp .Gt) gtW := opI0W op_gt fun _ _ _ => .bl _
abbrev geW : R2W := int0W fun a b => .bl (decide (b ≤ a))
theorem op_geW : OpW X (compareOp .GtE) geW := opI0W op_ge fun _ _ _ => .bl _
abbrev leW : R2W := int0W fun a b => .bl (decide (a ≤ b))
theorem op_leW : OpW X (compareOp .LtE) leW := opI0W op_le fun _ _ _ => .bl _
def ltW : R2W := fun w1 w2 G R => match w1, w2 with
  | .int a, .int b => R (.bl (decide (a < b))) G
  | .tup xs, .tup ys => ∃ ns ms, xs = ns.map W.int ∧ ys = ms.map W.int ∧ R (.bl (HT.lexLt ns ms)) G
  | _, _ => False
theorem op_ltW (hu : X.A.units < cLine) : OpW X (compareOp .Lt) ltW := by
  intro pins s σ H x y v u Q I rx ry h'
  obtain ⟨w1, w2, G, R, r1, r2, rh, t, k⟩ := h'
  cases w1 with
  | int a =>
    cases w2 with
    | int b => cases r1; cases r2; exact op_lt pins s σ H _ _ v u Q I rx ry ⟨a, b, rfl, rfl, k.here t (.bl _) rh⟩
    | _ => exact (show False from t).elim
  | tup a =>
    cases w2 with
    | tup b =>
      obtain ⟨ns, ms, rfl, rfl, t2⟩ := (show ∃ ns ms, a = ns.map W.int ∧ b = ms.map W.int ∧ R (.bl (HT.lexLt ns ms)) G from t)
      cases r1 with
      | tup e1 s1 =>
        cases r2 with
        | tup e2 s2 =>
          have z1 := s1.ints
          have z2 := s2.ints
          subst z1 z2
          exact op_ltT hu pins s σ H _ _ v u Q I rx ry ⟨_, _, ns, ms, rfl, rfl, SqT.of e1, SqT.of e2, k.here t2 (.bl _) rh⟩
    | _ => exact (show False from t).elim
  | _ => exact (show False from t).elim
/-- == by data; ints and texts apart, for ease -/
def eqW (n : Bool) : R2W := fun w1 w2 G R => match w1, w2 with
  | .int a, .int b => R (.bl (n != decide (a = b))) G
  | .str a, .str b => R (.bl (n != decide (a = b))) G
  | _, _ => ∃ d1 d2, PD G w1 d1 ∧ PD G w2 d2 ∧ d1.depth ≤ 60 ∧ R (.bl (n != d1.eqv d2)) G
theorem eqW_pd {n : Bool} {w1 w2 : W} {G : GH} {R : KW} (h : eqW n w1 w2 G R) : ∃ d1 d2, PD G w1 d1 ∧ PD G w2 d2 ∧ d1.depth ≤ 60 ∧ R (.bl (n != d1.eqv d2)) G := by
  have ei : ∀ a b : Int, PyData.eqv (.int a) (.int b) = decide (a = b) := fun a b => by simp [PyData.eqv]; rfl
  have es : ∀ a b : Str, PyData.eqv (.str a) (.str b) = decide (a = b) := fun a b => by simp [PyData.eqv]; rfl
  cases w1 with
  | int a =>
    cases w2 with
    | int b => exact ⟨_, _, .int a, .int b, Nat.zero_le _, by rw [ei]; exact h⟩
    | _ => exact h
  | str a =>
    cases w2 with
    | str b => exact ⟨_, _, .str a, .str b, Nat.zero_le _, by rw [es]; exact h⟩
    | _ => exact h
  | _ => exact h
theorem op_eqW (hu : X.A.units + 64 < cLine) : OpW X (compareOp .Eq) (eqW false) := by
  intro pins s σ H x y v u Q I rx ry h'
  obtain ⟨w1, w2, G, R, r1, r2, rh, t, k⟩ := h'
  obtain ⟨d1, d2, p1, p2, z, t⟩ := eqW_pd t
  obtain ⟨as, q1⟩ := Dp.reads I d1 x v (p1.dp rh r1) rx
  obtain ⟨bs, q2⟩ := Dp.reads I d2 y u (p2.dp rh r2) ry
  exact SeqAt.eq_plain q1 q2 p1.plain p2.plain (by omega) ⟨.bl _, H, I, rfl, k.here (by simpa using t) (.bl _) rh⟩
theorem op_neW (hu : X.A.units + 64 < cLine) : OpW X (compareOp .NotEq) (eqW true) := by
  intro pins s σ H x y v u Q I rx ry h'
  obtain ⟨w1, w2, G, R, r1, r2, rh, t, k⟩ := h'
  obtain ⟨d1, d2, p1, p2, z, t⟩ := eqW_pd t
  obtain ⟨as, q1⟩ := Dp.reads I d1 x v (p1.dp rh r1) rx
  obtain ⟨bs, q2⟩ := Dp.reads I d2 y u (p2.dp rh r2) ry
  exact SeqAt.ne_plain q1 q2 p1.plain p2.plain (by omega) ⟨.bl _, H, I, rfl, k.here (by simpa using t) (.bl _) rh⟩
def W.isN : W → Bool
  | .non => true
  | _ => false
/-- is None, is True -/
def isW (n : Bool) : R2W := fun w1 w2 G R => match w2 with
  | .non => R (.bl (n != w1.isN)) G
  | .bl b => match w1 with
    | .bl a => R (.bl (n != decide (a = b))) G
    | _ => False
  | _ => False
theorem isN_of {K : PySem.W.Frag} {H : Hp} {v : V} {w : W} (r : RV K H v w) : decide (v = .non) = w.isN := by
  cases r <;> simp [W.isN]
theorem op_isW : OpW X (compareOp .Is) (isW false) := by
  intro pins s σ H x y v u Q I rx ry h'
  obtain ⟨w1, w2, G, R, r1, r2, rh, t, k⟩ := h'
  cases w2 with
  | non => cases r2; exact op_isN pins s σ H _ _ v u Q I rx ry ⟨rfl, k.here (w := .bl _) (by rw [isN_of r1]; simpa [isW] using t) (.bl _) rh⟩
  | bl b =>
    cases w1 with
    | bl a => cases r1; cases r2; exact op_isBl pins s σ H _ _ v u Q I rx ry ⟨a, b, rfl, rfl, k.here (w := .bl _) (by simpa [isW] using t) (.bl _) rh⟩
    | _ => exact (show False from t).elim
  | _ => exact (show False from t).elim
theorem op_isnotW : OpW X (compareOp .IsNot) (isW true) := by
  intro pins s σ H x y v u Q I rx ry h'
  obtain ⟨w1, w2, G, R, r1, r2, rh, t, k⟩ := h'
  cases w2 with
  | non => cases r2; exact op_notN pins s σ H _ _ v u Q I rx ry ⟨rfl, k.here (w := .bl _) (by rw [isN_of r1]; simpa [isW] using t) (.bl _) rh⟩
  | bl b =>
    cases w1 with
    | bl a => cases r1; cases r2; exact op_notBl pins s σ H _ _ v u Q I rx ry ⟨a, b, rfl, rfl, k.here (w := .bl _) (by simpa [isW] using t) (.bl _) rh⟩
    | _ => exact (show False from t).elim
  | _ => exact (show False from t).elim
end
end WL
set_option Elab.async false
set_option linter.all false
set_option maxRecDepth 100000
set_option maxHeartbeats 4000000
/-! WL, part d: items, membership, built-in calls, isinstance. -/
namespace WL
open PySem PySem.Spec PyProof.Rows L2

/-! ### dicts as lists of pairs -/
section
variable {κ : Type} [DecidableEq κ]
def valW (kws : List (κ × W)) (k : κ) : Option W := (kws.find? fun kv => decide (kv.1 = k)).map (·.2)
def putW (kws : List (κ × W)) (k : κ) (v : W) : List (κ × W) :=
  if (kws.any fun kv => decide (kv.1 = k)) = true then kws.map (fun kv => if kv.1 = k then (kv.1, v) else kv) else kws ++ [(k, v)]
def dropW (kws : List (κ × W)) (k : κ) : List (κ × W) := kws.filter fun kv => decide (kv.1 ≠ k)
variable {K : PySem.W.Frag} {H : Hp}
theorem RKV.val {k : κ} : ∀ {kvs : List (κ × V)} {kws : List (κ × W)}, RKV K H kvs kws → (valW kws k = none ∧ valV kvs k = none) ∨ ∃ v w, valV kvs k = some v ∧ valW kws k = some w ∧ RV K H v w
  | _, _, .nil => .inl ⟨rfl, rfl⟩
  | (a, v) :: kvs, (b, w) :: kws, .cons ⟨e, r⟩ t => by
    have e' : a = b := e
    subst e'
    by_cases h : a = k
    · exact .inr ⟨v, w, by simp [valV, List.find?_cons, h], by simp [valW, List.find?_cons, h], r⟩
    · rcases RKV.val (k := k) t with ⟨h1, h2⟩ | ⟨v', w', h1, h2, h3⟩
      · exact .inl ⟨by simpa [valW, List.find?_cons, h] using h1, by simpa [valV, List.find?_cons, h] using h2⟩
      · exact .inr ⟨v', w', by simpa [valV, List.find?_cons, h] using h1, by simpa [valW, List.find?_cons, h] using h2, h3⟩
theorem RKV.any {f : κ → Bool} : ∀ {kvs : List (κ × V)} {kws : List (κ × W)}, RKV K H kvs kws → (kvs.any fun kv => f kv.1) = kws.any fun kv => f kv.1
  | _, _, .nil => rfl
  | (a, v) :: kvs, (b, w) :: kws, .cons ⟨e, r⟩ t => by
    have e' : a = b := e
    subst e'
    simp only [List.any_cons, RKV.any t]
theorem RKV.keys : ∀ {kvs : List (κ × V)} {kws : List (κ × W)}, RKV K H kvs kws → kvs.map (·.1) = kws.map (·.1)
  | _, _, .nil => rfl
  | (a, v) :: kvs, (b, w) :: kws, .cons ⟨e, r⟩ t => by
    have e' : a = b := e
    subst e'
    simp only [List.map_cons, RKV.keys t]
theorem RKV.append : ∀ {kvs kv2 : List (κ × V)} {kws kw2 : List (κ × W)}, RKV K H kvs kws → RKV K H kv2 kw2 → RKV K H (kvs ++ kv2) (kws ++ kw2)
  | _, _, _, _, .nil, r => r
  | _, _, _, _, .cons q t, r => .cons q (RKV.append t r)
theorem RKV.mapPut {k : κ} {v : V} {w : W} (r : RV K H v w) : ∀ {kvs : List (κ × V)} {kws : List (κ × W)}, RKV K H kvs kws →
    RKV K H (kvs.map fun kv => if kv.1 = k then (kv.1, v) else kv) (kws.map fun kv => if kv.1 = k then (kv.1, w) else kv)
  | _, _, .nil => .nil
  | (a, x) :: kvs, (b, y) :: kws, .cons ⟨e, q⟩ t => by
    have e' : a = b := e
    subst e'
    refine .cons ?_ (RKV.mapPut r t)
    dsimp only
    by_cases h : a = k
    · rw [if_pos h, if_pos h]; exact ⟨rfl, r⟩
    · rw [if_neg h, if_neg h]; exact ⟨rfl, q⟩
theorem RKV.put {k : κ} {v : V} {w : W} {kvs : List (κ × V)} {kws : List (κ × W)} (t : RKV K H kvs kws) (r : RV K H v w) : RKV K H (putK kvs k v) (putW kws k w) := by
  have e := RKV.any (f := fun a => decide (a = k)) t
  unfold putK putW
  rw [e]
  split
  · exact RKV.mapPut r t
  · exact RKV.append t (.cons ⟨rfl, r⟩ .nil)
theorem RKV.filt {f : κ → Bool} : ∀ {kvs : List (κ × V)} {kws : List (κ × W)}, RKV K H kvs kws → RKV K H (kvs.filter fun kv => f kv.1) (kws.filter fun kv => f kv.1)
  | _, _, .nil => .nil
  | (a, x) :: kvs, (b, y) :: kws, .cons ⟨e, q⟩ t => by
    have e' : a = b := e
    subst e'
    rw [List.filter_cons, List.filter_cons]
    by_cases h : f a = true
    · rw [if_pos h, if_pos h]; exact .cons ⟨rfl, q⟩ (RKV.filt t)
    · rw [if_neg h, if_neg h]; exact RKV.filt t
theorem RKV.drop {k : κ} {kvs : List (κ × V)} {kws : List (κ × W)} (t : RKV K H kvs kws) : RKV K H (dropK kvs k) (dropW kws k) := RKV.filt (f := fun a => decide (a ≠ k)) t
end
/-- a value as a key -/
def W.key? : W → Option Key
  | .int i => some (.inl i)
  | .str x => some (.inr x)
  | _ => none
def keysOf : List W → Option (List Key)
  | [] => some []
  | w :: ws => match w.key?, keysOf ws with
    | some k, some ks => some (k :: ks)
    | _, _ => none
theorem key_of? {w : W} {k : Key} (h : w.key? = some k) : w = kW k := by
  cases w <;> simp [W.key?] at h <;> subst h <;> rfl
theorem keys_of? : ∀ {ws : List W} {ks : List Key}, keysOf ws = some ks → ws = ks.map kW
  | [], ks, h => by simp [keysOf] at h; subst h; rfl
  | w :: ws, ks, h => by
    unfold keysOf at h
    split at h
    · rename_i k r e1 e2
      cases h
      rw [key_of? e1, keys_of? e2]; rfl
    · cases h
theorem keysOf_ints : ∀ ns : List Int, keysOf (ns.map W.int) = some (ns.map Sum.inl)
  | [] => rfl
  | n :: ns => by
    rw [List.map_cons]
    unfold keysOf
    rw [keysOf_ints ns]
    rfl
theorem RV.key {K : PySem.W.Frag} {H : Hp} {v : V} {k : Key} (r : RV K H v (kW k)) : v = kV k := by
  cases k <;> cases r <;> rfl
theorem RVs.keys {K : PySem.W.Frag} {H : Hp} : ∀ {ks : List Key} {vs : List V}, RVs K H vs (ks.map kW) → vs = ks.map kV
  | [], _, .nil => rfl
  | k :: ks, _, .cons r t => by rw [RV.key r, RVs.keys t]; rfl
/-- what a dict gives: the answer, and how it lies in H -/
def dgetW (p : Addr) (w : W) (G : GH) : Option (Option W) := match G p with
  | some (.dK kws) => match w.key? with
    | some k => some (valW kws k)
    | none => none
  | some (.dT kws) => match w with
    | .tup ks => match keysOf ks with
      | some kk => some (valW kws kk)
      | none => none
    | _ => none
  | _ => none
theorem dget_of {K : PySem.W.Frag} {H : Hp} {G : GH} {p : Addr} {w : W} {v : V} {o : Option W} (h : dgetW p w G = some o) (rv : RV K H v w) (rh : RH K H G) :
    ∃ ov, DGet H p v ov ∧ ((o = none ∧ ov = none) ∨ ∃ x y, o = some y ∧ ov = some x ∧ RV K H x y) := by
  unfold dgetW at h
  split at h
  · rename_i kws e
    split at h
    · rename_i k ek
      cases h
      obtain ⟨kvs, h1, r⟩ := rh _ _ e
      have e1 := key_of? ek
      subst e1
      have e2 := RV.key rv
      subst e2
      refine ⟨_, DGet.k h1, ?_⟩
      rcases RKV.val (k := k) r with ⟨a, b⟩ | ⟨x, y, a, b, c⟩
      · exact .inl ⟨a, b⟩
      · exact .inr ⟨x, y, b, a, c⟩
    · cases h
  · rename_i kws e
    split at h
    · rename_i ks
      split at h
      · rename_i kk ek
        cases h
        obtain ⟨kvs, h1, r⟩ := rh _ _ e
        cases rv with
        | tup q rs =>
          have e1 := keys_of? ek
          subst e1
          have e2 := RVs.keys rs
          subst e2
          refine ⟨_, DGet.t h1 q, ?_⟩
          rcases RKV.val (k := kk) r with ⟨a, b⟩ | ⟨x, y, a, b, c⟩
          · exact .inl ⟨a, b⟩
          · exact .inr ⟨x, y, b, a, c⟩
      · cases h
    · cases h
  · cases h

/-- what a dict that stays holds -/
def fgetW (d w : W) : Option (Option W) := match d with
  | .fdK kws => match w.key? with
    | some k => some (valW kws k)
    | none => none
  | .fdT kws => match w with
    | .tup ks => match keysOf ks with
      | some kk => some (valW kws kk)
      | none => none
    | _ => none
  | _ => none
theorem fget_of {K : PySem.W.Frag} {H : Hp} {d w : W} {u v : V} {o : Option W} (h : fgetW d w = some o) (rd : RV K H u d) (rv : RV K H v w) :
    ∃ p ov, u = .ref p ∧ DGet H p v ov ∧ ((o = none ∧ ov = none) ∨ ∃ x y, o = some y ∧ ov = some x ∧ RV K H x y) := by
  unfold fgetW at h
  split at h
  · rename_i kws
    split at h
    · rename_i k ek
      cases h
      cases rd with
      | @fdK a ob kvs _ h1 e r =>
        have r := RVs.rkv e r
        have e1 := key_of? ek
        subst e1
        have e2 := RV.key rv
        subst e2
        refine ⟨a, _, rfl, .inl ⟨kvs, k, .inr ⟨ob, h1⟩, rfl, rfl⟩, ?_⟩
        rcases RKV.val (k := k) r with ⟨a, b⟩ | ⟨x, y, a, b, c⟩
        · exact .inl ⟨a, b⟩
        · exact .inr ⟨x, y, b, a, c⟩
    · cases h
  · rename_i kws
    split at h
    · rename_i ks
      split at h
      · rename_i kk ek
        cases h
        cases rd with
        | @fdT a ob kvs _ h1 e r =>
          have r := RVs.rkv e r
          cases rv with
          | @tup b _ _ q rs =>
            have e1 := keys_of? ek
            subst e1
            have e2 := RVs.keys rs
            subst e2
            refine ⟨a, _, rfl, .inr ⟨kvs, kk, b, .inr ⟨ob, h1⟩, rfl, q, rfl⟩, ?_⟩
            rcases RKV.val (k := kk) r with ⟨a, b⟩ | ⟨x, y, a, b, c⟩
            · exact .inl ⟨a, b⟩
            · exact .inr ⟨x, y, b, a, c⟩
      · cases h
    · cases h
  · cases h

section
variable {X : Cx} {Z : GH × Hp} {a b e o : Expr} {Ta Tb : TW} {pos : Pos}
/-! ### items -/
def rIxD : R2 := fun x y H Q => ∃ a v, x = .ref a ∧ DGet H a y (some v) ∧ Q v H
theorem ix_dict (hu : X.A.units + 1 < cLine) : IxR X rIxD := by
  intro value slice pins s σ H x y v u Q I rx ry h hs
  obtain ⟨p, z, rfl, g, q⟩ := h
  cases rx
  exact tail_any (dict_typeIs I g) PySem.F.slot_dict_getitem.lookup (d_getItem hu I g ry fun w' s' I' rw' => ⟨z, H, I', rw', q⟩) hs
def ixW : R2W := fun w1 w2 G R => match w1, w2 with
  | .tup xs, .int i => ∃ w, atI xs i = some w ∧ R w G
  | .kt xs, .int i => ∃ w, atI xs i = some w ∧ R w G
  | .fl xs, .int i => ∃ w, atI xs i = some w ∧ R w G
  | .str z, .int i => z.length ≤ sizeLine ∧ ∃ c, atI z.cps.toList i = some c ∧ R (.str ⟨#[c]⟩) G
  | .ref p, k => match G p with
    | some (.lst xs) => match k with
      | .int i => ∃ w, atI xs i = some w ∧ R w G
      | _ => False
    | _ => ∃ w, dgetW p k G = some (some w) ∧ R w G
  | .fdK kws, k => ∃ w, fgetW (.fdK kws) k = some (some w) ∧ R w G
  | .fdT kws, k => ∃ w, fgetW (.fdT kws) k = some (some w) ∧ R w G
  | _, _ => False
theorem RVs.atI {K : PySem.W.Frag} {H : Hp} {vs : List V} {ws : List W} {i : Int} {w : W} (r : RVs K H vs ws) (e : L2.atI ws i = some w) : ∃ v, L2.atI vs i = some v ∧ RV K H v w := by
  unfold L2.atI at e ⊢
  rw [r.length]
  cases h : ixN ws.length i with
  | none => rw [h] at e; cases e
  | some j =>
    rw [h] at e
    exact r.get e
theorem ix_W (hu : X.A.units + 1 < cLine) : IxR X (l2 X.K ixW) := by
  intro value slice pins s σ H x y v u Q I rx ry h' hs
  obtain ⟨w1, w2, G, R, r1, r2, rh, t, k⟩ := h'
  cases w1 with
  | tup xs =>
    cases w2 with
    | int i =>
      cases r2
      obtain ⟨w, e, t⟩ := (show ∃ w, atI xs i = some w ∧ R w G from t)
      cases r1 with
      | tup q rs =>
        obtain ⟨z, e2, rz⟩ := rs.atI e
        exact ix_tup value slice pins s σ H _ _ v u Q I rx ry ⟨_, _, i, z, rfl, rfl, SqT.of q, e2, k.here t rz rh⟩ hs
    | _ => exact (show False from t).elim
  | kt xs =>
    cases w2 with
    | int i =>
      cases r2
      obtain ⟨w, e, t⟩ := (show ∃ w, atI xs i = some w ∧ R w G from t)
      cases r1 with
      | kt q rs =>
        obtain ⟨z, e2, rz⟩ := rs.atI e
        exact ix_tup value slice pins s σ H _ _ v u Q I rx ry ⟨_, _, i, z, rfl, rfl, q.seq, e2, k.here t rz rh⟩ hs
    | _ => exact (show False from t).elim
  | fl xs =>
    cases w2 with
    | int i =>
      cases r2
      obtain ⟨w, e, t⟩ := (show ∃ w, atI xs i = some w ∧ R w G from t)
      cases r1 with
      | fl q rs =>
        obtain ⟨z, e2, rz⟩ := rs.atI e
        exact ix_list value slice pins s σ H _ _ v u Q I rx ry ⟨_, _, i, z, rfl, rfl, q.seq, e2, k.here t rz rh⟩ hs
    | _ => exact (show False from t).elim
  | str z =>
    cases w2 with
    | int i =>
      cases r1; cases r2
      obtain ⟨hz, c, e, t⟩ := (show z.length ≤ sizeLine ∧ ∃ c, atI z.cps.toList i = some c ∧ R (.str ⟨#[c]⟩) G from t)
      exact ix_str value slice pins s σ H _ _ v u Q I rx ry ⟨z, i, c, rfl, rfl, hz, e, k.here t (.str _) rh⟩ hs
    | _ => exact (show False from t).elim
  | ref p =>
    cases r1
    have dict : ∀ w, dgetW p w2 G = some (some w) → R w G → wpAny (model X.prog X.w) X.A (subscriptTail value slice v u) (EP X pins σ Q) X.xe s := fun w e t => by
      obtain ⟨ov, g, z⟩ := dget_of e r2 rh
      rcases z with ⟨z, _⟩ | ⟨x', y', z1, z2, rz⟩
      · cases z
      · cases z1
        subst z2
        exact ix_dict hu value slice pins s σ H _ _ v u Q I rx ry ⟨p, x', rfl, g, k.here t rz rh⟩ hs
    unfold ixW at t
    dsimp only at t
    split at t
    · rename_i xs e1
      cases w2 with
      | int i =>
        cases r2
        obtain ⟨w, e, t⟩ := (show ∃ w, atI xs i = some w ∧ R w G from t)
        obtain ⟨vs, h1, rs⟩ := rh _ _ e1
        obtain ⟨z, e2, rz⟩ := rs.atI e
        exact ix_list value slice pins s σ H _ _ v u Q I rx ry ⟨_, _, i, z, rfl, rfl, SqL.of h1, e2, k.here t rz rh⟩ hs
      | _ => exact (show False from t).elim
    · obtain ⟨w, e, t⟩ := t
      exact dict w e t
  | fdK kws =>
    obtain ⟨w, e, t⟩ := (show ∃ w, fgetW (.fdK kws) w2 = some (some w) ∧ R w G from by cases w2 <;> exact t)
    obtain ⟨p, ov, rfl, g, z⟩ := fget_of e r1 r2
    rcases z with ⟨z, _⟩ | ⟨x', y', z1, z2, rz⟩
    · cases z
    · cases z1
      subst z2
      exact ix_dict hu value slice pins s σ H _ _ v u Q I rx ry ⟨p, x', rfl, g, k.here t rz rh⟩ hs
  | fdT kws =>
    obtain ⟨w, e, t⟩ := (show ∃ w, fgetW (.fdT kws) w2 = some (some w) ∧ R w G from by cases w2 <;> exact t)
    obtain ⟨p, ov, rfl, g, z⟩ := fget_of e r1 r2
    rcases z with ⟨z, _⟩ | ⟨x', y', z1, z2, rz⟩
    · cases z
    · cases z1
      subst z2
      exact ix_dict hu value slice pins s σ H _ _ v u Q I rx ry ⟨p, x', rfl, g, k.here t rz rh⟩ hs
  | _ => exact (show False from t).elim
theorem we_ix (hu : X.A.units + 1 < cLine) (ha : WE X Z a Ta) (hb : WE X Z b Tb) (hs : PlainIx b := by intro _ _; rfl) : WE X Z (.Subscript a b pos) (tOpW ixW Ta Tb) := (pe_ix (ix_W hu) ha hb hs).weak lf2

/-! ### in -/
def inW (n : Bool) : R2W := fun w1 w2 G R => match w2 with
  | .tup ws => ∃ d ds, PD G w1 d ∧ PDs G ws ds ∧ d.depth ≤ 60 ∧ R (.bl (n != ds.any fun y => PyData.eqv y d)) G
  | .kt ws => ∃ d ds, PD G w1 d ∧ PDs G ws ds ∧ d.depth ≤ 60 ∧ R (.bl (n != ds.any fun y => PyData.eqv y d)) G
  | .fl ws => ∃ d ds, PD G w1 d ∧ PDs G ws ds ∧ d.depth ≤ 60 ∧ R (.bl (n != ds.any fun y => PyData.eqv y d)) G
  | .str z => match w1 with
    | .str x => (∃ c, x = ⟨#[c]⟩ ∧ R (.bl (n != decide (c ∈ z.cps.toList))) G) ∨ R (.bl (n != !(Builtin.Str.occurrences z x 0 z.length 1).isEmpty)) G
    | _ => False
  | .ref p => match G p with
    | some (.lst ws) => ∃ d ds, PD G w1 d ∧ PDs G ws ds ∧ d.depth ≤ 60 ∧ R (.bl (n != ds.any fun y => PyData.eqv y d)) G
    | _ => ∃ o, dgetW p w1 G = some o ∧ R (.bl (n != o.isSome)) G
  | .fdK kws => ∃ o, fgetW (.fdK kws) w1 = some o ∧ R (.bl (n != o.isSome)) G
  | .fdT kws => ∃ o, fgetW (.fdT kws) w1 = some o ∧ R (.bl (n != o.isSome)) G
  | _ => False
theorem op_inW (hu : X.A.units + 65 < cLine) : OpW X (compareOp .In) (inW false) := by
  intro pins s σ H x y v u Q I rx ry h'
  obtain ⟨w1, w2, G, R, r1, r2, rh, t, k⟩ := h'
  have fin : ∀ {c : Bool}, R (.bl (false != c)) G → EP X pins σ Q (.bool c) s := fun {c} t => ⟨.bl c, H, I, rfl, k.here (w := .bl c) (by simpa using t) (.bl _) rh⟩
  have seqT : ∀ {ws : List W} {d : PyData} {ds : List PyData}, PD G w1 d → Dp X.K H y (.tuple ds) → PDs G ws ds → d.depth ≤ 60 → R (.bl (false != ds.any fun y => PyData.eqv y d)) G → wpAny (model X.prog X.w) X.A (compareOp .In v u) (EP X pins σ Q) X.xe s := by
    intro ws d ds p1 p2 p3 z t
    obtain ⟨as, q1⟩ := Dp.reads I d x v (p1.dp rh r1) rx
    obtain ⟨bs, q2⟩ := Dp.reads I _ y u p2 ry
    exact SeqAt.in_tuple_data q2 q1 p3.plain p1.plain (by omega) (fin t)
  have seqL : ∀ {ws : List W} {d : PyData} {ds : List PyData}, PD G w1 d → Dp X.K H y (.list ds) → PDs G ws ds → d.depth ≤ 60 → R (.bl (false != ds.any fun y => PyData.eqv y d)) G → wpAny (model X.prog X.w) X.A (compareOp .In v u) (EP X pins σ Q) X.xe s := by
    intro ws d ds p1 p2 p3 z t
    obtain ⟨as, q1⟩ := Dp.reads I d x v (p1.dp rh r1) rx
    obtain ⟨bs, q2⟩ := Dp.reads I _ y u p2 ry
    exact SeqAt.in_list_data q2 q1 p3.plain p1.plain (by omega) (fin t)
  cases w2 with
  | tup ws => obtain ⟨d, ds, p1, p2, z, t⟩ := t; exact seqT p1 (PD.dp rh r2 (.tup p2)) p2 z t
  | kt ws => obtain ⟨d, ds, p1, p2, z, t⟩ := t; exact seqT p1 (PD.dp rh r2 (.kt p2)) p2 z t
  | fl ws => obtain ⟨d, ds, p1, p2, z, t⟩ := t; exact seqL p1 (PD.dp rh r2 (.fl p2)) p2 z t
  | str z =>
    cases w1 with
    | str x =>
      cases r1; cases r2
      rcases t with ⟨c, rfl, t⟩ | t
      · exact op_in_sign pins s σ H _ _ v u Q I rx ry ⟨c, z, rfl, rfl, k.here (w := .bl _) (by simpa using t) (.bl _) rh⟩
      · exact op_in_str pins s σ H _ _ v u Q I rx ry ⟨x, z, rfl, rfl, k.here (w := .bl _) (by simpa using t) (.bl _) rh⟩
    | _ => exact (show False from t).elim
  | ref p =>
    unfold inW at t
    dsimp only at t
    split at t
    · rename_i ws e
      obtain ⟨d, ds, p1, p2, z, t⟩ := t
      exact seqL p1 (PD.dp rh r2 (.lst e p2)) p2 z t
    · obtain ⟨o, e, t⟩ := t
      cases r2
      cases (show u = Value.ref p from ry)
      obtain ⟨ov, g, z⟩ := dget_of e r1 rh
      have eo : o.isSome = ov.isSome := by
        rcases z with ⟨rfl, rfl⟩ | ⟨_, _, rfl, rfl, _⟩ <;> rfl
      exact d_in (by omega) I g rx fun s3 I3 => ⟨.bl ov.isSome, H, I3, rfl, k.here (w := .bl _) (by rw [← eo]; simpa using t) (.bl _) rh⟩
  | fdK kws =>
    obtain ⟨o, e, t⟩ := (show ∃ o, fgetW (.fdK kws) w1 = some o ∧ R (.bl (false != o.isSome)) G from t)
    obtain ⟨p, ov, rfl, g, z⟩ := fget_of e r2 r1
    cases (show u = Value.ref p from ry)
    have eo : o.isSome = ov.isSome := by
      rcases z with ⟨rfl, rfl⟩ | ⟨_, _, rfl, rfl, _⟩ <;> rfl
    exact d_in (by omega) I g rx fun s3 I3 => ⟨.bl ov.isSome, H, I3, rfl, k.here (w := .bl _) (by rw [← eo]; simpa using t) (.bl _) rh⟩
  | fdT kws =>
    obtain ⟨o, e, t⟩ := (show ∃ o, fgetW (.fdT kws) w1 = some o ∧ R (.bl (false != o.isSome)) G from t)
    obtain ⟨p, ov, rfl, g, z⟩ := fget_of e r2 r1
    cases (show u = Value.ref p from ry)
    have eo : o.isSome = ov.isSome := by
      rcases z with ⟨rfl, rfl⟩ | ⟨_, _, rfl, rfl, _⟩ <;> rfl
    exact d_in (by omega) I g rx fun s3 I3 => ⟨.bl ov.isSome, H, I3, rfl, k.here (w := .bl _) (by rw [← eo]; simpa using t) (.bl _) rh⟩
  | _ => exact (show False from t).elim
theorem op_notinW (hu : X.A.units + 65 < cLine) : OpW X (compareOp .NotIn) (inW true) := by
  intro pins s σ H x y v u Q I rx ry h'
  obtain ⟨w1, w2, G, R, r1, r2, rh, t, k⟩ := h'
  have fin : ∀ {c : Bool}, R (.bl (true != c)) G → EP X pins σ Q (.bool (!c)) s := fun {c} t => ⟨.bl (!c), H, I, rfl, k.here (w := .bl (!c)) (by simpa using t) (.bl _) rh⟩
  have seqT : ∀ {ws : List W} {d : PyData} {ds : List PyData}, PD G w1 d → Dp X.K H y (.tuple ds) → PDs G ws ds → d.depth ≤ 60 → R (.bl (true != ds.any fun y => PyData.eqv y d)) G → wpAny (model X.prog X.w) X.A (compareOp .NotIn v u) (EP X pins σ Q) X.xe s := by
    intro ws d ds p1 p2 p3 z t
    obtain ⟨as, q1⟩ := Dp.reads I d x v (p1.dp rh r1) rx
    obtain ⟨bs, q2⟩ := Dp.reads I _ y u p2 ry
    exact SeqAt.notIn_tuple_data q2 q1 p3.plain p1.plain (by omega) (fin t)
  have seqL : ∀ {ws : List W} {d : PyData} {ds : List PyData}, PD G w1 d → Dp X.K H y (.list ds) → PDs G ws ds → d.depth ≤ 60 → R (.bl (true != ds.any fun y => PyData.eqv y d)) G → wpAny (model X.prog X.w) X.A (compareOp .NotIn v u) (EP X pins σ Q) X.xe s := by
    intro ws d ds p1 p2 p3 z t
    obtain ⟨as, q1⟩ := Dp.reads I d x v (p1.dp rh r1) rx
    obtain ⟨bs, q2⟩ := Dp.reads I _ y u p2 ry
    exact SeqAt.notIn_list_data q2 q1 p3.plain p1.plain (by omega) (fin t)
  cases w2 with
  | tup ws => obtain ⟨d, ds, p1, p2, z, t⟩ := t; exact seqT p1 (PD.dp rh r2 (.tup p2)) p2 z t
  | kt ws => obtain ⟨d, ds, p1, p2, z, t⟩ := t; exact seqT p1 (PD.dp rh r2 (.kt p2)) p2 z t
  | fl ws => obtain ⟨d, ds, p1, p2, z, t⟩ := t; exact seqL p1 (PD.dp rh r2 (.fl p2)) p2 z t
  | str z =>
    cases w1 with
    | str x =>
      cases r1; cases r2
      rcases t with ⟨c, rfl, t⟩ | t
      · exact op_notIn_sign pins s σ H _ _ v u Q I rx ry ⟨c, z, rfl, rfl, k.here (w := .bl _) (by simpa using t) (.bl _) rh⟩
      · exact op_notin_str pins s σ H _ _ v u Q I rx ry ⟨x, z, rfl, rfl, k.here (w := .bl _) (by simpa using t) (.bl _) rh⟩
    | _ => exact (show False from t).elim
  | ref p =>
    unfold inW at t
    dsimp only at t
    split at t
    · rename_i ws e
      obtain ⟨d, ds, p1, p2, z, t⟩ := t
      exact seqL p1 (PD.dp rh r2 (.lst e p2)) p2 z t
    · obtain ⟨o, e, t⟩ := t
      cases r2
      cases (show u = Value.ref p from ry)
      obtain ⟨ov, g, z⟩ := dget_of e r1 rh
      have eo : o.isSome = ov.isSome := by
        rcases z with ⟨rfl, rfl⟩ | ⟨_, _, rfl, rfl, _⟩ <;> rfl
      exact d_notIn (by omega) I g rx fun s3 I3 => ⟨.bl (!ov.isSome), H, I3, rfl, k.here (w := .bl _) (by rw [← eo]; simpa using t) (.bl _) rh⟩
  | fdK kws =>
    obtain ⟨o, e, t⟩ := (show ∃ o, fgetW (.fdK kws) w1 = some o ∧ R (.bl (true != o.isSome)) G from t)
    obtain ⟨p, ov, rfl, g, z⟩ := fget_of e r2 r1
    cases (show u = Value.ref p from ry)
    have eo : o.isSome = ov.isSome := by
      rcases z with ⟨rfl, rfl⟩ | ⟨_, _, rfl, rfl, _⟩ <;> rfl
    exact d_notIn (by omega) I g rx fun s3 I3 => ⟨.bl (!ov.isSome), H, I3, rfl, k.here (w := .bl _) (by rw [← eo]; simpa using t) (.bl _) rh⟩
  | fdT kws =>
    obtain ⟨o, e, t⟩ := (show ∃ o, fgetW (.fdT kws) w1 = some o ∧ R (.bl (true != o.isSome)) G from t)
    obtain ⟨p, ov, rfl, g, z⟩ := fget_of e r2 r1
    cases (show u = Value.ref p from ry)
    have eo : o.isSome = ov.isSome := by
      rcases z with ⟨rfl, rfl⟩ | ⟨_, _, rfl, rfl, _⟩ <;> rfl
    exact d_notIn (by omega) I g rx fun s3 I3 => ⟨.bl (!ov.isSome), H, I3, rfl, k.here (w := .bl _) (by rw [← eo]; simpa using t) (.bl _) rh⟩
  | _ => exact (show False from t).elim

/-! ### calls of built-ins -/
abbrev CW := List W → GH → KW → Prop
def l1 (K : PySem.W.Frag) (r : CW) : List V → Hp → VK → Prop := fun vs H Q => ∃ ws G R, RVs K H vs ws ∧ RH K H G ∧ r ws G R ∧ LK K G H R Q
def CallW (X : Cx) (f : Value) (r : CW) : Prop := CallR X f (l1 X.K r)
def tCW (r : CW) (T : TWA) : TW := fun S G R => T S G fun ws G1 => r ws G1 R
variable {x : Str} {p : Pos} {bid T : String} {r : CW} {es : List Expr} {Tr : TWA}
theorem lfC {K : PySem.W.Frag} (σ : L2.St) (H : Hp) (Q : VK) (h : Lf K Z (tCW r Tr) σ H Q) : tCB (l1 K r) (LfA K Z Tr) σ H Q := by
  obtain ⟨S, G, R, sr, t, k⟩ := h
  refine LfA.go sr t fun ws G1 vs H1 t1 tk rs rh => ?_
  exact ⟨ws, G1, R, rs, rh, t1, fun w G' v H' q tk2 rv rh2 => k w G' v H' q (tk.trans tk2) rv rh2⟩
theorem we_cb (hc : CallW X (.builtin bid) r) (hg : Gl X x) (hm : X.mg x = none) (hv : bootBuiltins x = some (.builtin bid)) (ha : WA X Z (e :: es) Tr) (hn : x ≠ "__name__" := by decide) (hdb : (x == ("__debug__" : Str)) = false := by decide)
    (he : starEach (e :: es) X.env = (false, eval e X.env) :: starEach es X.env := by rfl) (hpl : (backTo pos (starEach es X.env)).any (·.1) = false := by rfl) : WE X Z (.Call (.Name x p) (e :: es) [] pos) (tCW r Tr) :=
  (pe_callB hc hg hm hv ha hn hdb he hpl).weak lfC
theorem we_ct (hc : CallW X (.type T) r) (hg : Gl X x) (hm : X.mg x = none) (hv : bootBuiltins x = some (.type T)) (ha : WA X Z (e :: es) Tr) (hn : x ≠ "__name__" := by decide) (hdb : (x == ("__debug__" : Str)) = false := by decide)
    (he : starEach (e :: es) X.env = (false, eval e X.env) :: starEach es X.env := by rfl) (hpl : (backTo pos (starEach es X.env)).any (·.1) = false := by rfl) : WE X Z (.Call (.Name x p) (e :: es) [] pos) (tCW r Tr) :=
  (pe_callTy hc hg hm hv ha hn hdb he hpl).weak lfC
theorem RVs.one {K : PySem.W.Frag} {H : Hp} {vs : List V} {w : W} (r : RVs K H vs [w]) : ∃ v, vs = [v] ∧ RV K H v w := by
  cases r with
  | cons a b => cases b; exact ⟨_, rfl, a⟩
theorem RVs.two {K : PySem.W.Frag} {H : Hp} {vs : List V} {w y : W} (r : RVs K H vs [w, y]) : ∃ v u, vs = [v, u] ∧ RV K H v w ∧ RV K H u y := by
  cases r with
  | cons a b =>
    cases b with
    | cons c d => cases d; exact ⟨_, _, rfl, a, c⟩
/-- len -/
def lenW : CW := fun ws G R => match ws with
  | [.tup xs] => R (.int xs.length) G
  | [.kt xs] => R (.int xs.length) G
  | [.fl xs] => R (.int xs.length) G
  | [.str x] => x.length ≤ sizeLine ∧ R (.int x.length) G
  | [.ref p] => match G p with
    | some (.lst xs) => R (.int xs.length) G
    | some (.dK kws) => R (.int kws.length) G
    | _ => False
  | _ => False
theorem call_lenW : CallW X (.builtin "len") lenW := by
  intro pins s σ H xs us Q I r h
  obtain ⟨ws, G, R, rs, rh, t, k⟩ := h
  match ws, t, rs with
  | [.tup ys], t, rs =>
    obtain ⟨v, rfl, rv⟩ := rs.one
    cases rv with
    | tup q rs => exact call_len pins s σ H _ us Q I r ⟨_, _, rfl, .inr ⟨_, SqT.of q, rfl⟩, by rw [rs.length]; exact k.here t (.int _) rh⟩
  | [.kt ys], t, rs =>
    obtain ⟨v, rfl, rv⟩ := rs.one
    cases rv with
    | kt q rs => exact call_len pins s σ H _ us Q I r ⟨_, _, rfl, .inr ⟨_, q.seq, rfl⟩, by rw [rs.length]; exact k.here t (.int _) rh⟩
  | [.fl ys], t, rs =>
    obtain ⟨v, rfl, rv⟩ := rs.one
    cases rv with
    | fl q rs => exact call_len pins s σ H _ us Q I r ⟨_, _, rfl, .inl ⟨_, q.seq, rfl⟩, by rw [rs.length]; exact k.here t (.int _) rh⟩
  | [.str x], t, rs =>
    obtain ⟨v, rfl, rv⟩ := rs.one
    cases rv
    exact call_len pins s σ H _ us Q I r ⟨_, _, rfl, ⟨t.1, rfl⟩, k.here t.2 (.int _) rh⟩
  | [.ref p], t, rs =>
    obtain ⟨v, rfl, rv⟩ := rs.one
    cases rv
    unfold lenW at t
    dsimp only at t
    split at t
    · rename_i ys e
      obtain ⟨vs, h1, rs⟩ := rh _ _ e
      exact call_len pins s σ H _ us Q I r ⟨_, _, rfl, .inl ⟨_, SqL.of h1, rfl⟩, by rw [rs.length]; exact k.here t (.int _) rh⟩
    · rename_i ys e
      obtain ⟨vs, h1, rs⟩ := rh _ _ e
      exact call_lenD pins s σ H _ us Q I r ⟨_, _, rfl, h1, by rw [RKV.length rs]; exact k.here t (.int _) rh⟩
    · exact t.elim
def absW : CW := fun ws G R => match ws with
  | [.int i] => R (.int (if i < 0 then -i else i)) G
  | _ => False
theorem call_absW : CallW X (.builtin "abs") absW := by
  intro pins s σ H xs us Q I r h
  obtain ⟨ws, G, R, rs, rh, t, k⟩ := h
  match ws, t, rs with
  | [.int i], t, rs =>
    obtain ⟨v, rfl, rv⟩ := rs.one
    cases rv
    exact call_abs pins s σ H _ us Q I r ⟨_, rfl, k.here t (.int _) rh⟩
/-- max, min of two ints -/
def mm2W (f : Int → Int → Int) : CW := fun ws G R => match ws with
  | [.int i, .int j] => R (.int (f i j)) G
  | _ => False
theorem call_max2W (hc : X.calm = true) : CallW X (.builtin "max") (mm2W fun i j => if j > i then j else i) := by
  intro pins s σ H xs us Q I r h
  obtain ⟨ws, G, R, rs, rh, t, k⟩ := h
  match ws, t, rs with
  | [.int i, .int j], t, rs =>
    obtain ⟨v, u, rfl, rv, ru⟩ := rs.two
    cases rv; cases ru
    exact call_max2 hc pins s σ H _ us Q I r ⟨_, _, rfl, k.here t (.int _) rh⟩
theorem call_min2W (hc : X.calm = true) : CallW X (.builtin "min") (mm2W fun i j => if j < i then j else i) := by
  intro pins s σ H xs us Q I r h
  obtain ⟨ws, G, R, rs, rh, t, k⟩ := h
  match ws, t, rs with
  | [.int i, .int j], t, rs =>
    obtain ⟨v, u, rfl, rv, ru⟩ := rs.two
    cases rv; cases ru
    exact call_min2 hc pins s σ H _ us Q I r ⟨_, _, rfl, k.here t (.int _) rh⟩
/-- int of an int, a bool, a text; str of an int, a text -/
def toIntW : CW := fun ws G R => match ws with
  | [.int i] => R (.int i) G
  | [.bl b] => R (.int (if b then 1 else 0)) G
  | [.str x] => ∃ n, PySem.intText? x = some n ∧ x.length ≤ 640 ∧ R (.int n) G
  | _ => False
theorem call_intW : CallW X (.type "int") toIntW := by
  intro pins s σ H xs us Q I r h
  obtain ⟨ws, G, R, rs, rh, t, k⟩ := h
  match ws, t, rs with
  | [.int i], t, rs =>
    obtain ⟨v, rfl, rv⟩ := rs.one
    cases rv
    exact call_int1 pins s σ H _ us Q I r (.inl ⟨_, rfl, k.here t (.int _) rh⟩)
  | [.bl b], t, rs =>
    obtain ⟨v, rfl, rv⟩ := rs.one
    cases rv
    exact call_int1 pins s σ H _ us Q I r (.inr ⟨_, rfl, k.here t (.int _) rh⟩)
  | [.str x], t, rs =>
    obtain ⟨v, rfl, rv⟩ := rs.one
    cases rv
    obtain ⟨n, h1, h2, t⟩ := t
    exact call_int_str pins s σ H _ us Q I r ⟨_, n, rfl, h1, h2, k.here t (.int _) rh⟩
def toStrW : CW := fun ws G R => match ws with
  | [.int i] => i.natAbs.log2 < 1920 ∧ R (.str (toString i)) G
  | [.str x] => R (.str x) G
  | _ => False
theorem call_strW : CallW X (.type "str") toStrW := by
  intro pins s σ H xs us Q I r h
  obtain ⟨ws, G, R, rs, rh, t, k⟩ := h
  match ws, t, rs with
  | [.int i], t, rs =>
    obtain ⟨v, rfl, rv⟩ := rs.one
    cases rv
    exact call_str_int pins s σ H _ us Q I r ⟨_, rfl, t.1, k.here t.2 (.str _) rh⟩
  | [.str x], t, rs =>
    obtain ⟨v, rfl, rv⟩ := rs.one
    cases rv
    exact SkE.call_str_str pins s σ H _ us Q I r ⟨_, rfl, k.here t (.str _) rh⟩
/-- list(..), tuple(..) of a sequence -/
def itemsW (w : W) (G : GH) : Option (List W) := match w with
  | .tup xs => some xs
  | .kt xs => some xs
  | .fl xs => some xs
  | .ref p => match G p with
    | some (.lst xs) => some xs
    | _ => none
  | _ => none
theorem items_of {K : PySem.W.Frag} {H : Hp} {G : GH} {w : W} {v : V} {xs : List W} (h : itemsW w G = some xs) (rv : RV K H v w) (rh : RH K H G) : ∃ a vs, v = .ref a ∧ (SqL K H a vs ∨ SqT K H a vs) ∧ RVs K H vs xs := by
  cases w with
  | tup ys => cases h; cases rv with | tup q rs => exact ⟨_, _, rfl, .inr (SqT.of q), rs⟩
  | kt ys => cases h; cases rv with | kt q rs => exact ⟨_, _, rfl, .inr q.seq, rs⟩
  | fl ys => cases h; cases rv with | fl q rs => exact ⟨_, _, rfl, .inl q.seq, rs⟩
  | ref p =>
    cases rv
    unfold itemsW at h
    dsimp only at h
    split at h
    · rename_i ys e
      cases h
      obtain ⟨vs, h1, rs⟩ := rh _ _ e
      exact ⟨_, _, rfl, .inl (SqL.of h1), rs⟩
    · cases h
  | _ => cases h
def toListW : CW := fun ws G R => match ws with
  | [w] => match itemsW w G with
    | some xs => ∀ p, G p = none → R (.ref p) (updG G p (.lst xs))
    | none => False
  | _ => False
theorem call_listW : CallW X (.type "list") toListW := by
  intro pins s σ H xs us Q I r h
  obtain ⟨ws, G, R, rs, rh, t, k⟩ := h
  match ws, t, rs with
  | [w], t, rs =>
    obtain ⟨v, rfl, rv⟩ := rs.one
    unfold toListW at t
    dsimp only at t
    split at t
    · rename_i ys e
      obtain ⟨a, vs, rfl, hq, rs⟩ := items_of e rv rh
      exact call_list_of pins s σ H _ us Q I r ⟨_, _, rfl, hq, fun l hl => k _ _ _ _ (t l (rh.free hl)) (.newG hl) (.ref l) (rh.newG hl ⟨_, upd_same, rs.mono (.new hl) rh⟩)⟩
    · exact t.elim
/-- of a kt: the same thing, not a new one -/
def toTupW : CW := fun ws G R => match ws with
  | [.tup xs] => R (.tup xs) G
  | [.kt xs] => R (.kt xs) G
  | [.fl xs] => R (.tup xs) G
  | [.ref p] => match G p with
    | some (.lst xs) => R (.tup xs) G
    | _ => False
  | _ => False
theorem call_tupW : CallW X (.type "tuple") toTupW := by
  intro pins s σ H xs us Q I r h
  obtain ⟨ws, G, R, rs, rh, t, k⟩ := h
  match ws, t, rs with
  | [.tup ys], t, rs =>
    obtain ⟨v, rfl, rv⟩ := rs.one
    cases rv with
    | tup q rs => exact call_tuple_of pins s σ H _ us Q I r ⟨_, _, rfl, .inr ⟨SqT.of q, k.here t (.tup q rs) rh⟩⟩
  | [.kt ys], t, rs =>
    obtain ⟨v, rfl, rv⟩ := rs.one
    cases rv with
    | kt q rs => exact call_tuple_of pins s σ H _ us Q I r ⟨_, _, rfl, .inr ⟨q.seq, k.here t (.kt q rs) rh⟩⟩
  | [.fl ys], t, rs =>
    obtain ⟨v, rfl, rv⟩ := rs.one
    cases rv with
    | fl q rs => exact call_tuple_of pins s σ H _ us Q I r ⟨_, _, rfl, .inl ⟨q.seq, fun l hl => k _ _ _ _ t (.new hl) (.tup upd_same (rs.mono (.new hl) rh)) (rh.new hl)⟩⟩
  | [.ref p], t, rs =>
    obtain ⟨v, rfl, rv⟩ := rs.one
    cases rv
    unfold toTupW at t
    dsimp only at t
    split at t
    · rename_i ys e
      obtain ⟨vs, h1, rs⟩ := rh _ _ e
      exact call_tuple_of pins s σ H _ us Q I r ⟨_, _, rfl, .inl ⟨SqL.of h1, fun l hl => k _ _ _ _ t (.new hl) (.tup upd_same (rs.mono (.new hl) rh)) (rh.new hl)⟩⟩
    · exact t.elim
/-- all, any of a list of truth values; sum of ints -/
def blsOf : List W → Option (List Bool)
  | [] => some []
  | .bl b :: r => (blsOf r).map (b :: ·)
  | _ :: _ => none
theorem bls_of : ∀ {ws : List W} {bs : List Bool}, blsOf ws = some bs → ws = bs.map .bl
  | [], bs, h => by cases h; rfl
  | w :: ws, bs, h => by
    cases w with
    | bl b =>
      unfold blsOf at h
      obtain ⟨r, h1, h2⟩ := Option.map_eq_some_iff.mp h
      subst h2
      rw [bls_of h1]; rfl
    | _ => cases h
theorem blsOf_map : ∀ bs : List Bool, blsOf (bs.map .bl) = some bs
  | [] => rfl
  | b :: bs => by
    show (blsOf (bs.map .bl)).map (b :: ·) = _
    rw [blsOf_map bs]; rfl
def bolsW (f : List Bool → Bool) : CW := fun ws G R => match ws with
  | [.ref p] => match G p with
    | some (.lst xs) => match blsOf xs with
      | some bs => R (.bl (f bs)) G
      | none => False
    | _ => False
  | _ => False
theorem call_allW (hc : X.calm = true) : CallW X (.builtin "all") (bolsW fun bs => bs.all id) := by
  intro pins s σ H xs us Q I r h
  obtain ⟨ws, G, R, rs, rh, t, k⟩ := h
  match ws, t, rs with
  | [.ref p], t, rs =>
    obtain ⟨v, rfl, rv⟩ := rs.one
    cases rv
    unfold bolsW at t
    dsimp only at t
    split at t
    · rename_i ys e
      split at t
      · rename_i bs eb
        have e2 := bls_of eb
        subst e2
        obtain ⟨vs, h1, rs⟩ := rh _ _ e
        have e3 := rs.bls
        subst e3
        exact cr_all hc pins s σ H _ us Q I r ⟨_, bs, rfl, SqL.of h1, k.here t (.bl _) rh⟩
      · exact t.elim
    · exact t.elim
theorem call_anyW (hc : X.calm = true) : CallW X (.builtin "any") (bolsW fun bs => bs.any id) := by
  intro pins s σ H xs us Q I r h
  obtain ⟨ws, G, R, rs, rh, t, k⟩ := h
  match ws, t, rs with
  | [.ref p], t, rs =>
    obtain ⟨v, rfl, rv⟩ := rs.one
    cases rv
    unfold bolsW at t
    dsimp only at t
    split at t
    · rename_i ys e
      split at t
      · rename_i bs eb
        have e2 := bls_of eb
        subst e2
        obtain ⟨vs, h1, rs⟩ := rh _ _ e
        have e3 := rs.bls
        subst e3
        exact cr_any hc pins s σ H _ us Q I r ⟨_, bs, rfl, SqL.of h1, k.here t (.bl _) rh⟩
      · exact t.elim
    · exact t.elim
/-! ### isinstance -/
inductive Ty where
  | nn | bo | it | st | tu | li | di
  deriving DecidableEq
def Ty.nm : Ty → String
  | .nn => "NoneType" | .bo => "bool" | .it => "int" | .st => "str" | .tu => "tuple" | .li => "list" | .di => "dict"
def isaT : Ty → Ty → Bool
  | .nn, .nn => true | .bo, .bo => true | .bo, .it => true | .it, .it => true | .st, .st => true | .tu, .tu => true | .li, .li => true | .di, .di => true
  | _, _ => false
theorem kitB_T (a b : Ty) : kitB a.nm b.nm = some (isaT a b) := by cases a <;> cases b <;> decide +kernel
def tyW (w : W) (G : GH) : Option Ty := match w with
  | .non => some .nn
  | .bl _ => some .bo
  | .int _ => some .it
  | .str _ => some .st
  | .tup _ => some .tu
  | .kt _ => some .tu
  | .fl _ => some .li
  | .fdK _ => some .di
  | .ref p => match G p with
    | some (.lst _) => some .li
    | some (.dK _) => some .di
    | some (.dT _) => some .di
    | _ => none
  | _ => none
theorem ty_of {K : PySem.W.Frag} {H : Hp} {G : GH} {w : W} {v : V} {T : Ty} (h : tyW w G = some T) (rv : RV K H v w) (rh : RH K H G) : TyX K H v (.type T.nm) := by
  cases w with
  | non => cases h; cases rv; exact .base .non
  | bl b => cases h; cases rv; exact .base (.bl b)
  | int b => cases h; cases rv; exact .base (.int b)
  | str b => cases h; cases rv; exact .base (.str b)
  | tup ys => cases h; cases rv with | tup q rs => exact .base (.tup q)
  | kt ys => cases h; cases rv with | kt q rs => obtain ⟨o, its, n, h1, h2, _⟩ := q; exact .kTuple h1 h2
  | fl ys =>
    cases h
    cases rv with
    | fl q rs =>
      rcases q with ⟨o, q⟩ | ⟨o, its, n, h1, h2, _⟩
      · exact .base (.frz q)
      · exact .kList h1 h2
  | fdK kws =>
    cases h
    cases rv with
    | fdK q _ _ => exact .fDict q
  | ref p =>
    cases rv
    unfold tyW at h
    dsimp only at h
    split at h
    · rename_i ys e; cases h; obtain ⟨vs, h1, _⟩ := rh _ _ e; exact .base (.lst h1)
    · rename_i ys e; cases h; obtain ⟨vs, h1, _⟩ := rh _ _ e; exact .base (.dK h1)
    · rename_i ys e; cases h; obtain ⟨vs, h1, _⟩ := rh _ _ e; exact .base (.dT h1)
    · cases h
  | _ => cases h
def isiW (T : Ty) (w : W) (G : GH) (R : KW) : Prop := match tyW w G with
  | some t => R (.bl (isaT t T)) G
  | none => False
def isi2W (T U : Ty) (w : W) (G : GH) (R : KW) : Prop := match tyW w G with
  | some t => R (.bl (isaT t T || isaT t U)) G
  | none => False
def tIsi (T : Ty) (Ta : TW) : TW := fun S G R => Ta S G fun w G1 => isiW T w G1 R
def tIsi2 (T U : Ty) (Ta : TW) : TW := fun S G R => Ta S G fun w G1 => isi2W T U w G1 R
def isiC (T : Ty) : CW := fun ws G R => match ws with
  | [w, .ty n] => n = T.nm ∧ isiW T w G R
  | _ => False
theorem call_isiW (T : Ty) : CallW X (.builtin "isinstance") (isiC T) := by
  intro pins s σ H xs us Q I r h
  obtain ⟨ws, G, R, rs, rh, t, k⟩ := h
  match ws, t, rs with
  | [w, .ty n], t, rs =>
    obtain ⟨v, u, rfl, rv, ru⟩ := rs.two
    obtain ⟨rfl, t⟩ := t
    cases ru
    unfold isiW at t
    split at t
    · rename_i ty e
      exact call_isi pins s σ H _ us Q I r ⟨v, _, _, _, _, rfl, .ty _, ty_of e rv rh, kit_ty (kitB_T ty T), k.here t (.bl _) rh⟩
    · exact t.elim
/-- isinstance(x, (T, U)) -/
def isiC2 (T U : Ty) : CW := fun ws G R => match ws with
  | [w, .tup [.ty n, .ty m]] => n = T.nm ∧ m = U.nm ∧ isi2W T U w G R
  | _ => False
theorem call_isi2W (T U : Ty) : CallW X (.builtin "isinstance") (isiC2 T U) := by
  intro pins s σ H xs us Q I r h
  obtain ⟨ws, G, R, rs, rh, t, k⟩ := h
  match ws, t, rs with
  | [w, .tup [.ty n, .ty m]], t, rs =>
    obtain ⟨v, u, rfl, rv, ru⟩ := rs.two
    obtain ⟨rfl, rfl, t⟩ := t
    cases ru with
    | tup q rs2 =>
      obtain ⟨v1, v2, rfl, k1, k2⟩ := rs2.two
      cases k1; cases k2
      unfold isi2W at t
      split at t
      · rename_i ty e
        refine call_isiT pins s σ H _ us Q I r ⟨v, _, _, _, [.type T.nm, .type U.nm], _, rfl, q, .cons (.ty _) (.cons (.ty _) .nil), ty_of e rv rh, ?_, k.here t (.bl _) rh⟩
        refine kitAny_cons (kit_ty (kitB_T ty T)) (fun e1 => ?_) (fun e1 => by rw [e1, Bool.true_or])
        rw [e1, Bool.false_or]
        refine kitAny_cons (kit_ty (kitB_T ty U)) (fun e1 => ?_) (fun e1 => by rw [e1])
        rw [e1]; exact kitAny_nil
      · exact t.elim
end
end WL
set_option Elab.async false
set_option linter.all false
set_option maxRecDepth 100000
set_option maxHeartbeats 4000000
/-! WL, part e: targets, statements, what is walked, loops, comprehensions. -/
namespace WL
open PySem PySem.Spec PyProof.Rows L2

/-! ### targets -/
abbrev TGW := W → WSt → GH → (WSt → GH → Prop) → Prop
abbrev TGsW := List W → WSt → GH → (WSt → GH → Prop) → Prop
def LfG (K : PySem.W.Frag) (Z : GH × Hp) (g : TGW) : TG := fun v σ H Q => ∃ w S G R, RV K H v w ∧ SR K Z σ H S G ∧ g w S G R ∧ ∀ S' G' σ' H', R S' G' → SR K Z σ' H' S' G' → FR G H G' H' → Q σ' H'
def LfGs (K : PySem.W.Frag) (Z : GH × Hp) (g : TGsW) : TGs := fun vs σ H Q => ∃ ws S G R, RVs K H vs ws ∧ SR K Z σ H S G ∧ g ws S G R ∧ ∀ S' G' σ' H', R S' G' → SR K Z σ' H' S' G' → FR G H G' H' → Q σ' H'
section
variable (X : Cx) (Z : GH × Hp)
def WG (e : Expr) (g : TGW) : Prop := PG X e (LfG X.K Z g)
def WGs (es : List Expr) (g : TGsW) : Prop := PGs X es (LfGs X.K Z g)
end
theorem _root_.L2.PG.weak {X : Cx} {e : Expr} {t t' : TG} (h : PG X e t) (w : ∀ v σ H Q, t' v σ H Q → t v σ H Q) : PG X e t' := ⟨fun pins s σ H v u Q I r q => h.run pins s σ H v u Q I r (w v σ H Q q)⟩
theorem _root_.L2.PGs.weak {X : Cx} {e : List Expr} {t t' : TGs} (h : PGs X e t) (w : ∀ v σ H Q, t' v σ H Q → t v σ H Q) : PGs X e t' := ⟨fun pins s σ H v u Q I r q => h.run pins s σ H v u Q I r (w v σ H Q q)⟩
theorem _root_.L2.PI.weak {X : Cx} {tg e : Expr} {t t' : TI} (h : PI X tg e t) (w : ∀ σ H Q, t' σ H Q → t σ H Q) : PI X tg e t' := ⟨fun pins s σ H Q I q => h.run pins s σ H Q I (w σ H Q q)⟩

section
variable {X : Cx} {Z : GH × Hp} {a b c e o : Expr} {Ta Tb : TW} {pos : Pos} {K : PySem.W.Frag} {es : List Expr}
theorem LfG.go {g : TGW} {v : V} {w : W} {σ : L2.St} {H : Hp} {S : WSt} {G : GH} {R : WSt → GH → Prop} {Q : L2.St → Hp → Prop} (rv : RV K H v w) (sr : SR K Z σ H S G) (t : g w S G R) (k : ∀ S' G' σ' H', R S' G' → SR K Z σ' H' S' G' → FR G H G' H' → Q σ' H') : LfG K Z g v σ H Q := ⟨w, S, G, R, rv, sr, t, k⟩
def gN (i : Nat) : TGW := fun w S G R => R (S.set i (some w)) G
theorem wg_name {i : Nat} {x : Str} (hN : X.N.Nodup) (hi : X.N[i]? = some x) (hx : Loc X.env.scope x) (hf : X.fn x = true ∨ X.env.scope.names.lookup x = some .local := by first | exact .inl rfl | exact .inr rfl | assumption) : WG X Z (.Name x pos) (gN i) :=
  (pg_name hN hi hx hf).weak fun v σ H Q h => by
    obtain ⟨w, S, G, R, rv, sr, t, k⟩ := h
    exact k _ _ _ _ t (sr.set rv) .refl
def gsN : TGsW := fun ws S G R => ws = [] ∧ R S G
def gsC (t : TGW) (u : TGsW) : TGsW := fun ws S G R => match ws with
  | w :: r => t w S G fun S' G' => u r S' G' R
  | [] => False
theorem wgs_nil : WGs X Z [] gsN := pgs_nil.weak fun v σ H Q h => by
  obtain ⟨w, S, G, R, rv, sr, ⟨t1, t2⟩, k⟩ := h
  subst t1; cases rv
  exact ⟨rfl, k _ _ _ _ t2 sr .refl⟩
theorem wgs_cons {t : TGW} {u : TGsW} (h1 : WG X Z e t) (h2 : WGs X Z es u) (hs : (assignEach (e :: es) X.env).map (·.2) = assign e X.env :: (assignEach es X.env).map (·.2) := by rfl) : WGs X Z (e :: es) (gsC t u) :=
  (pgs_cons h1 h2 hs).weak fun v σ H Q h => by
    obtain ⟨w, S, G, R, rv, sr, t, k⟩ := h
    cases rv with
    | nil => exact (show False from t).elim
    | cons r rs =>
      refine ⟨_, _, rfl, LfG.go r sr t fun S' G' σ' H' t1 sr1 f1 => ?_⟩
      exact ⟨_, S', G', R, rs.mono f1 sr.rh, sr1, t1, fun S2 G2 σ2 H2 t2 sr2 f2 => k _ _ _ _ t2 sr2 (f1.trans f2)⟩
/-- a, b = a tuple (not a list) of so many -/
def gT (n : Nat) (u : TGsW) : TGW := fun w S G R => match w.tup? with
  | some xs => xs.length = n ∧ u xs S G R
  | none => False
theorem wg_tup {k : Nat} {u : TGsW} {n : Nat} (hc : X.calm = true) (h : WGs X Z es u) (hn : (assignEach es X.env).length = n := by rfl) (hst : (assignEach es X.env).findIdx? (·.1) = none := by rfl) : WG X Z (.Tuple es k pos) (gT n u) :=
  (pg_tup hc h hn hst).weak fun v σ H Q h => by
    obtain ⟨w, S, G, R, rv, sr, t, k⟩ := h
    unfold gT at t
    split at t
    · rename_i xs e
      obtain ⟨a, vs, rfl, hq, rs⟩ := rv.tupT e
      exact ⟨a, vs, rfl, hq, by rw [rs.length]; exact t.1, ⟨xs, S, G, R, rs, sr, t.2, k⟩⟩
    · exact t.elim
/-- o[i] = v -/
abbrev TSetW := W → W → W → GH → (GH → Prop) → Prop
def l3 (K : PySem.W.Frag) (r : TSetW) : TSet := fun o i v H Q => ∃ wo wi wv G R, RV K H o wo ∧ RV K H i wi ∧ RV K H v wv ∧ RH K H G ∧ r wo wi wv G R ∧ ∀ G' H', R G' → FR G H G' H' → RH K H' G' → Q H'
def SetW (X : Cx) (r : TSetW) : Prop := PSet X (l3 X.K r)
def gSubW (To Ti : TW) (r : TSetW) : TGW := fun w S G R => To S G fun o G1 => Ti S G1 fun i G2 => r o i w G2 fun G3 => R S G3
theorem wg_sub {i : Expr} {Ti : TW} {r : TSetW} (ho : WE X Z o Ta) (hi : WE X Z i Ti) (hs : SetW X r)
    (ha : ∀ v, assign (.Subscript o i pos) X.env v = (do
      let ov ← holding [v] (eval o X.env)
      let iv ← holding [v, ov] (eval i X.env)
      standAt pos
      holding [v, ov, iv] (setItem ov iv v)
      release [v, ov, iv] []) := by intro _; rfl) : WG X Z (.Subscript o i pos) (gSubW Ta Ti r) := (pg_sub ho hi hs ha).weak fun v σ H Q h => by
  obtain ⟨w, S, G, R, rv, sr, t, k⟩ := h
  refine Lf.go sr t fun w1 G1 x H1 t1 f1 r1 h1 => ?_
  refine Lf.go (sr.next f1 h1) t1 fun w2 G2 y H2 t2 f2 r2 h2 => ?_
  have rv2 := (rv.mono f1 sr.rh).mono f2 h1
  exact ⟨w1, w2, w, G2, _, r1.mono f2 h1, r2, rv2, h2, t2, fun G' H' q f3 h3 => k _ _ _ _ q (((sr.next f1 h1).next f2 h2).next f3 h3) (f1.trans (f2.trans f3))⟩
/-- a list's item, a dict's entry -/
def setW : TSetW := fun o i v G R => match o with
  | .ref p => match G p with
    | some (.lst xs) => match i with
      | .int n => ∃ j, ixN xs.length n = some j ∧ R (updG G p (.lst (xs.set j v)))
      | _ => False
    | _ => False
  | _ => False
theorem set_listW : SetW X setW := by
  intro pins s σ H x y z v u w Q I rx ry rz h
  obtain ⟨wo, wi, wv, G, R, r1, r2, r3, rh, t, k⟩ := h
  unfold setW at t
  split at t
  · rename_i p
    split at t
    · rename_i xs e
      split at t
      · rename_i n
        obtain ⟨j, hj, t⟩ := t
        cases r1; cases r2
        obtain ⟨vs, h1, rs⟩ := rh _ _ e
        have ro : RO X.K (upd H p (.lst (vs.set j z))) p (.lst (xs.set j wv)) := ⟨_, upd_same, (RVs.set r3 j rs).mono (FR.put (o := .lst []) e) rh⟩
        exact set_list pins s σ H _ _ z v u w Q I rx ry rz ⟨p, vs, n, j, rfl, rfl, h1, by rw [rs.length]; exact hj, k _ _ t (.put e) (rh.put e ro)⟩
      · exact t.elim
    · exact t.elim
  · exact t.elim

/-! ### statements -/
variable {st : Stmt} {rest : List Stmt} {T U : TWS}
theorem LfS.go {T : TWS} {D : Ends} {DW : WEnds} {σ : L2.St} {H : Hp} {S : WSt} {G : GH} (sr : SR K Z σ H S G) (t : T DW S G) (l : LD K Z G H DW D) : LfS K Z T D σ H := ⟨S, G, DW, sr, t, l⟩
def sNext : TWS := fun D S G => D.nx S G
def sSeq (T U : TWS) : TWS := fun D S G => T { D with nx := U D } S G
theorem wss_nil : WSs X Z [] sNext := pss_nil.weak fun D σ H h => by
  obtain ⟨S, G, DW, sr, t, l⟩ := h
  exact l.nx _ _ _ _ t sr .refl
theorem wss_cons (h1 : WS X Z st T) (h2 : WSs X Z rest U) : WSs X Z (st :: rest) (sSeq T U) := (pss_cons h1 h2).weak fun D σ H h => by
  obtain ⟨S, G, DW, sr, t, l⟩ := h
  exact LfS.go sr t ⟨fun S' G' σ' H' d sr' f => LfS.go sr' d (l.from_ f), l.rt, l.bk, l.ct⟩
theorem wss_one (h1 : WS X Z st T) : WSs X Z [st] T := pss_one h1
theorem ws_pass : WS X Z (.Pass pos) sNext := ps_pass.weak fun D σ H h => by
  obtain ⟨S, G, DW, sr, t, l⟩ := h
  exact l.nx _ _ _ _ t sr .refl
def sBreak : TWS := fun D S G => D.bk S G
def sCont : TWS := fun D S G => D.ct S G
theorem ws_break : WS X Z (.Break pos) sBreak := ps_break.weak fun D σ H h => by
  obtain ⟨S, G, DW, sr, t, l⟩ := h
  exact l.bk _ _ _ _ t sr .refl
theorem ws_continue : WS X Z (.Continue pos) sCont := ps_continue.weak fun D σ H h => by
  obtain ⟨S, G, DW, sr, t, l⟩ := h
  exact l.ct _ _ _ _ t sr .refl
def sDrop (Ta : TW) : TWS := fun D S G => Ta S G fun _ G1 => D.nx S G1
theorem ws_expr (he : WE X Z e Ta) (hs : swapsWith e none pos.line X.env = pure false := by rfl) : WS X Z (.Expr e pos) (sDrop Ta) := (ps_expr he hs).weak fun D σ H h => by
  obtain ⟨S, G, DW, sr, t, l⟩ := h
  exact Lf.go sr t fun w G1 v H1 t1 f1 r1 h1 => l.nx _ _ _ _ t1 (sr.next f1 h1) f1
def sRet (Ta : TW) : TWS := fun D S G => Ta S G D.rt
theorem ws_ret (he : WE X Z e Ta) : WS X Z (.Return (some e) pos) (sRet Ta) := (ps_ret he).weak fun D σ H h => by
  obtain ⟨S, G, DW, sr, t, l⟩ := h
  exact Lf.go sr t fun w G1 v H1 t1 f1 r1 h1 => l.rt _ _ _ _ t1 f1 r1 h1
def sRetN : TWS := fun D _ G => D.rt .non G
theorem ws_retN : WS X Z (.Return none pos) sRetN := ps_retN.weak fun D σ H h => by
  obtain ⟨S, G, DW, sr, t, l⟩ := h
  exact l.rt _ _ _ _ t .refl .non sr.rh
def sIf (c : TWT) (T U : TWS) : TWS := fun D S G => c S G fun b G1 => if b = true then T D S G1 else U D S G1
theorem ws_if {c : Expr} {p q : List Stmt} {tc : TWT} (hc : WT X Z c tc) (ha : WSs X Z p T) (hb : WSs X Z q U) : WS X Z (.If c p q pos) (sIf tc T U) := (ps_if hc ha hb).weak fun D σ H h => by
  obtain ⟨S, G, DW, sr, t, l⟩ := h
  refine LfT.go sr t fun b G1 H1 t1 f1 h1 => ?_
  cases b with
  | true => exact iteT (LfS.go (sr.next f1 h1) t1 (l.from_ f1))
  | false => exact iteF (LfS.go (sr.next f1 h1) t1 (l.from_ f1))
def sNever : TWS := fun _ _ _ => False
theorem ws_never : WS X Z st sNever := ps_never.weak fun D σ H h => by
  obtain ⟨S, G, DW, sr, t, l⟩ := h
  exact t.elim
theorem wss_never {sts : List Stmt} : WSs X Z sts sNever := pss_never.weak fun D σ H h => by
  obtain ⟨S, G, DW, sr, t, l⟩ := h
  exact t.elim
def sAsg (Ta : TW) (g : TGW) : TWS := fun D S G => Ta S G fun w G1 => g w S G1 D.nx
theorem lfAsg {g : TGW} (D : Ends) (σ : L2.St) (H : Hp) (h : LfS K Z (sAsg Ta g) D σ H) : tAsg (Lf K Z Ta) (LfG K Z g) D σ H := by
  obtain ⟨S, G, DW, sr, t, l⟩ := h
  refine Lf.go sr t fun w G1 v H1 t1 f1 r1 h1 => ?_
  exact LfG.go r1 (sr.next f1 h1) t1 fun S' G' σ' H' t2 sr2 f2 => l.nx _ _ _ _ t2 sr2 (f1.trans f2)
theorem ws_asg {tg : Expr} {g : TGW} (he : WE X Z e Ta) (hg : WG X Z tg g) (hs : swapsWithSole [tg] e pos.line X.env = pure false := by rfl) (hw : swappedStores [tg] e X.env = pure none := by rfl)
    (h1 : (assignEach [tg] X.env).map (·.2) = [assign tg X.env] := by rfl) : WS X Z (.Assign [tg] e pos) (sAsg Ta g) := (ps_asg he hg hs hw h1).weak lfAsg
/-- name = e: the slot i is filled -/
def sSet (i : Nat) (Ta : TW) : TWS := fun D S G => Ta S G fun w G1 => D.nx (S.set i (some w)) G1
theorem ws_set {i : Nat} {x : Str} {pos' : Pos} (hN : X.N.Nodup) (hi : X.N[i]? = some x) (hx : Loc X.env.scope x) (he : WE X Z e Ta) (hs : swapsWith e (some (.Name x pos')) pos.line X.env = pure false := by rfl) (hf : X.fn x = true ∨ X.env.scope.names.lookup x = some .local := by first | exact .inl rfl | exact .inr rfl | assumption) :
    WS X Z (.Assign [.Name x pos'] e pos) (sSet i Ta) := (ps_set hN hi hx he hs hf).weak fun D σ H h => by
  obtain ⟨S, G, DW, sr, t, l⟩ := h
  exact Lf.go sr t fun w G1 v H1 t1 f1 r1 h1 => l.nx _ _ _ _ t1 ((sr.next f1 h1).set r1) f1
/-- a, b = e1, e2 -/
def sPar (i j : Nat) (Tr : TWA) : TWS := fun D S G => Tr S G fun ws G1 => match ws with
  | [v, w] => D.nx ((S.set i (some v)).set j (some w)) G1
  | _ => False
theorem ws_par {i j : Nat} {x y : Str} {a b : Expr} {Tr : TWA} {px py pt : Pos} {kt k2 pt2} (hc : X.calm = true) (hN : X.N.Nodup) (hi : X.N[i]? = some x) (hj : X.N[j]? = some y) (hij : i ≠ j)
    (hx : X.env.scope.names.lookup x = some .local) (hy : X.env.scope.names.lookup y = some .local) (ha : WA X Z [a, b] Tr)
    (hw : swappedStores [.Tuple [.Name x px, .Name y py] kt pt] (.Tuple [a, b] k2 pt2) X.env = pure (some [x, y]))
    (hs : swapsWithSole [.Tuple [.Name x px, .Name y py] kt pt] (.Tuple [a, b] k2 pt2) pos.line X.env = pure false := by rfl) :
    WS X Z (.Assign [.Tuple [.Name x px, .Name y py] kt pt] (.Tuple [a, b] k2 pt2) pos) (sPar i j Tr) := (ps_par hc hN hi hj hij hx hy ha hw hs).weak fun D σ H h => by
  obtain ⟨S, G, DW, sr, t, l⟩ := h
  refine LfA.go sr t fun ws G1 vs H1 t1 f1 rs h1 => ?_
  match ws, t1, rs with
  | [w1, w2], t1, rs =>
    obtain ⟨v1, v2, rfl, k1, k2⟩ := rs.two
    exact ⟨v1, v2, rfl, l.nx _ _ _ _ t1 (((sr.next f1 h1).set k1).set k2) f1⟩
/-- name op= e -/
def sAug (i : Nat) (Ta : TW) (r : R2W) : TWS := fun D S G => match S[i]? with
  | some (some x) => Ta S G fun y G1 => r x y G1 fun z G2 => D.nx (S.set i (some z)) G2
  | _ => False
def PIpW (X : Cx) (op : Operator) (r : R2W) : Prop := PIp X op (l2 X.K r)
theorem ws_aug {i : Nat} {x : Str} {op : Operator} {r : R2W} {pos' : Pos} (hN : X.N.Nodup) (hi : X.N[i]? = some x) (hx : Loc X.env.scope x) (he : WE X Z e Ta) (ho : PIpW X op r) (hf : X.fn x = true ∨ X.env.scope.names.lookup x = some .local := by first | exact .inl rfl | exact .inr rfl | assumption) :
    WS X Z (.AugAssign (.Name x pos') op e pos) (sAug i Ta r) := (ps_aug hN hi hx he ho hf).weak fun D σ H h => by
  obtain ⟨S, G, DW, sr, t, l⟩ := h
  unfold sAug at t
  split at t
  · rename_i w e
    obtain ⟨v, h1, h2⟩ := sr.get e
    refine ⟨v, h1, ?_⟩
    refine Lf.go sr t fun w1 G1 v1 H1 t1 f1 r1 h1 => ?_
    exact ⟨w, w1, G1, _, h2.mono f1 sr.rh, r1, h1, t1, fun w2 G2 v2 H2 q f2 r2 h2 => l.nx _ _ _ _ q (((sr.next f1 h1).next f2 h2).set r2) (f1.trans f2)⟩
  · exact t.elim
theorem ip_addW : PIpW X .Add (int0W fun a b => .int (a + b)) := by
  intro pins s σ H x y v u Q I rx ry h
  obtain ⟨w1, w2, G, R, r1, r2, rh, t, k⟩ := h
  cases w1 with
  | int a =>
    cases w2 with
    | int b => cases r1; cases r2; exact ip_add pins s σ H _ _ v u Q I rx ry ⟨a, b, rfl, rfl, k.here t (.int _) rh⟩
    | _ => exact (show False from t).elim
  | _ => exact (show False from t).elim
theorem ip_mulW : PIpW X .Mult (intW MulC fun a b => .int (a * b)) := by
  intro pins s σ H x y v u Q I rx ry h
  obtain ⟨w1, w2, G, R, r1, r2, rh, t, k⟩ := h
  cases w1 with
  | int a =>
    cases w2 with
    | int b =>
      cases r1; cases r2
      obtain ⟨t', rfl⟩ := rx
      obtain ⟨t'', rfl⟩ := ry
      exact imul_int ⟨.int _, H, I.tok _, ⟨_, rfl⟩, k.here t.2 (.int _) rh⟩ (by rcases t.1 with c | c; exact c.ok; exact c.ok)
    | _ => exact (show False from t).elim
  | _ => exact (show False from t).elim

/-! ### what is walked -/
/-- from (G1, H1) on J yields items, while Gd holds of G -/
structure WIt (K : PySem.W.Frag) (G1 : GH) (H1 : Hp) (J : It) (items : List W) (Gd : GH → Prop) : Prop where
  go : ∀ i G H, FR G1 H1 G H → RH K H G → Gd G → i < items.length → J.go i H
  yld : ∀ i G H x H' w, FR G1 H1 G H → RH K H G → Gd G → items[i]? = some w → J.yld i H x H' → FR G H G H' ∧ RV K H' x w ∧ RH K H' G
  stop : ∀ G H, FR G1 H1 G H → RH K H G → Gd G → J.stop items.length H
abbrev TIW := WSt → GH → (List W → (GH → Prop) → GH → Prop) → Prop
def LfI (K : PySem.W.Frag) (Z : GH × Hp) (T : TIW) : TI := fun σ H R => ∃ S G R', SR K Z σ H S G ∧ T S G R' ∧ ∀ items Gd G' J H', R' items Gd G' → FR G H G' H' → RH K H' G' → WIt K G' H' J items Gd → R J H'
def WI (X : Cx) (Z : GH × Hp) (tg iter : Expr) (T : TIW) : Prop := PI X tg iter (LfI X.K Z T)
/-- a list or a tuple -/
def iSeq (K : PySem.W.Frag) (tl : TE) : TI := fun σ H R => tl σ H fun x H1 => ∃ a, x = .ref a ∧ (((∃ xs, SqL K H1 a xs) ∧ R (Itl K a) H1) ∨ ((∃ xs, SqT K H1 a xs) ∧ R (Itt K a) H1))
theorem pi_seq {tg l : Expr} {tl : TE} (hl : PE X l tl) : PI X tg l (iSeq X.K tl) := by
  refine ⟨fun pins s σ H R I h => ?_⟩
  refine thn (hl.run pins s σ H _ I h) fun v s1 ⟨x, H1, I1, r1, q1⟩ => ?_
  obtain ⟨a, e, q | q⟩ := q1
  · obtain ⟨⟨xs, hq⟩, q⟩ := q
    subst e
    cases r1
    obtain ⟨its, rv, p, hz⟩ := I1.list hq
    refine wpAny_pyIter_list p.isList ?_
    refine ⟨s1.heap.objs.size, [s1.heap.objs.size], _, _, H1, rfl, I1.kept (t' := s1.toks) fun b o e => Heap.get?_push_of_some _ e, turn_list a _, ⟨_, Heap.get?_push_size _ rfl, rfl, rfl⟩, fun b hb => ?_, q⟩
    have e : b = s1.heap.objs.size := by simpa using hb
    subst e
    exact I1.fpOk (Nat.le_refl _) (I1.hok.fresh (Nat.le_refl _))
  · obtain ⟨⟨xs, hq⟩, q⟩ := q
    subst e
    cases r1
    obtain ⟨its, rv, p, hz⟩ := I1.tuple hq
    refine wpAny_pyIter_tuple (show s1.heap.IsTuple a its.toArray from p) ?_
    refine ⟨s1.heap.objs.size, [s1.heap.objs.size], _, _, H1, rfl, I1.kept (t' := s1.toks) fun b o e => Heap.get?_push_of_some _ e, turn_tuple a _, ⟨_, Heap.get?_push_size _ rfl, rfl, rfl⟩, fun b hb => ?_, q⟩
    have e : b = s1.heap.objs.size := by simpa using hb
    subst e
    exact I1.fpOk (Nat.le_refl _) (I1.hok.fresh (Nat.le_refl _))
theorem wit_list {G1 : GH} {H1 : Hp} {a : Addr} {items : List W} {Gd : GH → Prop} (h : ∀ G H, FR G1 H1 G H → RH K H G → Gd G → ∃ vs, SqL K H a vs ∧ RVs K H vs items) (one : ∀ G H vs us, RH K H G → SqL K H a vs → SqL K H a us → vs = us ∨ True) : WIt K G1 H1 (Itl K a) items Gd where
  go := fun i G H f rh g hi => by
    obtain ⟨vs, hq, rs⟩ := h G H f rh g
    obtain ⟨v, hv, _⟩ := rs.get (i := i) (w := items[i]) (by simp [hi])
    exact ⟨vs, v, hq, hv⟩
  yld := fun i G H x H' w f rh g hw y => by
    obtain ⟨vs, hq, rs⟩ := h G H f rh g
    obtain ⟨e, y⟩ := y
    subst e
    obtain ⟨v, hv, rv⟩ := rs.get hw
    have e2 := y vs hq
    rw [hv] at e2; cases e2
    exact ⟨.refl, rv, rh⟩
  stop := fun G H f rh g => by
    obtain ⟨vs, hq, rs⟩ := h G H f rh g
    exact ⟨vs, hq, Nat.le_of_eq rs.length⟩
theorem wit_tup {G1 : GH} {H1 : Hp} {a : Addr} {items : List W} {Gd : GH → Prop} (h : ∀ G H, FR G1 H1 G H → RH K H G → Gd G → ∃ vs, SqT K H a vs ∧ RVs K H vs items) : WIt K G1 H1 (Itt K a) items Gd where
  go := fun i G H f rh g hi => by
    obtain ⟨vs, hq, rs⟩ := h G H f rh g
    obtain ⟨v, hv, _⟩ := rs.get (i := i) (w := items[i]) (by simp [hi])
    exact ⟨vs, v, hq, hv⟩
  yld := fun i G H x H' w f rh g hw y => by
    obtain ⟨vs, hq, rs⟩ := h G H f rh g
    obtain ⟨e, y⟩ := y
    subst e
    obtain ⟨v, hv, rv⟩ := rs.get hw
    have e2 := y vs hq
    rw [hv] at e2; cases e2
    exact ⟨.refl, rv, rh⟩
  stop := fun G H f rh g => by
    obtain ⟨vs, hq, rs⟩ := h G H f rh g
    exact ⟨vs, hq, Nat.le_of_eq rs.length⟩
def tru1 : GH → Prop := fun _ => True
def walkW (w : W) (G : GH) (R : List W → (GH → Prop) → GH → Prop) : Prop := match w with
  | .tup xs => R xs tru1 G
  | .kt xs => R xs tru1 G
  | .fl xs => R xs tru1 G
  | .ref p => match G p with
    | some (.lst xs) => R xs (fun G => G p = some (.lst xs)) G
    | _ => False
  | _ => False
def tISeq (Ta : TW) : TIW := fun S G R => Ta S G fun w G1 => walkW w G1 R
theorem wi_seq {tg : Expr} (ha : WE X Z a Ta) : WI X Z tg a (tISeq Ta) := (pi_seq ha).weak fun σ H R h => by
  obtain ⟨S, G, R', sr, t, k⟩ := h
  refine Lf.go sr t fun w G1 v H1 t1 f1 r1 h1 => ?_
  cases w with
  | tup xs =>
    cases r1 with
    | tup q rs =>
      refine ⟨_, rfl, .inr ⟨⟨_, SqT.of q⟩, k xs tru1 G1 _ H1 t1 f1 h1 (wit_tup fun G H f rh g => ⟨_, SqT.of (f.tup h1 q), rs.mono f h1⟩)⟩⟩
  | kt xs =>
    cases r1 with
    | kt q rs =>
      refine ⟨_, rfl, .inr ⟨⟨_, q.seq⟩, k xs tru1 G1 _ H1 t1 f1 h1 (wit_tup fun G H f rh g => ⟨_, q.seq, rs.mono f h1⟩)⟩⟩
  | fl xs =>
    cases r1 with
    | fl q rs =>
      refine ⟨_, rfl, .inl ⟨⟨_, q.seq⟩, k xs tru1 G1 _ H1 t1 f1 h1 (wit_list (fun G H f rh g => ⟨_, (f.frz h1 q).seq, rs.mono f h1⟩) fun _ _ _ _ _ _ _ => .inr trivial)⟩⟩
  | ref p =>
    cases r1
    unfold walkW at t1
    dsimp only at t1
    split at t1
    · rename_i xs e
      obtain ⟨vs, hv, rs⟩ := h1 _ _ e
      refine ⟨_, rfl, .inl ⟨⟨_, SqL.of hv⟩, k xs _ G1 _ H1 t1 f1 h1 (wit_list (fun G H f rh g => ?_) fun _ _ _ _ _ _ _ => .inr trivial)⟩⟩
      obtain ⟨us, hu, ru⟩ := rh _ _ g
      exact ⟨us, SqL.of hu, ru⟩
    · exact t1.elim
  | _ => exact (show False from t1).elim
/-- a temporary list, which nothing else names: no guard -/
def tITmp (Ta : TW) : TIW := fun S G R => Ta S G fun w G1 => match w with
  | .ref p => match G1 p with
    | some (.lst xs) => R xs tru1 (fun b => if b = p then none else G1 b)
    | _ => False
  | _ => False
theorem wi_tmp {tg : Expr} (ha : WE X Z a Ta) : WI X Z tg a (tITmp Ta) := (pi_seq ha).weak fun σ H R h => by
  obtain ⟨S, G, R', sr, t, k⟩ := h
  refine Lf.go sr t fun w G1 v H1 t1 f1 r1 h1 => ?_
  split at t1
  · rename_i p
    cases r1
    split at t1
    · rename_i xs e
      obtain ⟨vs, hv, rs⟩ := h1 _ _ e
      have np : (fun b => if b = p then none else G1 b : GH) p = none := if_pos rfl
      have h2 : RH X.K H1 (fun b => if b = p then none else G1 b) := h1.weak fun a o q => by
        by_cases z : a = p
        · rw [if_pos z] at q; cases q
        · rw [if_neg z] at q; exact q
      refine ⟨_, rfl, .inl ⟨⟨_, SqL.of hv⟩, k xs tru1 _ _ H1 t1 (f1.weak fun a q => ?_) h2 (wit_list (fun G H f rh g => ⟨vs, SqL.of (f p _ hv np).1, rs.mono f h2⟩) fun _ _ _ _ _ _ _ => .inr trivial)⟩⟩
      by_cases z : a = p
      · rw [if_pos z]
      · rw [if_neg z]; exact q
    · exact t1.elim
  · exact t1.elim
theorem wit_range {G1 : GH} {H1 : Hp} (lo : Int) (n : Nat) : WIt K G1 H1 (Itr lo n) ((List.range n).map fun i => W.int (lo + (i : Nat))) tru1 where
  go := fun i G H f rh g hi => by
    show i < n
    simpa using hi
  yld := fun i G H x H' w f rh g hw y => by
    obtain ⟨e, y⟩ := y
    subst e
    have hi : i < n := by
      have := (List.getElem?_eq_some_iff.mp hw).1
      simpa using this
    simp [hi] at hw
    subst hw
    rw [y]
    exact ⟨.refl, .int _, rh⟩
  stop := fun G H f rh g => by
    show n ≤ _
    simp
def tIRng1 (Tr : TWA) : TIW := fun S G R => Tr S G fun ws G1 => match ws with
  | [.int j] => -(2 ^ 62) ≤ j ∧ j < 2 ^ 62 ∧ R ((List.range j.toNat).map fun i => W.int (0 + (i : Nat))) tru1 G1
  | _ => False
def tIRng2 (Tr : TWA) : TIW := fun S G R => Tr S G fun ws G1 => match ws with
  | [.int i, .int j] => (-(2 ^ 62) ≤ i ∧ i < 2 ^ 62 ∧ -(2 ^ 62) ≤ j ∧ j < 2 ^ 62) ∧ R ((List.range (j - i).toNat).map fun k => W.int (i + (k : Nat))) tru1 G1
  | _ => False
theorem wi_range1 {tg : Expr} {Tr : TWA} {p : Pos} (hg : Gl X "range") (hm : X.mg "range" = none) (ha : WA X Z [a] Tr) (hs : starEach [a] X.env = [(false, eval a X.env)] := by rfl) : WI X Z tg (.Call (.Name "range" p) [a] [] pos) (tIRng1 Tr) :=
  (pi_range1 hg hm ha hs).weak fun σ H R h => by
    obtain ⟨S, G, R', sr, t, k⟩ := h
    refine LfA.go sr t fun ws G1 vs H1 t1 f1 rs h1 => ?_
    match ws, t1, rs with
    | [.int j], t1, rs =>
      obtain ⟨v, rfl, rv⟩ := rs.one
      cases rv
      exact ⟨j, rfl, t1.1, t1.2.1, k _ _ G1 _ H1 t1.2.2 f1 h1 (wit_range 0 j.toNat)⟩
theorem wi_range2 {tg : Expr} {Tr : TWA} {p : Pos} (hg : Gl X "range") (hm : X.mg "range" = none) (ha : WA X Z [a, b] Tr) (hs : starEach [a, b] X.env = [(false, eval a X.env), (false, eval b X.env)] := by rfl) (hs2 : starEach [b] X.env = [(false, eval b X.env)] := by rfl) :
    WI X Z tg (.Call (.Name "range" p) [a, b] [] pos) (tIRng2 Tr) :=
  (pi_range2 hg hm ha hs hs2).weak fun σ H R h => by
    obtain ⟨S, G, R', sr, t, k⟩ := h
    refine LfA.go sr t fun ws G1 vs H1 t1 f1 rs h1 => ?_
    match ws, t1, rs with
    | [.int i, .int j], t1, rs =>
      obtain ⟨v, u, rfl, rv, ru⟩ := rs.two
      cases rv; cases ru
      exact ⟨i, j, rfl, t1.1, k _ _ G1 _ H1 t1.2 f1 h1 (wit_range i _)⟩
theorem wit_str {G1 : GH} {H1 : Hp} (x : Str) : WIt K G1 H1 (Its x) (x.cps.toList.map fun c => W.str ⟨#[c]⟩) tru1 where
  go := fun i G H f rh g hi => by
    show i < x.cps.size
    simpa using hi
  yld := fun i G H y H' w f rh g hw q => by
    obtain ⟨e, c, hc, rfl⟩ := q
    subst e
    rw [List.getElem?_map, Array.getElem?_toList, hc] at hw
    cases hw
    exact ⟨.refl, .str _, rh⟩
  stop := fun G H f rh g => by
    show x.cps.size ≤ _
    simp
def tIStr (Ta : TW) : TIW := fun S G R => Ta S G fun w G1 => match w with
  | .str x => R (x.cps.toList.map fun c => W.str ⟨#[c]⟩) tru1 G1
  | _ => False
theorem wi_str {tg : Expr} (ha : WE X Z a Ta) : WI X Z tg a (tIStr Ta) := (pi_str ha).weak fun σ H R h => by
  obtain ⟨S, G, R', sr, t, k⟩ := h
  refine Lf.go sr t fun w G1 v H1 t1 f1 r1 h1 => ?_
  split at t1
  · rename_i x
    cases r1
    exact ⟨x, rfl, k _ _ G1 _ H1 t1 f1 h1 (wit_str x)⟩
  · exact t1.elim

/-! ### for -/
def forW (Gd : GH → Prop) (g : TGW) (tb : TWS) (D : WEnds) : List W → WSt → GH → Prop
  | [], S, G => Gd G ∧ D.nx S G
  | x :: xs, S, G => Gd G ∧ g x S G fun S1 G1 => tb { D with nx := forW Gd g tb D xs, ct := forW Gd g tb D xs, bk := D.nx } S1 G1
def sFor (ti : TIW) (g : TGW) (tb : TWS) : TWS := fun D S G => ti S G fun items Gd G1 => forW Gd g tb D items S G1
theorem ws_for {tg iter : Expr} {body : List Stmt} {ti : TIW} {g : TGW} {tb : TWS} (hp : PassesOwn (model X.prog X.w) X.A X.env X.xe) (hc : X.calm = true) (hi : WI X Z tg iter ti) (hg : WG X Z tg g) (hb : WSs X Z body tb)
    (hs : ∀ x, foldedSetIterable iter X.env x = pure x := by intro _; rfl) : WS X Z (.For tg iter body [] pos) (sFor ti g tb) := (ps_for hp hc hi hg hb hs).weak fun D σ H h => by
  obtain ⟨S, G, DW, sr, t, l⟩ := h
  refine ⟨S, G, _, sr, t, fun items Gd G1 J H1 t1 f1 h1 wi => ?_⟩
  refine ⟨fun i m σ' H' => m = items.length - i ∧ i ≤ items.length ∧ ∃ S' G', SR X.K Z σ' H' S' G' ∧ FR G1 H1 G' H' ∧ forW Gd g tb DW (items.drop i) S' G', ⟨items.length, by simp, Nat.zero_le _, S, G1, sr.next f1 h1, .refl, t1⟩, ?_⟩
  rintro i m σ2 H2 ⟨rfl, hi, S2, G2, sr2, f2, t2⟩
  have l2 : LD X.K Z G2 H2 DW D := l.from_ (f1.trans f2)
  by_cases hlt : i < items.length
  · rw [List.drop_eq_getElem_cons hlt] at t2
    obtain ⟨gd, t2⟩ := t2
    refine .inr ⟨wi.go i G2 H2 f2 sr2.rh gd hlt, fun σ' H' => ∃ S' G', SR X.K Z σ' H' S' G' ∧ FR G1 H1 G' H' ∧ forW Gd g tb DW (items.drop (i + 1)) S' G', ?_, fun x H3 y => ?_⟩
    · rintro σ' H' ⟨S', G', q1, q2, q3⟩
      exact ⟨items.length - (i + 1), by omega, rfl, hlt, S', G', q1, q2, q3⟩
    · obtain ⟨f3, r3, h3⟩ := wi.yld i G2 H2 x H3 items[i] f2 sr2.rh gd (by simp [hlt]) y
      refine LfG.go r3 (sr2.next f3 h3) t2 fun S4 G4 σ4 H4 t4 sr4 f4 => ?_
      refine LfS.go sr4 t4 ⟨fun S5 G5 σ5 H5 d sr5 f5 => ⟨S5, G5, sr5, f2.trans (f3.trans (f4.trans f5)), d⟩, fun w G5 v H5 d f5 => l2.rt _ _ _ _ d (f3.trans (f4.trans f5)), fun S5 G5 σ5 H5 d sr5 f5 => l2.nx _ _ _ _ d sr5 (f3.trans (f4.trans f5)), fun S5 G5 σ5 H5 d sr5 f5 => ⟨S5, G5, sr5, f2.trans (f3.trans (f4.trans f5)), d⟩⟩
  · have e : i = items.length := by omega
    subst e
    rw [List.drop_length] at t2
    exact .inl ⟨wi.stop G2 H2 f2 sr2.rh t2.1, l2.nx _ _ _ _ t2.2 sr2 .refl⟩
/-- while: an invariant with a measure -/
def sWhile (c : TWT) (tb : TWS) : TWS := fun D S G => ∃ V : Nat → WSt → GH → Prop, (∃ m, V m S G) ∧ ∀ m S G, V m S G → c S G fun b G1 =>
  if b = true then tb { D with nx := fun S' G' => ∃ m', m' < m ∧ V m' S' G', ct := fun S' G' => ∃ m', m' < m ∧ V m' S' G', bk := D.nx } S G1 else D.nx S G1
theorem ws_while {c : Expr} {body : List Stmt} {tc : TWT} {tb : TWS} (hp : PassesOwn (model X.prog X.w) X.A X.env X.xe) (hc : WT X Z c tc) (hb : WSs X Z body tb) : WS X Z (.While c body [] pos) (sWhile tc tb) := (ps_while hp hc hb).weak fun D σ H h => by
  obtain ⟨S, G, DW, sr, ⟨V, ⟨m0, v0⟩, turn⟩, l⟩ := h
  refine ⟨fun m σ' H' => ∃ S' G', SR X.K Z σ' H' S' G' ∧ FR G H G' H' ∧ V m S' G', ⟨m0, S, G, sr, .refl, v0⟩, ?_⟩
  rintro m σ2 H2 ⟨S2, G2, sr2, f2, v2⟩
  have l2 : LD X.K Z G2 H2 DW D := l.from_ f2
  refine LfT.go sr2 (turn m S2 G2 v2) fun b G3 H3 t3 f3 h3 => ?_
  cases b with
  | false => exact iteF (l2.nx _ _ _ _ t3 (sr2.next f3 h3) f3)
  | true =>
    refine iteT ⟨fun σ' H' => ∃ m', m' < m ∧ ∃ S' G', SR X.K Z σ' H' S' G' ∧ FR G H G' H' ∧ V m' S' G', fun σ' H' ⟨m', hm, q⟩ => ⟨m', hm, q⟩, ?_⟩
    have l3 := l2.from_ f3
    refine LfS.go (sr2.next f3 h3) t3 ⟨fun S5 G5 σ5 H5 d sr5 f5 => ?_, fun w G5 v H5 d f5 => l3.rt _ _ _ _ d f5, fun S5 G5 σ5 H5 d sr5 f5 => l3.nx _ _ _ _ d sr5 f5, fun S5 G5 σ5 H5 d sr5 f5 => ?_⟩
    · obtain ⟨m', hm, q⟩ := d
      exact ⟨m', hm, S5, G5, sr5, f2.trans (f3.trans f5), q⟩
    · obtain ⟨m', hm, q⟩ := d
      exact ⟨m', hm, S5, G5, sr5, f2.trans (f3.trans f5), q⟩

/-! ### comprehensions -/
def wipeW (S : WSt) : List Nat → WSt
  | [] => S
  | v :: vs => (wipeW S vs).set v none
theorem SR.wipe {σ : L2.St} {H : Hp} {S : WSt} {G : GH} (sr : SR K Z σ H S G) : ∀ vs : List Nat, SR K Z (L2.wipe σ vs) H (wipeW S vs) G
  | [] => sr
  | v :: vs => (SR.wipe sr vs).unset
def PTsW (X : Cx) (Z : GH × Hp) (ifs : List Expr) (t : TWT) : Prop := PTs X ifs (LfT X.K Z t)
def tYesW : TWT := fun _ G R => R true G
theorem wts_nil : PTsW X Z [] tYesW := ⟨fun pins s σ H Q I h => by
  obtain ⟨S, G, R, sr, t, k⟩ := h
  exact pts_nil.run pins s σ H Q I (k _ _ _ t .refl sr.rh)⟩
theorem wts_one {c : Expr} {t : TWT} (h : WT X Z c t) : PTsW X Z [c] t := pts_one h
/-- a target within a comprehension: what it stores, in both readings -/
structure GOk (K : PySem.W.Frag) (Z : GH × Hp) (gh : TG) (g : TGW) (vs : List Nat) : Prop where
  lift : ∀ v σ H Q, LfG K Z g v σ H Q → gh v σ H Q
  keeps : ∀ v σ H Q, gh v σ H Q → gh v σ H fun σ' H' => L2.wipe σ' vs = L2.wipe σ vs ∧ Q σ' H'
theorem wipe_set {i : Nat} {x : Option V} {σ : L2.St} : ∀ {vs : List Nat}, i ∈ vs → L2.wipe (σ.set i x) vs = L2.wipe σ vs
  | [], h => by cases h
  | v :: vs, h => by
    show (L2.wipe (σ.set i x) vs).set v none = (L2.wipe σ vs).set v none
    by_cases e : i ∈ vs
    · rw [wipe_set e]
    · have ei : i = v := by
        rcases List.mem_cons.mp h with h | h
        · exact h
        · exact absurd h e
      subst ei
      have c : ∀ ws : List Nat, i ∉ ws → L2.wipe (σ.set i x) ws = (L2.wipe σ ws).set i x := by
        intro ws
        induction ws with
        | nil => intro _; rfl
        | cons u us ih =>
          intro hu
          have h1 : i ≠ u := fun q => hu (by rw [q]; exact List.mem_cons_self)
          have h2 : i ∉ us := fun q => hu (List.mem_cons_of_mem _ q)
          show (L2.wipe (σ.set i x) us).set u none = ((L2.wipe σ us).set u none).set i x
          rw [ih h2, List.set_comm _ _ h1]
      rw [c vs e, List.set_set]
theorem wipe_none {i : Nat} {σ : L2.St} : ∀ {vs : List Nat}, i ∈ vs → (L2.wipe σ vs).set i none = L2.wipe σ vs
  | [], h => by cases h
  | v :: vs, h => by
    show ((L2.wipe σ vs).set v none).set i none = (L2.wipe σ vs).set v none
    by_cases e : i = v
    · subst e; rw [List.set_set]
    · have h2 : i ∈ vs := by
        rcases List.mem_cons.mp h with h | h
        · exact absurd h e
        · exact h
      rw [List.set_comm _ _ (Ne.symm e), wipe_none h2]
theorem wipe_wipe {σ : L2.St} {us : List Nat} : ∀ vs : List Nat, (∀ v ∈ vs, v ∈ us) → L2.wipe (L2.wipe σ us) vs = L2.wipe σ us
  | [], _ => rfl
  | v :: vs, h => by
    show (L2.wipe (L2.wipe σ us) vs).set v none = _
    rw [wipe_wipe vs fun u hu => h u (List.mem_cons_of_mem _ hu), wipe_none (h v List.mem_cons_self)]
theorem gok_name {i : Nat} {vs : List Nat} (h : i ∈ vs) : GOk K Z (gName i) (gN i) vs := by
  refine ⟨fun v σ H Q h => ?_, fun v σ H Q q => ⟨wipe_set h, q⟩⟩
  obtain ⟨w, S, G, R, rv, sr, t, k⟩ := h
  exact k _ _ _ _ t (sr.set rv) .refl
structure GsOk (K : PySem.W.Frag) (Z : GH × Hp) (gh : TGs) (g : TGsW) (vs : List Nat) : Prop where
  lift : ∀ v σ H Q, LfGs K Z g v σ H Q → gh v σ H Q
  keeps : ∀ v σ H Q, gh v σ H Q → gh v σ H fun σ' H' => L2.wipe σ' vs = L2.wipe σ vs ∧ Q σ' H'
  mono : ∀ v σ H Q Q', gh v σ H Q → (∀ σ H, Q σ H → Q' σ H) → gh v σ H Q'
theorem gsok_nil {vs : List Nat} : GsOk K Z gNil gsN vs := by
  refine ⟨fun v σ H Q h => ?_, fun v σ H Q q => ⟨q.1, rfl, q.2⟩, fun v σ H Q Q' q h => ⟨q.1, h _ _ q.2⟩⟩
  obtain ⟨w, S, G, R, rv, sr, ⟨t1, t2⟩, k⟩ := h
  subst t1; cases rv
  exact ⟨rfl, k _ _ _ _ t2 sr .refl⟩
theorem gsok_cons {i : Nat} {vs : List Nat} {gh : TGs} {g : TGsW} (h : i ∈ vs) (r : GsOk K Z gh g vs) : GsOk K Z (gCons (gName i) gh) (gsC (gN i) g) vs := by
  refine ⟨fun v σ H Q h' => ?_, fun v σ H Q q => ?_, fun v σ H Q Q' q h => ?_⟩
  · obtain ⟨w, S, G, R, rv, sr, t, k⟩ := h'
    cases rv with
    | nil => exact (show False from t).elim
    | @cons v1 vs1 w1 ws1 a as =>
      refine ⟨_, _, rfl, (gok_name (K := K) (Z := Z) h).lift _ _ _ _ (LfG.go (R := fun S' G' => g ws1 S' G' R) a sr t fun S' G' σ' H' t1 sr1 f1 => r.lift _ _ _ _ ⟨_, S', G', R, as.mono f1 sr.rh, sr1, t1, fun S2 G2 σ2 H2 t2 sr2 f2 => k _ _ _ _ t2 sr2 (f1.trans f2)⟩)⟩
  · obtain ⟨x, y, e, q⟩ := q
    have q' := r.keeps _ _ _ _ q
    exact ⟨x, y, e, r.mono _ _ _ _ _ q' fun σ' H' z => ⟨z.1.trans (wipe_set h), z.2⟩⟩
  · obtain ⟨x, y, e, q⟩ := q
    exact ⟨x, y, e, r.mono _ _ _ _ _ q h⟩
theorem gok_tup {n : Nat} {vs : List Nat} {gh : TGs} {g : TGsW} (r : GsOk K Z gh g vs) : GOk K Z (gTup K n gh) (gT n g) vs := by
  refine ⟨fun v σ H Q h => ?_, fun v σ H Q q => ?_⟩
  · obtain ⟨w, S, G, R, rv, sr, t, k⟩ := h
    unfold gT at t
    split at t
    · rename_i xs e
      obtain ⟨a, vs, rfl, hq, rs⟩ := rv.tupT e
      exact ⟨a, vs, rfl, hq, by rw [rs.length]; exact t.1, r.lift _ _ _ _ ⟨xs, S, G, R, rs, sr, t.2, k⟩⟩
    · exact t.elim
  · obtain ⟨a, xs, e, h1, h2, q⟩ := q
    exact ⟨a, xs, e, h1, h2, r.keeps _ _ _ _ q⟩
/-! poking a thing that no tree names -/
mutual
theorem RV.poke {H : Hp} {p : Addr} {u x : HO} (h : H p = some u) (n : NoTup u) : ∀ {v : V} {w : W}, RV K H v w → RV K (upd H p x) v w
  | _, _, .non => .non
  | _, _, .bl b => .bl b
  | _, _, .int i => .int i
  | _, _, .str x => .str x
  | _, _, .ty n => .ty n
  | _, _, .ref a => .ref a
  | _, _, .tup q rs => .tup (by rw [upd_ne (fun e => by subst e; rw [h] at q; cases q; exact n)]; exact q) (RVs.poke h n rs)
  | _, _, .kt q rs => .kt q (RVs.poke h n rs)
  | _, _, .fl q rs => .fl (by
      rcases q with ⟨o, q⟩ | q
      · exact .inl ⟨o, by rw [upd_ne (fun e => by subst e; rw [h] at q; cases q; exact n)]; exact q⟩
      · exact .inr q) (RVs.poke h n rs)
  | _, _, .fdK q e rs => .fdK (by rw [upd_ne (fun e => by subst e; rw [h] at q; cases q; exact n)]; exact q) e (RVs.poke h n rs)
  | _, _, .fdT q e rs => .fdT (by rw [upd_ne (fun e => by subst e; rw [h] at q; cases q; exact n)]; exact q) e (RVs.poke h n rs)
  | _, _, .fo c q e rs => .fo c (by rw [upd_ne (fun e => by subst e; rw [h] at q; cases q; exact n)]; exact q) e (RVs.poke h n rs)
theorem RVs.poke {H : Hp} {p : Addr} {u x : HO} (h : H p = some u) (n : NoTup u) : ∀ {vs : List V} {ws : List W}, RVs K H vs ws → RVs K (upd H p x) vs ws
  | _, _, .nil => .nil
  | _, _, .cons q rs => .cons (RV.poke h n q) (RVs.poke h n rs)
end
theorem RKV.poke {κ : Type} {H : Hp} {p : Addr} {u x : HO} (h : H p = some u) (n : NoTup u) {kvs : List (κ × V)} {kws : List (κ × W)} (q : RKV K H kvs kws) : RKV K (upd H p x) kvs kws := Paired.mapP q fun _ _ z => ⟨z.1, RV.poke h n z.2⟩
theorem RH.poke {H : Hp} {G : GH} {p : Addr} {u x : HO} (r : RH K H G) (h : H p = some u) (n : NoTup u) (g : G p = none) : RH K (upd H p x) G := fun a o e => by
  have ne : a ≠ p := fun z => by subst z; rw [g] at e; cases e
  have q := r a o e
  cases o with
  | lst ws => obtain ⟨vs, h1, rr⟩ := q; exact ⟨vs, by rw [upd_ne ne]; exact h1, RVs.poke h n rr⟩
  | dK ws => obtain ⟨vs, h1, rr⟩ := q; exact ⟨vs, by rw [upd_ne ne]; exact h1, RKV.poke h n rr⟩
  | dT ws => obtain ⟨vs, h1, rr⟩ := q; exact ⟨vs, by rw [upd_ne ne]; exact h1, RKV.poke h n rr⟩
  | ins C fs => obtain ⟨D, dx, vs, c, h1, rr⟩ := q; exact ⟨D, dx, vs, c, by rw [upd_ne ne]; exact h1, RKV.poke h n rr⟩
  | ho z => exact ⟨by rw [upd_ne ne]; exact q.1, q.2⟩
theorem FR.poke {A G : GH} {B H : Hp} {p : Addr} {x : HO} (f : FR A B G H) (h : ∀ o, B p = some o → A p ≠ none) : FR A B G (upd H p x) := fun a o e g => by
  have ne : a ≠ p := fun z => by subst z; exact h o e g
  obtain ⟨h1, g1⟩ := f a o e g
  exact ⟨by rw [upd_ne ne]; exact h1, g1⟩
theorem SR.poke {σ : L2.St} {H : Hp} {S : WSt} {G : GH} {p : Addr} {u x : HO} (sr : SR K Z σ H S G) (h : H p = some u) (n : NoTup u) (g : G p = none) (hz : ∀ o, Z.2 p = some o → Z.1 p ≠ none) : SR K Z σ (upd H p x) S G :=
  ⟨sr.tk.poke hz, Paired.mapP sr.rs fun ov ow f w e => let ⟨v, h1, h2⟩ := f w e; ⟨v, h1, RV.poke h n h2⟩, sr.rh.poke h n g⟩
def compW (Gd : GH → Prop) (g : TGW) (tt : TWT) (te : TW) (S0 : WSt) (R : List W → GH → Prop) : List W → GH → List W → Prop
  | [], G, acc => Gd G ∧ R acc G
  | x :: xs, G, acc => Gd G ∧ g x S0 G fun S2 G2 => tt S2 G2 fun b G3 => if b = true then te S2 G3 fun w G4 => acc.length < sizeLine ∧ compW Gd g tt te S0 R xs G4 (acc ++ [w]) else compW Gd g tt te S0 R xs G3 acc
/-- what comes of [elt for ..]: the items -/
def tCompI (ti : TIW) (g : TGW) (tt : TWT) (te : TW) (vs : List Nat) : TWA := fun S G R => ti S G fun items Gd G1 => compW Gd g tt te (wipeW S vs) R items G1 []
theorem comp_core {ti : TIW} {gh : TG} {g : TGW} {tt : TWT} {te : TW} {vs : List Nat} (gok : GOk K Z gh g vs) {σ : L2.St} {H : Hp} {Q : VK} {S : WSt} {G : GH} {R : List W → GH → Prop} (sr : SR K Z σ H S G) (t : tCompI ti g tt te vs S G R)
    (k : ∀ ws G' D H' us, R ws G' → FR G H G' H' → H' D = some (.lst us) → RVs K H' us ws → RH K H' G' → G' D = none → (∀ o, H D = some o → G D ≠ none) → Q (.ref D) H') :
    tLc (LfI K Z ti) gh (LfT K Z tt) (Lf K Z te) vs σ H Q := by
  refine ⟨S, G, _, sr, t, fun items Gd G1 J H1 t1 f1 h1 wi D hD => ?_⟩
  have hz : ∀ o, Z.2 D = some o → Z.1 D ≠ none := fun o e g => by
    have := ((sr.next f1 h1).tk D o e g).1
    rw [hD] at this; cases this
  have hz2 : ∀ o, H D = some o → G D ≠ none := fun o e g => by
    have := (f1 D o e g).1
    rw [hD] at this; cases this
  have gD : G1 D = none := h1.free hD
  refine ⟨fun i m H' => m = items.length - i ∧ i ≤ items.length ∧ ∃ G' acc us, H' D = some (.lst us) ∧ RVs K H' us acc ∧ G' D = none ∧ SR K Z (L2.wipe σ vs) H' (wipeW S vs) G' ∧ FR G1 H1 G' H' ∧ compW Gd g tt te (wipeW S vs) R (items.drop i) G' acc,
    ⟨items.length, by simp, Nat.zero_le _, G1, [], [], upd_same, .nil, gD, ((sr.next f1 h1).next (.new hD) (h1.new hD)).wipe vs, .new hD, t1⟩, ?_⟩
  rintro i m H2 ⟨rfl, hi, G2, acc, us, hd, rs, g2, sr2, f2, t2⟩
  by_cases hlt : i < items.length
  · rw [List.drop_eq_getElem_cons hlt] at t2
    obtain ⟨gd, t2⟩ := t2
    refine .inr ⟨wi.go i G2 H2 f2 sr2.rh gd hlt, fun H' => ∃ G' acc us, H' D = some (.lst us) ∧ RVs K H' us acc ∧ G' D = none ∧ SR K Z (L2.wipe σ vs) H' (wipeW S vs) G' ∧ FR G1 H1 G' H' ∧ compW Gd g tt te (wipeW S vs) R (items.drop (i + 1)) G' acc, ?_, fun x H3 y => ?_⟩
    · rintro H' ⟨G', acc', us', q⟩
      exact ⟨items.length - (i + 1), by omega, rfl, hlt, G', acc', us', q⟩
    · obtain ⟨f3, r3, h3⟩ := wi.yld i G2 H2 x H3 items[i] f2 sr2.rh gd (by simp [hlt]) y
      have sr3 := sr2.next f3 h3
      have kp := fun Q' => gok.keeps x (L2.wipe σ vs) H3 Q'
      simp only [wipe_wipe vs fun _ h => h] at kp
      refine kp _ (gok.lift _ _ _ _ (LfG.go r3 sr3 t2 fun S4 G4 σ4 H4 t4 sr4 f4 => ?_))
      refine LfT.go sr4 t4 fun b G5 H5 t5 f5 h5 => ?_
      have f25 : FR G2 H2 G5 H5 := f3.trans (f4.trans f5)
      have d5 := f25 D _ hd g2
      cases b with
      | false =>
        refine iteF ⟨G5, acc, us, d5.1, rs.mono f25 sr2.rh, d5.2, sr2.next f25 h5, f2.trans f25, t5⟩
      | true =>
        refine iteT (Lf.go (sr4.next f5 h5) t5 fun w G6 v H6 t6 f6 r6 h6 => ?_)
        have f26 := f25.trans f6
        have d6 := f26 D _ hd g2
        refine ⟨us, d6.1, by rw [rs.length]; exact t6.1, G6, acc ++ [w], us ++ [v], upd_same, ?_, d6.2, (sr2.next f26 h6).poke d6.1 trivial d6.2 hz, (f2.trans f26).poke (fun o e => by rw [hD] at e; cases e), t6.2⟩
        exact RVs.append (RVs.poke d6.1 trivial (rs.mono f26 sr2.rh)) (.cons (RV.poke d6.1 trivial r6) .nil)
  · have e : i = items.length := by omega
    subst e
    rw [List.drop_length] at t2
    exact .inl ⟨wi.stop G2 H2 f2 sr2.rh t2.1, k _ _ D H2 us t2.2 (f1.trans f2) hd rs sr2.rh g2 hz2⟩
def tComp (ti : TIW) (g : TGW) (tt : TWT) (te : TW) (vs : List Nat) : TW := fun S G R => tCompI ti g tt te vs S G fun ws G1 => ∀ D, G1 D = none → R (.ref D) (updG G1 D (.lst ws))
theorem lfComp {ti : TIW} {gh : TG} {g : TGW} {tt : TWT} {te : TW} {vs : List Nat} (gok : GOk K Z gh g vs) (σ : L2.St) (H : Hp) (Q : VK) (h : Lf K Z (tComp ti g tt te vs) σ H Q) : tLc (LfI K Z ti) gh (LfT K Z tt) (Lf K Z te) vs σ H Q := by
  obtain ⟨S, G, R, sr, t, k⟩ := h
  refine comp_core gok sr t fun ws G' D H' us r f hd rs rh gd hz => k _ _ _ _ (r D gd) (fun a o e g => ?_) (.ref D) (fun a o e => ?_)
  · have ne : a ≠ D := fun z => by subst z; exact hz o e g
    obtain ⟨h1, g1⟩ := f a o e g
    exact ⟨h1, by rw [updG_ne ne]; exact g1⟩
  · by_cases z : a = D
    · subst z; rw [updG_same] at e; cases e; exact ⟨us, hd, rs⟩
    · rw [updG_ne z] at e; exact rh a o e
theorem we_comp {elt tg iter : Expr} {ifs : List Expr} {scope : Scope} {own : List (Str × Nat)} {ti : TIW} {gh : TG} {g : TGW} {tt : TWT} {te : TW} (hc : X.calm = true) (hN : X.N.Nodup) (hi : WI X Z tg iter ti) (ok : BlkOk X.N X.env.scope scope own)
    (gok : GOk X.K Z gh g (own.map (·.2)))
    (hg : ∀ (s : Shared) (H : Hp) (C : Addr) (cl : List (Str × Addr)) (fp : List Addr), PG (X.blk s H scope (compEnvC scope cl C X.env) fp) tg gh) (ht : ∀ (s : Shared) (H : Hp) (C : Addr) (cl : List (Str × Addr)) (fp : List Addr), PTsW (X.blk s H scope (compEnvC scope cl C X.env) fp) Z ifs tt)
    (he : ∀ (s : Shared) (H : Hp) (C : Addr) (cl : List (Str × Addr)) (fp : List Addr), WE (X.blk s H scope (compEnvC scope cl C X.env) fp) Z elt te) (hs : ∀ x, foldedSetIterable iter X.env x = pure x := by intro _; rfl) :
    WE X Z (.ListComp elt [⟨tg, iter, ifs, 0⟩] scope pos) (tComp ti g tt te (own.map (·.2))) := (pe_lc (tt := LfT X.K Z tt) (te := Lf X.K Z te) hc hN hi ok hg ht he hs).weak (lfComp gok)
/-- name = [..] on one line -/
theorem ws_setC {i : Nat} {y : Str} {py : Pos} {elt tg iter : Expr} {ifs : List Expr} {scope : Scope} {own : List (Str × Nat)} {spos : Pos} {ti : TIW} {gh : TG} {g : TGW} {tt : TWT} {te : TW} (hc : X.calm = true) (hN : X.N.Nodup) (hy : X.N[i]? = some y) (hyl : X.env.scope.names.lookup y = some .local)
    (hsw : swapsWith (.ListComp elt [⟨tg, iter, ifs, 0⟩] scope pos) (some (.Name y py)) spos.line X.env = pure true) (hi : WI X Z tg iter ti) (ok : BlkOk X.N X.env.scope scope own)
    (gok : GOk X.K Z gh g (own.map (·.2)))
    (hg : ∀ (s : Shared) (H : Hp) (C : Addr) (cl : List (Str × Addr)) (fp : List Addr), PG (X.blk s H scope (compEnvC scope cl C X.env) fp) tg gh) (ht : ∀ (s : Shared) (H : Hp) (C : Addr) (cl : List (Str × Addr)) (fp : List Addr), PTsW (X.blk s H scope (compEnvC scope cl C X.env) fp) Z ifs tt)
    (he : ∀ (s : Shared) (H : Hp) (C : Addr) (cl : List (Str × Addr)) (fp : List Addr), WE (X.blk s H scope (compEnvC scope cl C X.env) fp) Z elt te) (hs : ∀ x, foldedSetIterable iter X.env x = pure x := by intro _; rfl) :
    WS X Z (.Assign [.Name y py] (.ListComp elt [⟨tg, iter, ifs, 0⟩] scope pos) spos) (sSet i (tComp ti g tt te (own.map (·.2)))) := (ps_setLc (tt := LfT X.K Z tt) (te := Lf X.K Z te) hc hN hy hyl hsw hi ok hg ht he hs).weak fun D σ H h => by
  obtain ⟨S, G, DW, sr, t, l⟩ := h
  refine lfComp gok σ H _ (Lf.go sr t fun w G1 v H1 t1 f1 r1 h1 => ?_)
  exact l.nx _ _ _ _ t1 ((sr.next f1 h1).set r1) f1
/-! a built-in called with a list that is made there: the list is forgotten -/
abbrev CF := List W → GH → KW → Prop
def tmpR (K : PySem.W.Frag) (f : CF) : List V → Hp → VK → Prop := fun vs H Q => ∃ D us ws G R, vs = [.ref D] ∧ H D = some (.lst us) ∧ RVs K H us ws ∧ RH K H G ∧ G D = none ∧ f ws G R ∧ LK K G H R Q
def tCF (f : CF) (T : TWA) : TW := fun S G R => T S G fun ws G1 => f ws G1 R
theorem lfTmp {ti : TIW} {gh : TG} {g : TGW} {tt : TWT} {te : TW} {vs : List Nat} {f : CF} (gok : GOk K Z gh g vs) (σ : L2.St) (H : Hp) (Q : VK) (h : Lf K Z (tCF f (tCompI ti g tt te vs)) σ H Q) : tCB (tmpR K f) (tCons (tLc (LfI K Z ti) gh (LfT K Z tt) (Lf K Z te) vs) tNil) σ H Q := by
  obtain ⟨S, G, R, sr, t, k⟩ := h
  show tLc (LfI K Z ti) gh (LfT K Z tt) (Lf K Z te) vs σ H fun x H1 => tmpR K f [x] H1 Q
  exact comp_core gok sr t fun ws G' D H' us r f hd rs rh gd hz => ⟨D, us, ws, G', R, rfl, hd, rs, rh, gd, r, fun w G2 v H2 q f2 rv rh2 => k w G2 v H2 q (f.trans f2) rv rh2⟩
theorem we_cbC {x : Str} {p : Pos} {bid : String} {f : CF} {elt tg iter : Expr} {ifs : List Expr} {scope : Scope} {own : List (Str × Nat)} {cpos : Pos} {ti : TIW} {gh : TG} {g : TGW} {tt : TWT} {te : TW}
    (hcall : CallR X (.builtin bid) (tmpR X.K f)) (hgl : Gl X x) (hm : X.mg x = none) (hv : bootBuiltins x = some (.builtin bid))
    (hc : X.calm = true) (hN : X.N.Nodup) (hi : WI X Z tg iter ti) (ok : BlkOk X.N X.env.scope scope own) (gok : GOk X.K Z gh g (own.map (·.2)))
    (hg : ∀ (s : Shared) (H : Hp) (C : Addr) (cl : List (Str × Addr)) (fp : List Addr), PG (X.blk s H scope (compEnvC scope cl C X.env) fp) tg gh) (ht : ∀ (s : Shared) (H : Hp) (C : Addr) (cl : List (Str × Addr)) (fp : List Addr), PTsW (X.blk s H scope (compEnvC scope cl C X.env) fp) Z ifs tt)
    (he : ∀ (s : Shared) (H : Hp) (C : Addr) (cl : List (Str × Addr)) (fp : List Addr), WE (X.blk s H scope (compEnvC scope cl C X.env) fp) Z elt te) (hs : ∀ x, foldedSetIterable iter X.env x = pure x := by intro _; rfl)
    (hn : x ≠ "__name__" := by decide) (hdb : (x == ("__debug__" : Str)) = false := by decide)
    (he2 : starEach [.ListComp elt [⟨tg, iter, ifs, 0⟩] scope cpos] X.env = (false, eval (.ListComp elt [⟨tg, iter, ifs, 0⟩] scope cpos) X.env) :: starEach [] X.env := by rfl) (hpl : (backTo pos (starEach [] X.env)).any (·.1) = false := by rfl) :
    WE X Z (.Call (.Name x p) [.ListComp elt [⟨tg, iter, ifs, 0⟩] scope cpos] [] pos) (tCF f (tCompI ti g tt te (own.map (·.2)))) :=
  (pe_callB hcall hgl hm hv (pa_cons (pe_lc (tt := LfT X.K Z tt) (te := Lf X.K Z te) hc hN hi ok hg ht he hs) pa_nil he2) hn hdb he2 hpl).weak (lfTmp gok)
theorem we_ctC {x : Str} {p : Pos} {T : String} {f : CF} {elt tg iter : Expr} {ifs : List Expr} {scope : Scope} {own : List (Str × Nat)} {cpos : Pos} {ti : TIW} {gh : TG} {g : TGW} {tt : TWT} {te : TW}
    (hcall : CallR X (.type T) (tmpR X.K f)) (hgl : Gl X x) (hm : X.mg x = none) (hv : bootBuiltins x = some (.type T))
    (hc : X.calm = true) (hN : X.N.Nodup) (hi : WI X Z tg iter ti) (ok : BlkOk X.N X.env.scope scope own) (gok : GOk X.K Z gh g (own.map (·.2)))
    (hg : ∀ (s : Shared) (H : Hp) (C : Addr) (cl : List (Str × Addr)) (fp : List Addr), PG (X.blk s H scope (compEnvC scope cl C X.env) fp) tg gh) (ht : ∀ (s : Shared) (H : Hp) (C : Addr) (cl : List (Str × Addr)) (fp : List Addr), PTsW (X.blk s H scope (compEnvC scope cl C X.env) fp) Z ifs tt)
    (he : ∀ (s : Shared) (H : Hp) (C : Addr) (cl : List (Str × Addr)) (fp : List Addr), WE (X.blk s H scope (compEnvC scope cl C X.env) fp) Z elt te) (hs : ∀ x, foldedSetIterable iter X.env x = pure x := by intro _; rfl)
    (hn : x ≠ "__name__" := by decide) (hdb : (x == ("__debug__" : Str)) = false := by decide)
    (he2 : starEach [.ListComp elt [⟨tg, iter, ifs, 0⟩] scope cpos] X.env = (false, eval (.ListComp elt [⟨tg, iter, ifs, 0⟩] scope cpos) X.env) :: starEach [] X.env := by rfl) (hpl : (backTo pos (starEach [] X.env)).any (·.1) = false := by rfl) :
    WE X Z (.Call (.Name x p) [.ListComp elt [⟨tg, iter, ifs, 0⟩] scope cpos] [] pos) (tCF f (tCompI ti g tt te (own.map (·.2)))) :=
  (pe_callTy hcall hgl hm hv (pa_cons (pe_lc (tt := LfT X.K Z tt) (te := Lf X.K Z te) hc hN hi ok hg ht he hs) pa_nil he2) hn hdb he2 hpl).weak (lfTmp gok)
def fBols (f : List Bool → Bool) : CF := fun ws G R => match blsOf ws with
  | some bs => R (.bl (f bs)) G
  | none => False
theorem tmp_all (hc : X.calm = true) : CallR X (.builtin "all") (tmpR X.K (fBols fun bs => bs.all fun b => b)) := by
  intro pins s σ H xs us Q I r h
  obtain ⟨D, vs, ws, G, R, rfl, hd, rs, rh, gd, t, k⟩ := h
  unfold fBols at t
  split at t
  · rename_i bs eb
    have e2 := bls_of eb
    subst e2
    have e3 := rs.bls
    subst e3
    exact cr_all hc pins s σ H _ us Q I r ⟨_, bs, rfl, SqL.of hd, k.here t (.bl _) rh⟩
  · exact t.elim
theorem tmp_any (hc : X.calm = true) : CallR X (.builtin "any") (tmpR X.K (fBols fun bs => bs.any fun b => b)) := by
  intro pins s σ H xs us Q I r h
  obtain ⟨D, vs, ws, G, R, rfl, hd, rs, rh, gd, t, k⟩ := h
  unfold fBols at t
  split at t
  · rename_i bs eb
    have e2 := bls_of eb
    subst e2
    have e3 := rs.bls
    subst e3
    exact cr_any hc pins s σ H _ us Q I r ⟨_, bs, rfl, SqL.of hd, k.here t (.bl _) rh⟩
  · exact t.elim
def fTup : CF := fun ws G R => R (.tup ws) G
theorem tmp_tuple : CallR X (.type "tuple") (tmpR X.K fTup) := by
  intro pins s σ H xs us Q I r h
  obtain ⟨D, vs, ws, G, R, rfl, hd, rs, rh, gd, t, k⟩ := h
  exact call_tuple_of pins s σ H _ us Q I r ⟨_, _, rfl, .inl ⟨SqL.of hd, fun l hl => k _ _ _ _ t (.new hl) (.tup upd_same (rs.mono (.new hl) rh)) (rh.new hl)⟩⟩
def fLen : CF := fun ws G R => R (.int ws.length) G
theorem tmp_len : CallR X (.builtin "len") (tmpR X.K fLen) := by
  intro pins s σ H xs us Q I r h
  obtain ⟨D, vs, ws, G, R, rfl, hd, rs, rh, gd, t, k⟩ := h
  exact call_len pins s σ H _ us Q I r ⟨_, _, rfl, .inl ⟨_, SqL.of hd, rfl⟩, by rw [rs.length]; exact k.here t (.int _) rh⟩
end
end WL
set_option Elab.async false
set_option linter.all false
set_option maxRecDepth 100000
set_option maxHeartbeats 4000000
/-! WL, part f: defs, their promises and calls; fields; slices; methods of lists and texts. -/
namespace WL
open PySem PySem.Spec PyProof.Rows L2

/-! ### promises -/
/-- what is wanted of an exception: its class, its fields (none: it has none), the heap -/
abbrev XW := Value → Option (List (Str × W)) → GH → Prop
abbrev SpW := List W → GH → KW → XW → Prop
def XD (K : PySem.W.Frag) (H : Hp) : Option (List (Str × W)) → Option Addr → Prop
  | none, none => True
  | some fs, some d => ∃ fvs, H d = some (.xd fvs) ∧ RKV K H fvs fs
  | _, _ => False
def XL (K : PySem.W.Frag) (G : GH) (H : Hp) (RX : XW) (E : XK) : Prop := ∀ c fs G' od H', RX c fs G' → FR G H G' H' → RH K H' G' → XD K H' fs od → E c od H'
def spL (K : PySem.W.Frag) (P : SpW) : Sp := fun vs H Q E => ∃ ws G R RX, RVs K H vs ws ∧ RH K H G ∧ P ws G R RX ∧ LK K G H R Q ∧ XL K G H RX E
def XF : XW := fun _ _ _ => False
theorem XL.no {K : PySem.W.Frag} {G : GH} {H : Hp} {E : XK} : XL K G H XF E := fun _ _ _ _ _ h => h.elim
theorem XL.from_ {K : PySem.W.Frag} {G G1 : GH} {H H1 : Hp} {RX : XW} {E : XK} (x : XL K G H RX E) (f : FR G H G1 H1) : XL K G1 H1 RX E := fun c fs G' od H' h f1 => x c fs G' od H' h (f.trans f1)
section
variable {X : Cx} {Z : GH × Hp} {a b c e o : Expr} {Ta Tb : TW} {pos p apos : Pos} {K : PySem.W.Frag} {es : List Expr} {Tr : TWA} {CX : CXT} {k : Nat} {f C : Addr} {fd : FuncData} {ps : List Str} {P : SpW} {x m : Str} {dvs : List V} {ds : List Value} {dws : List W}
/-- a call that raises nothing -/
def tCall0 (P : SpW) (dws : List W) (Tr : TWA) : TW := fun S G R => Tr S G fun ws G1 => P (ws ++ dws) G1 R XF
theorem lfCall {E : XK} (hdw : ∀ H, RVs K H dvs dws) (σ : L2.St) (H : Hp) (Q : VK) (h : Lf K Z (tCall0 P dws Tr) σ H Q) : tCall (spL K P) dvs E (LfA K Z Tr) σ H Q := by
  obtain ⟨S, G, R, sr, t, k⟩ := h
  refine LfA.go sr t fun ws G1 vs H1 t1 f1 rs h1 => ?_
  exact ⟨ws ++ dws, G1, R, XF, rs.append (hdw H1), h1, t1, fun w G' v H' q f2 rv rh => k w G' v H' q (f1.trans f2) rv rh, .no⟩
theorem we_call (F : FnOk X.prog X.w X.K X.mg X.base CX k f fd ps (spL X.K P)) (hr : Room k X.A) (hg : Gl X x) (hm : X.mg x = some (.ref f)) (hk : PySem.W.keepIn X.K (.ref f) = true) (hb : Binds X.K fd ps []) (hx : Passes CX X E0)
    (ha : WA X Z (e :: es) Tr) (hdb : (x == ("__debug__" : Str)) = false := by decide) (he : starEach (e :: es) X.env = (false, eval e X.env) :: starEach es X.env := by rfl) (hpl : (backTo pos (starEach es X.env)).any (·.1) = false := by rfl) :
    WE X Z (.Call (.Name x p) (e :: es) [] pos) (tCall0 P [] Tr) := (pe_call (dvs := []) F hr hg hm hk hb .nil hx ha hdb he hpl).weak (lfCall fun _ => .nil)
theorem we_callD (F : FnOk X.prog X.w X.K X.mg X.base CX k f fd ps (spL X.K P)) (hr : Room k X.A) (hg : Gl X x) (hm : X.mg x = some (.ref f)) (hk : PySem.W.keepIn X.K (.ref f) = true) (hb : Binds X.K fd ps ds) (hd : Vals dvs ds) (hdw : ∀ H, RVs X.K H dvs dws) (hx : Passes CX X E0)
    (ha : WA X Z (e :: es) Tr) (hdb : (x == ("__debug__" : Str)) = false := by decide) (he : starEach (e :: es) X.env = (false, eval e X.env) :: starEach es X.env := by rfl) (hpl : (backTo pos (starEach es X.env)).any (·.1) = false := by rfl) :
    WE X Z (.Call (.Name x p) (e :: es) [] pos) (tCall0 P dws Tr) := (pe_call F hr hg hm hk hb hd hx ha hdb he hpl).weak (lfCall hdw)
/-! ### instances -/
theorem RKV.lookup {K : PySem.W.Frag} {H : Hp} (f : Str) : ∀ {kvs : List (Str × V)} {kws : List (Str × W)}, RKV K H kvs kws → (kws.lookup f = none ∧ kvs.lookup f = none) ∨ ∃ v w, kvs.lookup f = some v ∧ kws.lookup f = some w ∧ RV K H v w
  | _, _, .nil => .inl ⟨rfl, rfl⟩
  | (a, v) :: kvs, (b, w) :: kws, .cons ⟨e, r⟩ t => by
    have e' : a = b := e
    subst e'
    by_cases h : f = a
    · have hb : (f == a) = true := beq_iff_eq.mpr h
      exact .inr ⟨v, w, by simp [List.lookup, hb], by simp [List.lookup, hb], r⟩
    · have hb : (f == a) = false := beq_eq_false_iff_ne.mpr h
      rcases RKV.lookup f t with ⟨h1, h2⟩ | ⟨v', w', h1, h2, h3⟩
      · exact .inl ⟨by simpa [List.lookup, hb] using h1, by simpa [List.lookup, hb] using h2⟩
      · exact .inr ⟨v', w', by simpa [List.lookup, hb] using h1, by simpa [List.lookup, hb] using h2, h3⟩
def putFW (f : Str) (v : W) : List (Str × W) → List (Str × W)
  | [] => [(f, v)]
  | (g, x) :: r => if g = f then (g, v) :: r else (g, x) :: putFW f v r
theorem RKV.putF {K : PySem.W.Frag} {H : Hp} {f : Str} {v : V} {w : W} (r : RV K H v w) : ∀ {kvs : List (Str × V)} {kws : List (Str × W)}, RKV K H kvs kws → RKV K H (L2.putF f v kvs) (putFW f w kws)
  | _, _, .nil => .cons ⟨rfl, r⟩ .nil
  | (a, x) :: kvs, (b, y) :: kws, .cons ⟨e, q⟩ t => by
    have e' : a = b := e
    subst e'
    show RKV K H (if a = f then (a, v) :: kvs else (a, x) :: L2.putF f v kvs) (if a = f then (a, w) :: kws else (a, y) :: putFW f w kws)
    by_cases h : a = f
    · rw [if_pos h, if_pos h]; exact .cons ⟨rfl, r⟩ t
    · rw [if_neg h, if_neg h]; exact .cons ⟨rfl, q⟩ (RKV.putF r t)
/-! ### slices -/
abbrev TOW := WSt → GH → (Option Int → GH → Prop) → Prop
def LfO (K : PySem.W.Frag) (Z : GH × Hp) (T : TOW) : TO := fun σ H Q => ∃ S G R, SR K Z σ H S G ∧ T S G R ∧ ∀ i G' H', R i G' → FR G H G' H' → RH K H' G' → Q i H'
def WO (X : Cx) (Z : GH × Hp) (e : Option Expr) (T : TOW) : Prop := PO X e (LfO X.K Z T)
def tNoP : TOW := fun _ G R => R none G
def tP (Ta : TW) : TOW := fun S G R => Ta S G fun w G1 => match w with
  | .int i => R (some i) G1
  | _ => False
theorem wo_none : WO X Z none tNoP := ⟨fun pins s σ H Q I h => by
  obtain ⟨S, G, R, sr, t, k⟩ := h
  exact po_none.run pins s σ H Q I (k _ _ _ t .refl sr.rh)⟩
theorem wo_some (h : WE X Z e Ta) : WO X Z (some e) (tP Ta) := ⟨fun pins s σ H Q I h' => by
  obtain ⟨S, G, R, sr, t, k⟩ := h'
  refine (po_some h).run pins s σ H Q I (Lf.go sr t fun w G1 v H1 t1 f1 r1 h1 => ?_)
  split at t1
  · rename_i i
    cases r1
    exact ⟨i, rfl, k _ _ _ t1 f1 h1⟩
  · exact t1.elim⟩
def cutG (xs : List W) (lo hi : Option Int) : List W := (xs.drop (HT.sIx xs.length 0 lo)).take (HT.sIx xs.length xs.length hi - HT.sIx xs.length 0 lo)
theorem RVs.cut {K : PySem.W.Frag} {H : Hp} {vs : List V} {ws : List W} (r : RVs K H vs ws) (lo hi : Option Int) : RVs K H (cutV vs lo hi) (cutG ws lo hi) := by
  unfold cutV cutG
  rw [r.length]
  exact (r.drop _).take _
def slW (lo hi : Option Int) (w : W) (G : GH) (R : KW) : Prop := match w with
  | .tup xs => R (.tup (cutG xs lo hi)) G
  | .fl xs => ∀ p, G p = none → R (.ref p) (updG G p (.lst (cutG xs lo hi)))
  | .str z => z.length ≤ sizeLine ∧ R (.str (cutS z lo hi)) G
  | .ref q => match G q with
    | some (.lst xs) => ∀ p, G p = none → R (.ref p) (updG G p (.lst (cutG xs lo hi)))
    | _ => False
  | _ => False
def tSlW (To Tl Th : TOW → TOW) : Unit := ()
def tSliceW (Ta : TW) (Tl Th : TOW) : TW := fun S G R => Ta S G fun w G1 => Tl S G1 fun lo G2 => Th S G2 fun hi G3 => slW lo hi w G3 R
def l4 (K : PySem.W.Frag) : V → Option Int → Option Int → Hp → VK → Prop := fun x lo hi H Q => ∃ w G R, RV K H x w ∧ RH K H G ∧ slW lo hi w G R ∧ LK K G H R Q
theorem cut_whole {xs : List W} {lo hi : Option Int} (h : HT.sIx xs.length 0 lo = 0 ∧ HT.sIx xs.length xs.length hi = xs.length) : cutG xs lo hi = xs := by
  unfold cutG
  rw [h.1, h.2]; simp
theorem sl_W : SlR X (l4 X.K) := by
  intro pins s σ H x v vl vu lo hi sl Q I rx hs pl pu h
  obtain ⟨w, G, R, rv, rh, t, k⟩ := h
  cases w with
  | tup xs =>
    cases rv with
    | @tup a vs _ q rs =>
      refine sl_tupA pins s σ H _ v vl vu lo hi sl Q I rx hs pl pu ⟨_, _, rfl, SqT.of q, fun hw => ?_, fun hw p hp => ?_⟩
      · rw [rs.length] at hw
        exact k.here (w := .tup (cutG xs lo hi)) t (by rw [cut_whole hw]; exact .tup q rs) rh
      · exact k _ _ _ _ t (.new hp) (.tup upd_same ((rs.cut lo hi).mono (.new hp) rh)) (rh.new hp)
  | fl xs =>
    cases rv with
    | fl q rs => exact sl_list pins s σ H _ v vl vu lo hi sl Q I rx hs pl pu ⟨_, _, rfl, q.seq, fun p hp => k _ _ _ _ (t p (rh.free hp)) (.newG hp) (.ref p) (rh.newG hp ⟨_, upd_same, (rs.cut lo hi).mono (.new hp) rh⟩)⟩
  | str z =>
    cases rv
    exact sl_str pins s σ H _ v vl vu lo hi sl Q I rx hs pl pu ⟨z, rfl, t.1, k.here t.2 (.str _) rh⟩
  | ref q =>
    cases rv
    unfold slW at t
    dsimp only at t
    split at t
    · rename_i xs e
      obtain ⟨vs, h1, rs⟩ := rh _ _ e
      exact sl_list pins s σ H _ v vl vu lo hi sl Q I rx hs pl pu ⟨_, _, rfl, SqL.of h1, fun p hp => k _ _ _ _ (t p (rh.free hp)) (.newG hp) (.ref p) (rh.newG hp ⟨_, upd_same, (rs.cut lo hi).mono (.new hp) rh⟩)⟩
    · exact t.elim
  | _ => exact (show False from t).elim
theorem we_slice {lo hi : Option Expr} {Tl Th : TOW} {p2 : Pos} (he : WE X Z e Ta) (hl : WO X Z lo Tl) (hu : WO X Z hi Th) : WE X Z (.Subscript e (.Slice lo hi none p2) pos) (tSliceW Ta Tl Th) := (pe_slice sl_W he hl hu).weak fun σ H Q h => by
  obtain ⟨S, G, R, sr, t, k⟩ := h
  refine Lf.go sr t fun w G1 v H1 t1 f1 r1 h1 => ?_
  refine ⟨S, G1, _, sr.next f1 h1, t1, fun i G2 H2 t2 f2 h2 => ?_⟩
  refine ⟨S, G2, _, (sr.next f1 h1).next f2 h2, t2, fun j G3 H3 t3 f3 h3 => ?_⟩
  exact ⟨w, G3, R, (r1.mono f2 h1).mono f3 h2, h3, t3, fun w G' v H' q f rv rh => k w G' v H' q (f1.trans (f2.trans (f3.trans f))) rv rh⟩

/-! ### methods of lists -/
abbrev MW := W → List W → GH → KW → Prop
def lM (K : PySem.W.Frag) (r : MW) : V → List V → Hp → VK → Prop := fun x xs H Q => ∃ w ws G R, RV K H x w ∧ RVs K H xs ws ∧ RH K H G ∧ r w ws G R ∧ LK K G H R Q
def MetW (X : Cx) (bid : String) (r : MW) : Prop := MtR X bid (lM X.K r)
/-- the receiver is a list, or a text -/
def recL (w : W) (G : GH) : Prop := match w with
  | .ref p => match G p with
    | some (.lst _) => True
    | _ => False
  | .fl _ => True
  | _ => False
def tMetL (r : MW) (Ta : TW) (Tr : TWA) : TW := fun S G R => Ta S G fun w G1 => recL w G1 ∧ Tr S G1 fun ws G2 => r w ws G2 R
theorem recL_ty {K : PySem.W.Frag} {H : Hp} {G : GH} {w : W} {v : V} (t : recL w G) (rv : RV K H v w) (rh : RH K H G) : tyV K "list" v H := by
  cases w with
  | ref p =>
    cases rv
    unfold recL at t
    dsimp only at t
    split at t
    · rename_i xs e
      obtain ⟨vs, h1, _⟩ := rh _ _ e
      exact .inl ⟨rfl, _, SqL.of h1⟩
    · exact t.elim
  | fl xs =>
    cases rv with
    | fl q rs => exact .inl ⟨rfl, _, q.seq⟩
  | _ => exact t.elim
theorem we_mL {name : Str} {r : MW} {cpos : Pos} {args : List Expr} (h : PE X (.Call (.Attribute o name apos) args [] cpos) (tBM X.K "list" (lM X.K r) (Lf X.K Z Ta) (LfA X.K Z Tr))) : WE X Z (.Call (.Attribute o name apos) args [] cpos) (tMetL r Ta Tr) := h.weak fun σ H Q h => by
  obtain ⟨S, G, R, sr, t, k⟩ := h
  refine Lf.go sr t fun w G1 v H1 t1 f1 r1 h1 => ⟨recL_ty t1.1 r1 h1, ?_⟩
  refine LfA.go (sr.next f1 h1) t1.2 fun ws G2 vs H2 t2 f2 rs h2 => ?_
  exact ⟨w, ws, G2, R, r1.mono f2 h1, rs, h2, t2, fun w G' v H' q f rv rh => k w G' v H' q (f1.trans (f2.trans f)) rv rh⟩
theorem we_mL0 {name : Str} {r : MW} {cpos : Pos} (h : PE X (.Call (.Attribute o name apos) [] [] cpos) (tBM0 X.K "list" (lM X.K r) (Lf X.K Z Ta))) : WE X Z (.Call (.Attribute o name apos) [] [] cpos) (tMetL r Ta tN) := h.weak fun σ H Q h => by
  obtain ⟨S, G, R, sr, t, k⟩ := h
  refine Lf.go sr t fun w G1 v H1 t1 f1 r1 h1 => ⟨recL_ty t1.1 r1 h1, ?_⟩
  exact ⟨w, [], G1, R, r1, .nil, h1, t1.2, fun w G' v H' q f rv rh => k w G' v H' q (f1.trans f) rv rh⟩
def appendW : MW := fun w ws G R => match w, ws with
  | .ref p, [y] => match G p with
    | some (.lst xs) => xs.length < sizeLine ∧ R .non (updG G p (.lst (xs ++ [y])))
    | _ => False
  | _, _ => False
theorem mt_appendW : MetW X "list.append" appendW := by
  intro pins s σ H x xs v us Q I rx rs h
  obtain ⟨w, ws, G, R, r1, r2, rh, t, k⟩ := h
  unfold appendW at t
  split at t
  · rename_i p y
    cases r1
    obtain ⟨z, rfl, rz⟩ := r2.one
    split at t
    · rename_i ys e
      obtain ⟨vs, h1, rv⟩ := rh _ _ e
      exact mt_append pins s σ H _ _ v us Q I rx rs ⟨p, vs, z, rfl, rfl, h1, by rw [rv.length]; exact t.1, k _ _ _ _ t.2 (.put e) .non (rh.put e ⟨_, upd_same, (rv.append (.cons rz .nil)).mono (FR.put (o := .lst []) e) rh⟩)⟩
    · exact t.elim
  · exact t.elim
def extendW : MW := fun w ws G R => match w, ws with
  | .ref p, [.ref q] => match G p, G q with
    | some (.lst xs), some (.lst ys) => xs.length + ys.length ≤ sizeLine ∧ R .non (updG G p (.lst (xs ++ ys)))
    | _, _ => False
  | _, _ => False
theorem mt_extendW : MetW X "list.extend" extendW := by
  intro pins s σ H x xs v us Q I rx rs h
  obtain ⟨w, ws, G, R, r1, r2, rh, t, k⟩ := h
  unfold extendW at t
  split at t
  · rename_i p q
    cases r1
    obtain ⟨z, rfl, rz⟩ := r2.one
    cases rz
    split at t
    · rename_i ys zs e e2
      obtain ⟨vs, h1, rv⟩ := rh _ _ e
      obtain ⟨vs2, h2, rv2⟩ := rh _ _ e2
      exact mt_extend pins s σ H _ _ v us Q I rx rs ⟨p, q, vs, vs2, rfl, rfl, h1, h2, by rw [rv.length, rv2.length]; exact t.1, k _ _ _ _ t.2 (.put e) .non (rh.put e ⟨_, upd_same, (rv.append rv2).mono (FR.put (o := .lst []) e) rh⟩)⟩
    · exact t.elim
  · exact t.elim
/-- pop(), pop(i) -/
def popW : MW := fun w ws G R => match w, ws with
  | .ref p, [] => match G p with
    | some (.lst xs) => ∃ y, xs[xs.length - 1]? = some y ∧ R y (updG G p (.lst xs.dropLast))
    | _ => False
  | .ref p, [.int i] => match G p with
    | some (.lst xs) => -(2 ^ 63) ≤ i ∧ i < 2 ^ 63 ∧ ∃ k y, seqIndex? i xs.length = some k ∧ xs[k]? = some y ∧ R y (updG G p (.lst (xs.eraseIdx k)))
    | _ => False
  | _, _ => False
theorem mt_popW : MetW X "list.pop" popW := by
  intro pins s σ H x xs v us Q I rx rs h
  obtain ⟨w, ws, G, R, r1, r2, rh, t, k⟩ := h
  unfold popW at t
  split at t
  · rename_i p
    cases r1; cases r2
    split at t
    · rename_i ys e
      obtain ⟨y, ey, t⟩ := t
      obtain ⟨vs, h1, rv⟩ := rh _ _ e
      obtain ⟨z, ez, rz⟩ := rv.get ey
      exact mt_pop pins s σ H _ _ v us Q I rx rs ⟨p, vs, z, rfl, rfl, h1, by rw [rv.length]; exact ez, k _ _ _ _ t (.put e) (rz.mono (FR.put (o := .lst []) e) rh) (rh.put e ⟨_, upd_same, rv.dropLast.mono (FR.put (o := .lst []) e) rh⟩)⟩
    · exact t.elim
  · rename_i p i
    cases r1
    obtain ⟨z, rfl, rz⟩ := r2.one
    cases rz
    split at t
    · rename_i ys e
      obtain ⟨b1, b2, j, y, ej, ey, t⟩ := t
      obtain ⟨vs, h1, rv⟩ := rh _ _ e
      obtain ⟨z, ez, rz⟩ := rv.get ey
      exact mt_popAt pins s σ H _ _ v us Q I rx rs ⟨p, vs, i, j, z, rfl, rfl, h1, b1, b2, by rw [rv.length]; exact ej, ez, k _ _ _ _ t (.put e) (rz.mono (FR.put (o := .lst []) e) rh) (rh.put e ⟨_, upd_same, (rv.erase j).mono (FR.put (o := .lst []) e) rh⟩)⟩
    · exact t.elim
  · exact t.elim

/-! ### texts -/
def recS (w : W) : Prop := match w with
  | .str _ => True
  | _ => False
def tMetS (r : MW) (Ta : TW) (Tr : TWA) : TW := fun S G R => Ta S G fun w G1 => recS w ∧ Tr S G1 fun ws G2 => r w ws G2 R
/-- sep.join(list) -/
def joinC : CF := fun _ _ _ => True
def strsOf : List W → Option (List Str)
  | [] => some []
  | .str b :: r => (strsOf r).map (b :: ·)
  | _ :: _ => none
theorem strs_of : ∀ {ws : List W} {bs : List Str}, strsOf ws = some bs → ws = bs.map .str
  | [], bs, h => by cases h; rfl
  | w :: ws, bs, h => by
    cases w with
    | str b =>
      unfold strsOf at h
      obtain ⟨r, h1, h2⟩ := Option.map_eq_some_iff.mp h
      subst h2
      rw [strs_of h1]; rfl
    | _ => cases h
theorem strsOf_map : ∀ bs : List Str, strsOf (bs.map .str) = some bs
  | [] => rfl
  | b :: bs => by
    show (strsOf (bs.map .str)).map (b :: ·) = _
    rw [strsOf_map bs]; rfl
/-- sep.join([.. for ..]): the list is forgotten -/
def joinW (w : W) (ws : List W) (G : GH) (R : KW) : Prop := match w with
  | .str a => match strsOf ws with
    | some ys => (ys.map (·.length)).sum + ys.length * a.length ≤ 16777216 ∧ R (.str (Txt.join a ys)) G
    | none => False
  | _ => False
def tJoinC (Ta : TW) (Tr : TWA) : TW := fun S G R => Ta S G fun w G1 => (∃ a, w = .str a) ∧ Tr S G1 fun ws G2 => joinW w ws G2 R
theorem we_joinC {elt tg iter : Expr} {ifs : List Expr} {scope : Scope} {vs : List Nat} {lpos cpos : Pos} {ti : TIW} {gh : TG} {g : TGW} {tt : TWT} {te : TW} (gok : GOk X.K Z gh g vs)
    (hj : PE X (.Call (.Attribute o "join" apos) [.ListComp elt [⟨tg, iter, ifs, 0⟩] scope lpos] [] cpos) (tM1 (fun x xs H Q => ∃ a p, ∃ ys : List Str, x = .str a ∧ xs = [.ref p] ∧ (SqL X.K H p (ys.map V.str) ∨ SqT X.K H p (ys.map V.str)) ∧ (ys.map (·.length)).sum + ys.length * a.length ≤ 16777216 ∧ Q (.str (Txt.join a ys)) H) (Lf X.K Z Ta) (tLc (LfI X.K Z ti) gh (LfT X.K Z tt) (Lf X.K Z te) vs))) :
    WE X Z (.Call (.Attribute o "join" apos) [.ListComp elt [⟨tg, iter, ifs, 0⟩] scope lpos] [] cpos) (tJoinC Ta (tCompI ti g tt te vs)) := hj.weak fun σ H Q h => by
  obtain ⟨S, G, R, sr, t, k⟩ := h
  refine Lf.go sr (show Ta S G fun w G1 => (∃ a, w = .str a) ∧ tCompI ti g tt te vs S G1 fun ws G2 => joinW w ws G2 R from t) fun w G1 v H1 t1 f1 r1 h1 => ?_
  obtain ⟨⟨a, rfl⟩, t1⟩ := t1
  cases r1
  refine ⟨⟨a, rfl⟩, comp_core gok (sr.next f1 h1) t1 fun ws G' D H' us r f hd rs rh gd hz => ?_⟩
  unfold joinW at r
  dsimp only at r
  split at r
  · rename_i ys ey
    have e := strs_of ey
    subst e
    have e2 := rs.strs
    subst e2
    exact ⟨a, D, ys, rfl, rfl, .inl (SqL.of hd), r.1, k _ _ _ _ r.2 (f1.trans f) (.str _) rh⟩
  · exact r.elim
/-- sep.join(xs), xs a list that stands -/
def tJoinW (Ta Tb : TW) : TW := fun S G R => Ta S G fun w G1 => (∃ a, w = .str a) ∧ Tb S G1 fun x G2 => match itemsW x G2 with
  | some ws => joinW w ws G2 R
  | none => False
theorem we_join {cpos : Pos} (hj : PE X (.Call (.Attribute o "join" apos) [e] [] cpos) (tM1 (fun x xs H Q => ∃ a p, ∃ ys : List Str, x = .str a ∧ xs = [.ref p] ∧ (SqL X.K H p (ys.map V.str) ∨ SqT X.K H p (ys.map V.str)) ∧ (ys.map (·.length)).sum + ys.length * a.length ≤ 16777216 ∧ Q (.str (Txt.join a ys)) H) (Lf X.K Z Ta) (Lf X.K Z Tb))) :
    WE X Z (.Call (.Attribute o "join" apos) [e] [] cpos) (tJoinW Ta Tb) := hj.weak fun σ H Q h => by
  obtain ⟨S, G, R, sr, t, k⟩ := h
  refine Lf.go sr t fun w G1 v H1 t1 f1 r1 h1 => ?_
  obtain ⟨⟨a, rfl⟩, t1⟩ := t1
  cases r1
  refine ⟨⟨a, rfl⟩, Lf.go (sr.next f1 h1) t1 fun x G2 v2 H2 t2 f2 r2 h2 => ?_⟩
  split at t2
  · rename_i ws ew
    obtain ⟨p, vs, rfl, hq, rs⟩ := items_of ew r2 h2
    unfold joinW at t2
    dsimp only at t2
    split at t2
    · rename_i ys ey
      have e := strs_of ey
      subst e
      have e2 := rs.strs
      subst e2
      exact ⟨a, p, ys, rfl, rfl, hq, t2.1, k _ _ _ _ t2.2 (f1.trans f2) (.str _) h2⟩
    · exact t2.elim
  · exact t2.elim
/-- s.split(sep) -/
def tSplitW (Ta Tb : TW) : TW := fun S G R => Ta S G fun w G1 => match w with
  | .str a => Tb S G1 fun x G2 => match x with
    | .str b => (b.length == 0) = false ∧ a.length + 2 ≤ sizeLine ∧ ∀ p, G2 p = none → R (.ref p) (updG G2 p (.lst ((Txt.split a b).map .str)))
    | _ => False
  | _ => False
theorem we_split {cpos : Pos} (hj : PE X (.Call (.Attribute o "split" apos) [e] [] cpos) (tM1 (fun x xs H Q => ∃ a b, x = .str a ∧ xs = [.str b] ∧ (b.length == 0) = false ∧ a.length + 2 ≤ sizeLine ∧ rNewStrs (Txt.split a b) H Q) (Lf X.K Z Ta) (Lf X.K Z Tb))) :
    WE X Z (.Call (.Attribute o "split" apos) [e] [] cpos) (tSplitW Ta Tb) := hj.weak fun σ H Q h => by
  obtain ⟨S, G, R, sr, t, k⟩ := h
  refine Lf.go sr t fun w G1 v H1 t1 f1 r1 h1 => ?_
  split at t1
  · rename_i a
    cases r1
    refine ⟨⟨a, rfl⟩, Lf.go (sr.next f1 h1) t1 fun x G2 v2 H2 t2 f2 r2 h2 => ?_⟩
    split at t2
    · rename_i b
      cases r2
      exact ⟨a, b, rfl, rfl, t2.1, t2.2.1, fun p hp => k _ _ _ _ (t2.2.2 p (h2.free hp)) (f1.trans (f2.trans (.newG hp))) (.ref p) (h2.newG hp ⟨_, upd_same, .of_strs _⟩)⟩
    · exact t2.elim
  · exact t1.elim

/-! ### f-strings -/
def fmtW (w : W) (G : GH) (R : Str → GH → Prop) : Prop := match w with
  | .str y => R y G
  | .int i => i.natAbs.log2 < 1920 ∧ R (toString i) G
  | _ => False
end

/-! ### a def keeps its promise -/
def startW (N : List Str) (ws : List W) : WSt := ws.map some ++ List.replicate (N.length - ws.length) none
theorem startW_ok {K : PySem.W.Frag} {H : Hp} : ∀ {vs : List V} {ws : List W}, RVs K H vs ws → Paired (OV K H) (vs.map some) (ws.map some)
  | _, _, .nil => .nil
  | _, _, .cons r t => .cons (fun w e => by cases e; exact ⟨_, rfl, r⟩) (startW_ok t)
theorem Paired.app {α β : Type} {F : α → β → Prop} : ∀ {a : List α} {b : List β} {c : List α} {d : List β}, Paired F a b → Paired F c d → Paired F (a ++ c) (b ++ d)
  | _, _, _, _, .nil, r => r
  | _, _, _, _, .cons q t, r => .cons q (Paired.app t r)
theorem Paired.reps {α β : Type} {F : α → β → Prop} {x : α} {y : β} (h : F x y) : ∀ n, Paired F (List.replicate n x) (List.replicate n y)
  | 0 => .nil
  | n + 1 => .cons h (Paired.reps h n)
section
variable {P : Program} {w : World} {K : PySem.W.Frag} {mg : Str → Option Value} {base : Heap} {x qual : Str} {st : Stmt} {f : Addr} {fd : FuncData} {N ps : List Str} {k : Nat} {Q : SpW}
theorem okW (F : Fun K x qual st f fd) (S : FnScope N ps (defScope st)) (len : ∀ ws G R RX, Q ws G R RX → ws.length = ps.length)
    (hbody : ∀ (cdv : Value) (A : Around) (outer : List Env) (s : Shared) (H : Hp) (E : XK) (ws : List W) (G : GH) (R : KW) (RX : XW), Room k (A.deeper (envOfC qual (defScope st) s.heap.objs.size f cdv)) → Q ws G R RX →
      ∃ T : TWS, WSs (cxOf CX0 P w K mg base N qual (defScope st) f cdv A outer s H E).nox (G, H) (defBody st) T ∧ T { nx := fun _ G' => R .non G', rt := R } (startW N ws) G) : FnOk P w K mg base CX0 (k + 1) f fd ps (spL K Q) := by
  refine F.ok S (fun vs H R E h => ?_) fun cdv A outer s H vs Qv E hr h => ?_
  · obtain ⟨ws, G, R, RX, rs, rh, t, _⟩ := h
    rw [rs.length]; exact len ws G R RX t
  · obtain ⟨ws, G, R, RX, rs, rh, t, kl, kx⟩ := h
    obtain ⟨T, hT, q⟩ := hbody cdv A outer s H E ws G R RX hr t
    refine ⟨_, hT, startW N ws, G, _, ⟨.refl, ?_, rh⟩, q, ⟨fun S' G' σ' H' d sr f => kl _ _ _ _ d f .non sr.rh, fun w G' v H' d f rv rh' => kl _ _ _ _ d f rv rh', fun _ _ _ _ d => d.elim, fun _ _ _ _ d => d.elim⟩⟩
    unfold L2.start startW
    rw [← rs.length]
    exact Paired.app (startW_ok rs) (Paired.reps (fun w e => by cases e) _)
/-- .. that may raise -/
theorem okWX (F : Fun K x qual st f fd) (S : FnScope N ps (defScope st)) (len : ∀ ws G R RX, Q ws G R RX → ws.length = ps.length)
    (hbody : ∀ (cdv : Value) (A : Around) (outer : List Env) (s : Shared) (H : Hp) (E : XK) (ws : List W) (G : GH) (R : KW) (RX : XW), Room k (A.deeper (envOfC qual (defScope st) s.heap.objs.size f cdv)) → XL K G H RX E → Q ws G R RX →
      ∃ T : TWS, WSs (cxOf (L2.CX P w) P w K mg base N qual (defScope st) f cdv A outer s H E) (G, H) (defBody st) T ∧ T { nx := fun _ G' => R .non G', rt := R } (startW N ws) G) : FnOk P w K mg base (L2.CX P w) (k + 1) f fd ps (spL K Q) := by
  refine F.okX S (fun vs H R E h => ?_) fun cdv A outer s H vs Qv E hr h => ?_
  · obtain ⟨ws, G, R, RX, rs, rh, t, _⟩ := h
    rw [rs.length]; exact len ws G R RX t
  · obtain ⟨ws, G, R, RX, rs, rh, t, kl, kx⟩ := h
    obtain ⟨T, hT, q⟩ := hbody cdv A outer s H E ws G R RX hr kx t
    refine ⟨_, hT, startW N ws, G, _, ⟨.refl, ?_, rh⟩, q, ⟨fun S' G' σ' H' d sr f => kl _ _ _ _ d f .non sr.rh, fun w G' v H' d f rv rh' => kl _ _ _ _ d f rv rh', fun _ _ _ _ d => d.elim, fun _ _ _ _ d => d.elim⟩⟩
    unfold L2.start startW
    rw [← rs.length]
    exact Paired.app (startW_ok rs) (Paired.reps (fun w e => by cases e) _)
/-- a promise that another one makes -/
theorem okImp {CX : CXT} {Q' : SpW} (F : FnOk P w K mg base CX k f fd ps (spL K Q)) (h : ∀ ws G R RX, Q' ws G R RX → Q ws G R RX) : FnOk P w K mg base CX k f fd ps (spL K Q') :=
  F.imp fun vs H R E ⟨ws, G, R', RX, rs, rh, t, kl, kx⟩ => ⟨ws, G, R', RX, rs, rh, h _ _ _ _ t, kl, kx⟩
/-- what is wanted of the result may be widened, the heap may be forgotten -/
theorem okPost {CX : CXT} {Q' : SpW} (F : FnOk P w K mg base CX k f fd ps (spL K Q)) (h : ∀ ws G R RX, Q' ws G R RX → ∃ R', Q ws G R' RX ∧ ∀ w G', R' w G' → ∃ G2, R w G2 ∧ (∀ a o, G2 a = some o → G' a = some o)) : FnOk P w K mg base CX k f fd ps (spL K Q') :=
  F.imp fun vs H R E ⟨ws, G, R', RX, rs, rh, t, kl, kx⟩ => by
    obtain ⟨R2, t2, h2⟩ := h _ _ _ _ t
    refine ⟨ws, G, R2, RX, rs, rh, t2, fun w G' v H' q f rv rh' => ?_, kx⟩
    obtain ⟨G2, q2, hw⟩ := h2 w G' q
    refine kl _ _ _ _ q2 (f.weak fun a e => ?_) rv (rh'.weak hw)
    cases z : G2 a with
    | none => rfl
    | some o => rw [hw a o z] at e; cases e
end
end WL
set_option Elab.async false
set_option linter.all false
set_option maxRecDepth 100000
set_option maxHeartbeats 4000000
/-! WL, part g: defs as facts of the module; short words. -/
namespace WL
open PySem PySem.Spec PyProof.Rows L2

/-- a def of the module, and its promise -/
structure Dfn (P : Program) (w : World) (K : PySem.W.Frag) (mg : Str → Option Value) (base : Heap) (CX : CXT) (k : Nat) (x : Str) (ps : List Str) (sp : SpW) : Prop where
  ex : ∃ f fd, FnOk P w K mg base CX k f fd ps (spL K sp) ∧ mg x = some (.ref f) ∧ PySem.W.keepIn K (.ref f) = true ∧ Binds K fd ps []
/-- a name of the module that holds a plain value -/
def Gv (K : PySem.W.Frag) (mg : Str → Option Value) (x : Str) (w : W) : Prop := ∃ v u, mg x = some u ∧ RelV v u ∧ ∀ H, RV K H v w
section
variable {X : Cx} {Z : GH × Hp} {e : Expr} {pos p : Pos} {es : List Expr} {Tr : TWA} {k j : Nat} {ps : List Str} {P : SpW} {x : Str}
theorem we_f (D : Dfn X.prog X.w X.K X.mg X.base CX0 k x ps P) (hr : Room j X.A) (ha : WA X Z (e :: es) Tr) (hk : k ≤ j := by decide) (hg : Gl X x := by rfl) (hdb : (x == ("__debug__" : Str)) = false := by decide)
    (he : starEach (e :: es) X.env = (false, eval e X.env) :: starEach es X.env := by rfl) (hpl : (backTo pos (starEach es X.env)).any (·.1) = false := by rfl) : WE X Z (.Call (.Name x p) (e :: es) [] pos) (tCall0 P [] Tr) := by
  obtain ⟨f, fd, F, hm, hk', hb⟩ := D.ex
  exact we_call F (hr.mono hk) hg hm hk' hb pass0 ha hdb he hpl
/-- .. of a def that may raise, where it does not -/
theorem we_fX (D : Dfn X.prog X.w X.K X.mg X.base (L2.CX X.prog X.w) k x ps P) (hr : Room j X.A) (ha : WA X Z (e :: es) Tr) (hk : k ≤ j := by decide) (hg : Gl X x := by rfl) (hdb : (x == ("__debug__" : Str)) = false := by decide)
    (he : starEach (e :: es) X.env = (false, eval e X.env) :: starEach es X.env := by rfl) (hpl : (backTo pos (starEach es X.env)).any (·.1) = false := by rfl) : WE X Z (.Call (.Name x p) (e :: es) [] pos) (tCall0 P [] Tr) := by
  obtain ⟨f, fd, F, hm, hk', hb⟩ := D.ex
  exact we_call F (hr.mono hk) hg hm hk' hb passL ha hdb he hpl
theorem we_g {w : W} (h : Gv X.K X.mg x w) (hg : Gl X x := by rfl) (hd : (x == ("__debug__" : Str)) = false := by decide) : WE X Z (.Name x pos) (tK w) := by
  obtain ⟨v, u, hm, r, rv⟩ := h
  exact we_glob hg hm r rv hd
theorem hu1 {A : Around} (hr : Room k A) : A.units + 1 < cLine := hu_of hr
theorem hu64 {A : Around} (hr : Room k A) : A.units + 64 < cLine := hr.units
theorem hu65 {A : Around} (hr : Room k A) : A.units + 65 < cLine := by have := hr.un; omega
theorem hu0 {A : Around} (hr : Room k A) : A.units < cLine := hr.units0
/-- name = e -/
theorem ws_s (i : Nat) {y : Str} {Ta : TW} {pos' : Pos} (hN : X.N.Nodup) (he : WE X Z e Ta) (hi : X.N[i]? = some y := by rfl) (hx : Loc X.env.scope y := by first | exact .inl rfl | exact .inr rfl) (hs : swapsWith e (some (.Name y pos')) pos.line X.env = pure false := by rfl)
    (hf : X.fn y = true ∨ X.env.scope.names.lookup y = some .local := by first | exact .inl rfl | exact .inr rfl) : WS X Z (.Assign [.Name y pos'] e pos) (sSet i Ta) := ws_set hN hi hx he hs hf
theorem wg_n (i : Nat) {y : Str} (hN : X.N.Nodup) (hi : X.N[i]? = some y := by rfl) (hx : Loc X.env.scope y := by first | exact .inl rfl | exact .inr rfl) (hf : X.fn y = true ∨ X.env.scope.names.lookup y = some .local := by first | exact .inl rfl | exact .inr rfl) : WG X Z (.Name y pos) (gN i) := wg_name hN hi hx hf
theorem pg_n (i : Nat) {y : Str} (hN : X.N.Nodup) (hi : X.N[i]? = some y := by rfl) (hx : Loc X.env.scope y := by first | exact .inl rfl | exact .inr rfl) (hf : X.fn y = true ∨ X.env.scope.names.lookup y = some .local := by first | exact .inl rfl | exact .inr rfl) : PG X (.Name y pos) (gName i) := pg_name hN hi hx hf
end
end WL
set_option Elab.async false
set_option linter.all false
set_option maxRecDepth 100000
set_option maxHeartbeats 4000000
/-! WL, part h: a star in targets, f-strings. -/
namespace WL
open PySem PySem.Spec PyProof.Rows L2

section
variable {X : Cx} {Z : GH × Hp} {K : PySem.W.Frag} {es : List Expr} {e e' : Expr} {pos : Pos}
/-- a, *b, c = a sequence -/
def gStar (K : PySem.W.Frag) (n i : Nat) (t : TGs) : TG := fun v σ H Q => ∃ a xs, v = .ref a ∧ (SqL K H a xs ∨ SqT K H a xs) ∧ n ≤ xs.length + 1 ∧ xs.length ≤ 16384 ∧
  ∀ D, H D = none → t (xs.take i ++ [.ref D] ++ (xs.drop i).drop (xs.length + 1 - n)) σ (upd H D (.lst ((xs.drop i).take (xs.length + 1 - n)))) Q
theorem star_inv {pins : List (Addr × Obj)} {σ : L2.St} {H : Hp} {s : Shared} {m : Str → Option Value} {vs : List V} {us : List Value} {D : Addr} {h' : Heap} {tk : Nat} (I : Inv X pins σ H s) (F : Fr X.base X.env.locals s.heap m) (rv : Vals vs us) (hz : vs.length ≤ sizeLine)
    (F' : Fr X.base X.env.locals h' m) (N' : News X.base X.env.locals h' ((D, PySem.W.listOf us.toArray 0) :: allNews X.base s.heap X.env.locals)) (hD : ∀ p ∈ allNews X.base s.heap X.env.locals, p.1 < D) :
    H D = none ∧ Inv X pins σ (upd H D (.lst vs)) { s with heap := h', toks := tk } := by
  obtain ⟨nD1, nD2, nD3⟩ := N' _ List.mem_cons_self
  have dnew : s.heap.get? D = none := by
    cases e : s.heap.get? D with
    | none => rfl
    | some o => exact absurd (hD (D, o) (mem_allNews nD2 nD3 e)) (Nat.lt_irrefl _)
  have hn : H D = none := by
    cases e : H D with
    | none => rfl
    | some u =>
      have hlt := I.hok.lt e
      have hk : ∃ o, s.heap.get? D = some o := by
        have x := I.hok D u e
        revert x
        cases u with
        | lst xs => rintro ⟨_, _, _, _, q⟩; exact ⟨_, q⟩
        | tup xs => rintro ⟨_, _, _, o, q, _⟩; exact ⟨_, q⟩
        | dK xs => rintro ⟨_, _, _, _, o, _, _, q, _⟩; exact ⟨_, q⟩
        | dT xs => rintro ⟨_, _, _, _, o, _, _, q, _⟩; exact ⟨_, q⟩
        | set S n => rintro ⟨o, _, _, _, q, _⟩; exact ⟨_, q⟩
        | ins C dx fs => rintro ⟨_, _, _, q, _⟩; exact ⟨_, q⟩
        | own y => rintro ⟨_, q⟩; exact ⟨_, q⟩
        | xd fs => rintro ⟨_, ⟨_, _, _, q, _⟩, _⟩; exact ⟨_, q⟩
        | rng lo hi => rintro ⟨_, _, _, q⟩; exact ⟨_, q⟩
        | frz o u => rintro ⟨q, _⟩; exact ⟨_, q⟩
        | tbl ps => intro q; exact ⟨_, q⟩
        | met f y => intro q; exact ⟨_, q⟩
        | ext φ => rintro ⟨_, ⟨_, q⟩, _⟩; exact ⟨_, q⟩
      obtain ⟨o, q⟩ := hk
      rw [dnew] at q; cases q
  have keep : ∀ b o, b ≠ X.env.locals → s.heap.get? b = some o → h'.get? b = some o := fun b o h1 e => by
    cases q : X.base.get? b with
    | some u =>
      have z := F.keep b u q
      rw [e] at z; cases z
      exact F'.keep b _ q
    | none => exact (N' (b, o) (List.mem_cons_of_mem _ (mem_allNews h1 q e))).1
  obtain ⟨mm, ⟨oL, es, ep, hoL, rL⟩, _⟩ := id I.loc
  obtain ⟨oL2, es2, ep2, hoL2, rL2⟩ := id F'.ns
  refine ⟨hn, I.step (g' := s.gens) (d' := s.drawn) (ch := []) (fun _ z => nomatch z) (fun b o hL _ _ e n => keep b o hL e) (fun b o hL _ _ e n => ⟨o.slots, keep b o hL e⟩) (fun b o _ e n => by
      rw [upd_ne (fun z => by subst z; rw [dnew] at e; cases e)]; exact n) (fun b o _ e => ?_) (fun b xs e => by rw [upd_ne (ne_of_none e hn)]; exact e) (fun b o u e => by rw [upd_ne (ne_of_none e hn)]; exact e)
      (fun b ps e => ⟨#[], by rw [upd_ne (ne_of_none e hn), e]; simp⟩) (fun m' hm => ?_) (fun b u e => ?_) I.bare⟩
  · by_cases hb : b = X.env.locals
    · subst hb; exact ⟨_, hoL2⟩
    · exact ⟨o, keep b o hb e⟩
  · rw [SlX.ns_only hm F.ns]; exact F'.ns
  · by_cases hb : b = D
    · subst hb
      rw [upd_same] at e; cases e
      exact ⟨hz, us, 0, rv, nD1⟩
    · rw [upd_ne hb] at e
      refine (I.hok b u e).stay (fun c v hc q => keep c v ?_ q) (fun c q => by rw [upd_ne (ne_of_none q hn)]; exact q) fun c xs q => by rw [upd_ne (ne_of_none q hn)]; exact q
      rcases hc with hc | hc
      · subst hc; intro z; subst z; rw [I.free] at e; cases e
      · intro z; subst z; rw [I.free] at hc; cases hc
theorem Vals.map_take : ∀ {xs : List V} {us : List Value} (n : Nat), Vals xs us → Vals (xs.take n) (us.take n) := fun n r => L2.Vals.take n r
theorem pg_star {k n i : Nat} {t : TGs} (hc : X.calm = true) (h : PGs X es t) (hn : (assignEach es X.env).length = n := by rfl) (hst : (assignEach es X.env).findIdx? (·.1) = some i := by rfl) (hi : i < n := by decide) : PG X (.Tuple es k pos) (gStar X.K n i t) := by
  refine ⟨fun pins s σ H v u Q I r hw => ?_⟩
  obtain ⟨a, xs, e1, hq, hl, hz, hw⟩ := hw
  subst e1
  cases r
  obtain ⟨m, F⟩ := I.fr
  have hz2 : ∀ k, ((xs.drop i).take k).length ≤ sizeLine := fun k => by
    rw [List.length_take, List.length_drop, sizeLine_eq]; omega
  rcases hq with hq | hq
  · obtain ⟨its, rv, p, _⟩ := I.list hq
    have hlen := rv.length
    refine PySem.W.kun_assignL F (news_all (g := X.base) (h := s.heap) (L := X.env.locals)) p.isList (I.ok.hd hc) hn hst hi (by simp only [List.size_toArray]; omega) (by simp only [List.size_toArray]; omega) rfl rfl rfl fun D h' tk F' N' hD => ?_
    simp only [List.size_toArray, ← hlen] at N' ⊢
    obtain ⟨hD0, I'⟩ := star_inv (tk := tk) I F (L2.Vals.take _ (L2.Vals.drop i rv)) (hz2 _) F' N' hD
    refine h.run pins _ σ _ _ _ Q I' ?_ (hw D hD0)
    exact ((L2.Vals.take i rv).append (.cons (show L2.RelV (.ref D) (.ref D) from rfl) .nil)).append (L2.Vals.drop _ (L2.Vals.drop i rv))
  · obtain ⟨its, rv, p, _⟩ := I.tuple hq
    have hlen := rv.length
    refine PySem.W.kun_assignT F (news_all (g := X.base) (h := s.heap) (L := X.env.locals)) p (I.ok.hd hc) hn hst hi (by simp only [List.size_toArray]; omega) (by simp only [List.size_toArray]; omega) rfl rfl rfl fun D h' tk F' N' hD => ?_
    simp only [List.size_toArray, ← hlen] at N' ⊢
    obtain ⟨hD0, I'⟩ := star_inv (tk := tk) I F (L2.Vals.take _ (L2.Vals.drop i rv)) (hz2 _) F' N' hD
    refine h.run pins _ σ _ _ _ Q I' ?_ (hw D hD0)
    exact ((L2.Vals.take i rv).append (.cons (show L2.RelV (.ref D) (.ref D) from rfl) .nil)).append (L2.Vals.drop _ (L2.Vals.drop i rv))
/-- several targets, the first of them starred, perhaps -/
theorem pgs_consS {t : TG} {u : TGs} (h1 : PG X e' t) (h2 : PGs X es u) (hs : (assignEach (e :: es) X.env).map (·.2) = assign e' X.env :: (assignEach es X.env).map (·.2) := by rfl) : PGs X (e :: es) (gCons t u) := by
  refine ⟨fun pins s σ H vs us Q I r h => ?_⟩
  obtain ⟨v, vr, e1, h⟩ := h
  subst e1
  cases r with
  | cons r rr =>
    rw [hs]
    refine assignInOrder_cons (thn (h1.run pins s σ H _ _ _ I r h) fun _ s1 ⟨σ1, H1, I1, q1⟩ => ?_)
    exact h2.run pins s1 σ1 H1 _ _ Q I1 rr q1
theorem wgs_consS {t : TGW} {u : TGsW} (h1 : WG X Z e' t) (h2 : WGs X Z es u) (hs : (assignEach (e :: es) X.env).map (·.2) = assign e' X.env :: (assignEach es X.env).map (·.2) := by rfl) : WGs X Z (e :: es) (gsC t u) :=
  (pgs_consS h1 h2 hs).weak fun v σ H Q h => by
    obtain ⟨w, S, G, R, rv, sr, t, k⟩ := h
    cases rv with
    | nil => exact (show False from t).elim
    | cons r rs =>
      refine ⟨_, _, rfl, LfG.go r sr t fun S' G' σ' H' t1 sr1 f1 => ?_⟩
      exact ⟨_, S', G', R, rs.mono f1 sr.rh, sr1, t1, fun S2 G2 σ2 H2 t2 sr2 f2 => k _ _ _ _ t2 sr2 (f1.trans f2)⟩
def gStarW (n i : Nat) (u : TGsW) : TGW := fun w S G R => match itemsW w G with
  | some xs => n ≤ xs.length + 1 ∧ xs.length ≤ 16384 ∧ ∀ D, G D = none → u (xs.take i ++ [.ref D] ++ (xs.drop i).drop (xs.length + 1 - n)) S (updG G D (.lst ((xs.drop i).take (xs.length + 1 - n)))) R
  | none => False
theorem wg_star {k n i : Nat} {u : TGsW} (hc : X.calm = true) (h : WGs X Z es u) (hn : (assignEach es X.env).length = n := by rfl) (hst : (assignEach es X.env).findIdx? (·.1) = some i := by rfl) (hi : i < n := by decide) : WG X Z (.Tuple es k pos) (gStarW n i u) :=
  (pg_star hc h hn hst hi).weak fun v σ H Q h => by
    obtain ⟨w, S, G, R, rv, sr, t, k⟩ := h
    unfold gStarW at t
    split at t
    · rename_i xs e
      obtain ⟨a, vs, rfl, hq, rs⟩ := items_of e rv sr.rh
      have el := rs.length
      refine ⟨a, vs, rfl, hq, by omega, by omega, fun D hD => ?_⟩
      have fr : FR G H (updG G D (.lst ((xs.drop i).take (xs.length + 1 - n)))) (upd H D (.lst ((vs.drop i).take (vs.length + 1 - n)))) := .newG hD
      have rh2 := sr.rh.newG (o := .lst ((xs.drop i).take (xs.length + 1 - n))) (u := .lst ((vs.drop i).take (vs.length + 1 - n))) hD ⟨_, upd_same, by rw [el]; exact ((rs.drop i).take _).mono (.new hD) sr.rh⟩
      refine ⟨_, S, _, R, ?_, sr.next fr rh2, t.2.2 D (sr.rh.free hD), fun S' G' σ' H' q sr' f => k _ _ _ _ q sr' (fr.trans f)⟩
      rw [el]
      exact (((rs.take i).append (.cons (.ref D) .nil)).append ((rs.drop i).drop _)).mono (.new hD) sr.rh
    · exact t.elim
/-- a, b = a list of so many -/
def gL (n : Nat) (u : TGsW) : TGW := fun w S G R => match w with
  | .ref p => match G p with
    | some (.lst xs) => xs.length = n ∧ u xs S G R
    | _ => False
  | .fl xs => xs.length = n ∧ u xs S G R
  | _ => False

/-! ### f-strings -/
def tFmtW (Ta : TW) : TW := fun S G R => Ta S G fun w G1 => match w with
  | .str y => y.length ≤ sizeLine ∧ R (.str y) G1
  | .int i => i.natAbs.log2 < 1920 ∧ R (.str (toString i)) G1
  | _ => False
theorem we_fmt {Ta : TW} (he : WE X Z e Ta) : WE X Z (.FormattedValue e (-1) none pos) (tFmtW Ta) := (pe_fmt he).weak fun σ H Q h => by
  obtain ⟨S, G, R, sr, t, k⟩ := h
  refine Lf.go sr t fun w G1 v H1 t1 f1 r1 h1 => ?_
  split at t1
  · cases r1; exact .inl ⟨_, rfl, t1.1, k _ _ _ _ t1.2 f1 (.str _) h1⟩
  · cases r1; exact .inr ⟨_, rfl, t1.1, k _ _ _ _ t1.2 f1 (.str _) h1⟩
  · exact t1.elim
inductive WJ (X : Cx) (Z : GH × Hp) : List Expr → List TW → Prop where
  | nil : WJ X Z [] []
  | cons {e : Expr} {t : TW} {es : List Expr} {ts : List TW} (h : WE X Z e t) (r : WJ X Z es ts) : WJ X Z (e :: es) (t :: ts)
theorem WJ.pj {es : List Expr} {ts : List TW} (h : WJ X Z es ts) : PJ X es (ts.map (Lf X.K Z)) := by
  induction h with
  | nil => exact .nil
  | cons h _ ih => exact .cons h ih
def tJsW : List TW → Str → WSt → GH → (Str → GH → Prop) → Prop
  | [], acc, _, G, R => R acc G
  | t :: ts, acc, S, G, R => t S G fun w G1 => ∃ y, w = .str y ∧ (acc ++ y).length ≤ sizeLine ∧ tJsW ts (acc ++ y) S G1 R
theorem lfJs {σ : L2.St} : ∀ (ts : List TW) (acc : Str) (S : WSt) (G : GH) (H : Hp) (R : Str → GH → Prop) (Q : Str → Hp → Prop), SR K Z σ H S G → tJsW ts acc S G R → (∀ z G' H', R z G' → FR G H G' H' → RH K H' G' → Q z H') → tJs (ts.map (Lf K Z)) acc σ H Q
  | [], acc, S, G, H, R, Q, sr, t, k => k _ _ _ t .refl sr.rh
  | t :: ts, acc, S, G, H, R, Q, sr, q, k => by
    show Lf K Z t σ H fun x H1 => ∃ y : Str, x = .str y ∧ (acc ++ y).length ≤ sizeLine ∧ tJs (ts.map (Lf K Z)) (acc ++ y) σ H1 Q
    refine Lf.go sr q fun w G1 v H1 t1 f1 r1 h1 => ?_
    · obtain ⟨y, rfl, hy, t1⟩ := t1
      cases r1
      exact ⟨y, rfl, hy, lfJs ts _ S G1 H1 R Q (sr.next f1 h1) t1 fun z G' H' r f rh => k _ _ _ r (f1.trans f) rh⟩
def tJoinedW (ts : List TW) : TW := fun S G R => tJsW ts Str.empty S G fun z G1 => R (.str z) G1
theorem we_joined {v1 v2 : Expr} {rest : List Expr} {ts : List TW} (h : WJ X Z (v1 :: v2 :: rest) ts) : WE X Z (.JoinedStr (v1 :: v2 :: rest) pos) (tJoinedW ts) := (pe_joined h.pj).weak fun σ H Q h => by
  obtain ⟨S, G, R, sr, t, k⟩ := h
  exact lfJs ts _ S G H (fun z G1 => R (.str z) G1) (fun out H1 => Q (.str out) H1) sr t fun z G' H' r f rh => k _ _ _ _ r f (.str z) rh
end
end WL
set_option Elab.async false
set_option linter.all false
set_option maxRecDepth 100000
set_option maxHeartbeats 4000000
/-! WL, part i: more targets and walks; boot facts. -/
namespace WL
open PySem PySem.Spec PyProof.Rows L2
section
variable {X : Cx} {Z : GH × Hp} {K : PySem.W.Frag} {es : List Expr} {e a b o : Expr} {pos p apos : Pos} {Ta Tb : TW} {Tr : TWA}
theorem _root_.L2.PG.or {t t' : TG} (h : PG X e t) (h' : PG X e t') : PG X e (fun v σ H Q => t v σ H Q ∨ t' v σ H Q) := ⟨fun pins s σ H v u Q I r q => by
  rcases q with q | q
  · exact h.run pins s σ H v u Q I r q
  · exact h'.run pins s σ H v u Q I r q⟩
/-- a, b = a list or a tuple of so many -/
def gU (n : Nat) (u : TGsW) : TGW := fun w S G R => match itemsW w G with
  | some xs => xs.length = n ∧ u xs S G R
  | none => False
theorem wg_unp {k : Nat} {u : TGsW} {n : Nat} (hc : X.calm = true) (h : WGs X Z es u) (hn : (assignEach es X.env).length = n := by rfl) (hst : (assignEach es X.env).findIdx? (·.1) = none := by rfl) : WG X Z (.Tuple es k pos) (gU n u) :=
  (PG.or (pg_tup hc h hn hst) (pg_unl hc h hn hst)).weak fun v σ H Q h => by
    obtain ⟨w, S, G, R, rv, sr, t, k⟩ := h
    unfold gU at t
    split at t
    · rename_i xs e
      obtain ⟨a, vs, rfl, hq, rs⟩ := items_of e rv sr.rh
      rcases hq with hq | hq
      · exact .inr ⟨a, vs, rfl, hq, by rw [rs.length]; exact t.1, ⟨xs, S, G, R, rs, sr, t.2, k⟩⟩
      · exact .inl ⟨a, vs, rfl, hq, by rw [rs.length]; exact t.1, ⟨xs, S, G, R, rs, sr, t.2, k⟩⟩
    · exact t.elim
/-- for x in [a, b, ..] -/
def tIDisp (Tr : TWA) : TIW := fun S G R => Tr S G fun ws G1 => ws.length ≤ sizeLine ∧ R ws tru1 G1
theorem wi_disp {tg : Expr} (h : WA X Z es Tr) : WI X Z tg (.List es pos) (tIDisp Tr) := (pi_seq (pe_lst h)).weak fun σ H R h => by
  obtain ⟨S, G, R', sr, t, k⟩ := h
  refine LfA.go sr t fun ws G1 vs H1 t1 f1 rs h1 => ⟨by rw [rs.length]; exact t1.1, fun D hD => ?_⟩
  have f2 : FR G1 H1 G1 (upd H1 D (.lst vs)) := .new hD
  have h2 := h1.new (u := .lst vs) hD
  have gD := h1.free hD
  exact ⟨D, rfl, .inl ⟨⟨_, SqL.of upd_same⟩, k ws tru1 G1 _ _ t1.2 (f1.trans f2) h2 (wit_list (fun G H f rh g => ⟨vs, SqL.of (f D _ upd_same gD).1, (rs.mono f2 h1).mono f h2⟩) fun _ _ _ _ _ _ _ => .inr trivial)⟩⟩
/-- for x in (a, b, ..) -/
theorem wi_dispT {tg : Expr} {x1} (h : WA X Z es Tr) : WI X Z tg (.Tuple es x1 pos) (tIDisp Tr) := (wi_seq (we_tup h)).weak fun σ H R h => by
  obtain ⟨S, G, R', sr, t, k⟩ := h
  exact ⟨S, G, R', sr, t, k⟩
/-- for x in [.. for ..] -/
def tIComp (T : TWA) : TIW := fun S G R => T S G fun ws G1 => R ws tru1 G1
theorem wi_comp {elt tg0 tg iter : Expr} {ifs : List Expr} {scope : Scope} {own : List (Str × Nat)} {ti : TIW} {gh : TG} {g : TGW} {tt : TWT} {te : TW} (hc : X.calm = true) (hN : X.N.Nodup) (hi : WI X Z tg iter ti) (ok : BlkOk X.N X.env.scope scope own)
    (gok : GOk X.K Z gh g (own.map (·.2)))
    (hg : ∀ (s : Shared) (H : Hp) (C : Addr) (cl : List (Str × Addr)) (fp : List Addr), PG (X.blk s H scope (compEnvC scope cl C X.env) fp) tg gh) (ht : ∀ (s : Shared) (H : Hp) (C : Addr) (cl : List (Str × Addr)) (fp : List Addr), PTsW (X.blk s H scope (compEnvC scope cl C X.env) fp) Z ifs tt)
    (he : ∀ (s : Shared) (H : Hp) (C : Addr) (cl : List (Str × Addr)) (fp : List Addr), WE (X.blk s H scope (compEnvC scope cl C X.env) fp) Z elt te) (hs : ∀ x, foldedSetIterable iter X.env x = pure x := by intro _; rfl) :
    WI X Z tg0 (.ListComp elt [⟨tg, iter, ifs, 0⟩] scope pos) (tIComp (tCompI ti g tt te (own.map (·.2)))) := (pi_seq (pe_lc (tt := LfT X.K Z tt) (te := Lf X.K Z te) hc hN hi ok hg ht he hs)).weak fun σ H R h => by
  obtain ⟨S, G, R', sr, t, k⟩ := h
  show tLc (LfI X.K Z ti) gh (LfT X.K Z tt) (Lf X.K Z te) (own.map (·.2)) σ H fun x H1 => ∃ a, x = .ref a ∧ (((∃ xs, SqL X.K H1 a xs) ∧ R (Itl X.K a) H1) ∨ ((∃ xs, SqT X.K H1 a xs) ∧ R (Itt X.K a) H1))
  refine comp_core gok sr t fun ws G1 D H1 us r f hd rs rh gd hz => ⟨D, rfl, .inl ⟨⟨_, SqL.of hd⟩, k ws tru1 G1 _ _ r f rh (wit_list (fun G H f rh2 g => ⟨us, SqL.of (f D _ hd gd).1, rs.mono f rh⟩) fun _ _ _ _ _ _ _ => .inr trivial)⟩⟩
theorem we_joinK {elt tg iter : Expr} {ifs : List Expr} {scope : Scope} {own : List (Str × Nat)} {lpos cpos : Pos} {ti : TIW} {gh : TG} {g : TGW} {tt : TWT} {te : TW} (ho : WE X Z o Ta) (hc : X.calm = true) (hN : X.N.Nodup) (hi : WI X Z tg iter ti) (ok : BlkOk X.N X.env.scope scope own)
    (gok : GOk X.K Z gh g (own.map (·.2)))
    (hg : ∀ (s : Shared) (H : Hp) (C : Addr) (cl : List (Str × Addr)) (fp : List Addr), PG (X.blk s H scope (compEnvC scope cl C X.env) fp) tg gh) (ht : ∀ (s : Shared) (H : Hp) (C : Addr) (cl : List (Str × Addr)) (fp : List Addr), PTsW (X.blk s H scope (compEnvC scope cl C X.env) fp) Z ifs tt)
    (he : ∀ (s : Shared) (H : Hp) (C : Addr) (cl : List (Str × Addr)) (fp : List Addr), WE (X.blk s H scope (compEnvC scope cl C X.env) fp) Z elt te) (hs : ∀ x, foldedSetIterable iter X.env x = pure x := by intro _; rfl)
    (hs2 : starEach [.ListComp elt [⟨tg, iter, ifs, 0⟩] scope lpos] X.env = [(false, eval (.ListComp elt [⟨tg, iter, ifs, 0⟩] scope lpos) X.env)] := by rfl) (hbase : attributeBase o "join" X.env (eval o X.env) = eval o X.env := by rfl) (hline : (apos.endLine == cpos.line) = true := by rfl) :
    WE X Z (.Call (.Attribute o "join" apos) [.ListComp elt [⟨tg, iter, ifs, 0⟩] scope lpos] [] cpos) (tJoinC Ta (tCompI ti g tt te (own.map (·.2)))) :=
  we_joinC gok (pe_join ho (pe_lc (tt := LfT X.K Z tt) (te := Lf X.K Z te) hc hN hi ok hg ht he hs) hs2 hbase hline)
/-- a, b, c = e1, e2, e3 -/
def sPar3 (i j l : Nat) (Tr : TWA) : TWS := fun D S G => Tr S G fun ws G1 => match ws with
  | [u, v, w] => D.nx (((S.set i (some u)).set j (some v)).set l (some w)) G1
  | _ => False
end
/-! ### what the built-in names hold -/
theorem bt_len : bootBuiltins "len" = some (.builtin "len") := by decide +kernel
theorem bt_abs : bootBuiltins "abs" = some (.builtin "abs") := by decide +kernel
theorem bt_max : bootBuiltins "max" = some (.builtin "max") := by decide +kernel
theorem bt_min : bootBuiltins "min" = some (.builtin "min") := by decide +kernel
theorem bt_all : bootBuiltins "all" = some (.builtin "all") := by decide +kernel
theorem bt_any : bootBuiltins "any" = some (.builtin "any") := by decide +kernel
theorem bt_isinstance : bootBuiltins "isinstance" = some (.builtin "isinstance") := by decide +kernel
theorem bt_sorted : bootBuiltins "sorted" = some (.builtin "sorted") := by decide +kernel
theorem bt_repr : bootBuiltins "repr" = some (.builtin "repr") := by decide +kernel
theorem bt_int : bootBuiltins "int" = some (.type "int") := by decide +kernel
theorem bt_bool : bootBuiltins "bool" = some (.type "bool") := by decide +kernel
theorem bt_str : bootBuiltins "str" = some (.type "str") := by decide +kernel
theorem bt_list : bootBuiltins "list" = some (.type "list") := by decide +kernel
theorem bt_tuple : bootBuiltins "tuple" = some (.type "tuple") := by decide +kernel
theorem bt_dict : bootBuiltins "dict" = some (.type "dict") := by decide +kernel
theorem bt_set : bootBuiltins "set" = some (.type "set") := by decide +kernel
theorem bt_range : bootBuiltins "range" = some (.type "range") := by decide +kernel
theorem bt_zip : bootBuiltins "zip" = some (.type "zip") := by decide +kernel
theorem bt_enumerate : bootBuiltins "enumerate" = some (.type "enumerate") := by decide +kernel
end WL
set_option Elab.async false
set_option linter.all false
set_option maxRecDepth 100000
set_option maxHeartbeats 4000000
/-! WL, part j: data with a Lean type; loops by what stays. -/
namespace WL
open PySem PySem.Spec PyProof.Rows L2 PySem.W

/-- data of a Lean type as a value that is no list -/
class DW (α : Type) [DecidableEq α] extends Datum α where
  w : α → W
  pd : ∀ G a, PD G (w a) (toD a)
instance : DW Int where
  w := .int
  pd _ a := .int a
instance : DW Bool where
  w := .bl
  pd _ a := .bl a
instance : DW Str where
  w := .str
  pd _ a := .str a
instance : DW Unit where
  w _ := .non
  pd _ _ := .non
section
variable {α β : Type} [DecidableEq α] [DW α] [DecidableEq β] [DW β]
theorem pds_dw {G : GH} (xs : List α) : PDs G (xs.map DW.w) (xs.map Datum.toD) := PDs.map xs fun a _ => DW.pd G a
instance : DW (Tup α) where
  w t := .tup (t.items.map DW.w)
  pd G t := .tup (pds_dw t.items)
instance : DW (α × β) where
  w p := .tup [DW.w p.1, DW.w p.2]
  pd G p := .tup (.cons (DW.pd G p.1) (.cons (DW.pd G p.2) .nil))
end
/-- w is a in G -/
def HD {α : Type} [DecidableEq α] [Datum α] (G : GH) (w : W) (a : α) : Prop := PD G w (Datum.toD a)
section
variable {α β : Type} [DecidableEq α] [DW α] [DecidableEq β] [DW β] {G : GH} {R : KW} {n : Bool} {w w1 w2 : W} {p : Addr} {xs ys : List α}
theorem hd_w (a : α) : HD G (DW.w a) a := DW.pd G a
theorem hd_lst (h : G p = some (.lst (xs.map DW.w))) : HD G (.ref p) xs := .lst h (pds_dw xs)
theorem hd_fl : HD G (.fl (xs.map DW.w)) xs := .fl (pds_dw xs)
theorem eq_hd {γ : Type} [DecidableEq γ] [Datum γ] {a b : γ} (h1 : HD G w1 a) (h2 : HD G w2 b) (hd : Datum.depth γ ≤ 60) (k : R (.bl (n != decide (a = b))) G) : eqW n w1 w2 G R := by
  have c : ∃ d1 d2, PD G w1 d1 ∧ PD G w2 d2 ∧ d1.depth ≤ 60 ∧ R (.bl (n != d1.eqv d2)) G := ⟨_, _, h1, h2, Nat.le_trans (Datum.depth_le a) hd, by rw [Datum.eqv]; exact k⟩
  have ei : ∀ a b : Int, PyData.eqv (.int a) (.int b) = decide (a = b) := fun a b => by simp [PyData.eqv]; rfl
  have es : ∀ a b : Str, PyData.eqv (.str a) (.str b) = decide (a = b) := fun a b => by simp [PyData.eqv]; rfl
  unfold eqW
  split
  · obtain ⟨d1, d2, q1, q2, _, q⟩ := c
    cases q1; cases q2
    rw [ei] at q; exact q
  · obtain ⟨d1, d2, q1, q2, _, q⟩ := c
    cases q1; cases q2
    rw [es] at q; exact q
  · exact c
theorem any_mem (a : α) : ∀ xs : List α, ((xs.map Datum.toD).any fun y => PyData.eqv y (Datum.toD a)) = decide (a ∈ xs)
  | [] => by simp
  | x :: xs => by
    rw [List.map_cons, List.any_cons, any_mem a xs, Datum.eqv]
    by_cases h : x = a
    · subst h; simp
    · have h' : ¬ a = x := fun e => h e.symm
      simp [h, h']
theorem in_lst {a : α} (h : G p = some (.lst (xs.map DW.w))) (hd : Datum.depth α ≤ 60) (k : R (.bl (n != decide (a ∈ xs))) G) : inW n (DW.w a) (.ref p) G R := by
  unfold inW
  dsimp only
  rw [h]
  exact ⟨_, _, DW.pd G a, pds_dw xs, Nat.le_trans (Datum.depth_le a) hd, by rw [any_mem]; exact k⟩
theorem in_tup {a : α} (hd : Datum.depth α ≤ 60) (k : R (.bl (n != decide (a ∈ xs))) G) : inW n (DW.w a) (.tup (xs.map DW.w)) G R :=
  ⟨_, _, DW.pd G a, pds_dw xs, Nat.le_trans (Datum.depth_le a) hd, by rw [any_mem]; exact k⟩
theorem in_fl {a : α} (hd : Datum.depth α ≤ 60) (k : R (.bl (n != decide (a ∈ xs))) G) : inW n (DW.w a) (.fl (xs.map DW.w)) G R :=
  ⟨_, _, DW.pd G a, pds_dw xs, Nat.le_trans (Datum.depth_le a) hd, by rw [any_mem]; exact k⟩
end
/-! ### loops -/
theorem forW_map {α : Type} {f : α → W} {Gd : GH → Prop} {g : TGW} {tb : TWS} {D : WEnds} (I : List α → WSt → GH → Prop)
    (step : ∀ x xs S G, I (x :: xs) S G → ∀ N : WSt → GH → Prop, (∀ S' G', I xs S' G' → N S' G') → Gd G ∧ g (f x) S G fun S1 G1 => tb { D with nx := N, ct := N, bk := D.nx } S1 G1)
    (fin : ∀ S G, I [] S G → Gd G ∧ D.nx S G) : ∀ xs S G, I xs S G → forW Gd g tb D (xs.map f) S G
  | [], S, G, h => fin S G h
  | x :: xs, S, G, h => step x xs S G h _ fun S' G' h' => forW_map I step fin xs S' G' h'
theorem compW_map {α : Type} {f : α → W} {Gd : GH → Prop} {g : TGW} {tt : TWT} {te : TW} {S0 : WSt} {R : List W → GH → Prop} (I : List α → GH → List W → Prop)
    (step : ∀ x xs G acc, I (x :: xs) G acc → ∀ N : GH → List W → Prop, (∀ G' acc', I xs G' acc' → N G' acc') → Gd G ∧ g (f x) S0 G fun S2 G2 => tt S2 G2 fun b G3 => if b = true then te S2 G3 fun w G4 => acc.length < sizeLine ∧ N G4 (acc ++ [w]) else N G3 acc)
    (fin : ∀ G acc, I [] G acc → Gd G ∧ R acc G) : ∀ xs G acc, I xs G acc → compW Gd g tt te S0 R (xs.map f) G acc
  | [], G, acc, h => fin G acc h
  | x :: xs, G, acc, h => step x xs G acc h _ fun G' acc' h' => compW_map I step fin xs G' acc' h'
theorem compW_pureF {α : Type} {f v : α → W} {keep : α → Bool} {Gd : GH → Prop} {g : TGW} {tt : TWT} {te : TW} {S0 : WSt} {R : List W → GH → Prop} {G : GH} (hg : Gd G) :
    ∀ (xs : List α) (acc : List W), acc.length + xs.length ≤ sizeLine →
    (∀ x ∈ xs, ∀ (R' : KW) (N' : GH → Prop), (keep x = true → R' (v x) G) → (keep x = false → N' G) → g (f x) S0 G fun S2 G2 => tt S2 G2 fun b G3 => if b = true then te S2 G3 R' else N' G3) →
    R (acc ++ (xs.filter keep).map v) G → compW Gd g tt te S0 R (xs.map f) G acc
  | [], acc, _, _, r => ⟨hg, by simpa using r⟩
  | x :: xs, acc, hl, st, r => by
    rw [List.length_cons] at hl
    refine ⟨hg, st x List.mem_cons_self _ _ (fun k => ⟨by omega, ?_⟩) fun k => ?_⟩
    · refine compW_pureF hg xs (acc ++ [v x]) (by rw [List.length_append, List.length_singleton]; omega) (fun y hy => st y (List.mem_cons_of_mem _ hy)) ?_
      rw [List.filter_cons_of_pos k, List.map_cons] at r
      simpa using r
    · refine compW_pureF hg xs acc (by omega) (fun y hy => st y (List.mem_cons_of_mem _ hy)) ?_
      rw [List.filter_cons_of_neg (by simp [k])] at r
      exact r
theorem compW_pure {α : Type} {f v : α → W} {Gd : GH → Prop} {g : TGW} {te : TW} {S0 : WSt} {R : List W → GH → Prop} {G : GH} (hg : Gd G) :
    ∀ (xs : List α) (acc : List W), acc.length + xs.length ≤ sizeLine →
    (∀ x ∈ xs, ∀ (R' : KW), R' (v x) G → g (f x) S0 G fun S2 G2 => te S2 G2 R') →
    R (acc ++ xs.map v) G → compW Gd g tYesW te S0 R (xs.map f) G acc
  | [], acc, _, _, r => ⟨hg, by simpa using r⟩
  | x :: xs, acc, hl, st, r => by
    rw [List.length_cons] at hl
    refine ⟨hg, st x List.mem_cons_self _ ⟨by omega, ?_⟩⟩
    refine compW_pure hg xs (acc ++ [v x]) (by rw [List.length_append, List.length_singleton]; omega) (fun y hy => st y (List.mem_cons_of_mem _ hy)) ?_
    rw [List.map_cons] at r
    simpa using r
theorem atI_map {α : Type} {f : α → W} {xs : List α} {i : Int} (h0 : 0 ≤ i) (h1 : i < xs.length) : ∃ z, xs[i.toNat]? = some z ∧ z ∈ xs ∧ atI (xs.map f) i = some (f z) := by
  have h2 : i.toNat < xs.length := by omega
  refine ⟨xs[i.toNat], by simp [h2], List.getElem_mem _, ?_⟩
  unfold atI ixN
  rw [if_pos h0, List.length_map, if_pos h1]
  simp [h2]
/-- what else stands is kept -/
def KeepG (d : Addr) (G G' : GH) : Prop := ∀ a o, a ≠ d → G a = some o → G' a = some o
theorem KeepG.refl {d : Addr} {G : GH} : KeepG d G G := fun _ _ _ h => h
theorem KeepG.trans {d : Addr} {G G' G2 : GH} (a : KeepG d G G') (b : KeepG d G' G2) : KeepG d G G2 := fun c o n h => b c o n (a c o n h)
theorem KeepG.new {d p : Addr} {G : GH} {o : GO} (h : G p = none) : KeepG d G (updG G p o) := fun a x _ e => by rw [updG_ne (neG e h)]; exact e
theorem KeepG.put {d : Addr} {G : GH} {o : GO} : KeepG d G (updG G d o) := fun a x n e => by rw [updG_ne n]; exact e
/-- all that stands is kept -/
def ExtG (G G' : GH) : Prop := ∀ a o, G a = some o → G' a = some o
theorem ExtG.refl {G : GH} : ExtG G G := fun _ _ h => h
theorem ExtG.trans {G G' G2 : GH} (a : ExtG G G') (b : ExtG G' G2) : ExtG G G2 := fun c o h => b c o (a c o h)
theorem ExtG.new {p : Addr} {G : GH} {o : GO} (h : G p = none) : ExtG G (updG G p o) := fun a x e => by rw [updG_ne (neG e h)]; exact e
theorem ExtG.keep {d : Addr} {G G' : GH} (a : ExtG G G') : KeepG d G G' := fun b o _ h => a b o h
theorem KeepG.ext {d : Addr} {G G' G2 : GH} (a : KeepG d G G') (b : ExtG G' G2) : KeepG d G G2 := a.trans b.keep

theorem itemsW_lst {G : GH} {p : Addr} {xs : List W} (h : G p = some (.lst xs)) : itemsW (.ref p) G = some xs := by
  unfold itemsW
  dsimp only
  rw [h]

theorem walkW_items {w : W} {G : GH} {xs : List W} {R : List W → (GH → Prop) → GH → Prop} (h : itemsW w G = some xs) (k : ∀ Gd : GH → Prop, (∀ G', ExtG G G' → Gd G') → R xs Gd G) : walkW w G R := by
  unfold itemsW at h
  unfold walkW
  cases w with
  | tup ys => cases h; exact k _ fun _ _ => trivial
  | kt ys => cases h; exact k _ fun _ _ => trivial
  | fl ys => cases h; exact k _ fun _ _ => trivial
  | ref p =>
    dsimp only at h ⊢
    split at h
    · rename_i ys e
      cases h
      try rw [e]
      exact k _ fun _ x => x _ _ e
    · cases h
  | _ => cases h
theorem tISeq_v {i : Nat} {w : W} {S : WSt} {G : GH} {xs : List W} {R : List W → (GH → Prop) → GH → Prop} (e : S[i]? = some (some w)) (h : itemsW w G = some xs) (k : ∀ Gd : GH → Prop, (∀ G', ExtG G G' → Gd G') → R xs Gd G) : tISeq (tV i) S G R := by
  unfold tISeq tV
  rw [e]
  exact walkW_items h k
theorem recL_lst {p : Addr} {G : GH} {xs : List W} (h : G p = some (.lst xs)) : recL (.ref p) G := by
  unfold recL
  dsimp only
  rw [h]
  trivial
theorem KeepG.putNew {d f : Addr} {G G' : GH} {o : GO} (k : KeepG d G G') (h : G f = none) : KeepG d G (updG G' f o) := fun a x n e => by rw [updG_ne (neG e h)]; exact k a x n e
theorem ExtG.putNew {f : Addr} {G G' : GH} {o : GO} (k : ExtG G G') (h : G f = none) : ExtG G (updG G' f o) := fun a x e => by rw [updG_ne (neG e h)]; exact k a x e
theorem ExtG.items {w : W} {G G' : GH} {xs : List W} (x : ExtG G G') (h : itemsW w G = some xs) : itemsW w G' = some xs := by
  unfold itemsW at h ⊢
  cases w with
  | ref p =>
    dsimp only at h ⊢
    split at h
    · rename_i ys e
      cases h
      rw [x _ _ e]
    · cases h
  | _ => exact h
/-- a comprehension whose items may make new things -/
theorem compW_ext {α : Type} {f v : α → W} {Gd : GH → Prop} {g : TGW} {te : TW} {S0 : WSt} {R : List W → GH → Prop} {G0 : GH} {xs : List α} {G : GH} (hg : ∀ G', ExtG G0 G' → Gd G') (x0 : ExtG G0 G) (hl : xs.length ≤ sizeLine)
    (step : ∀ x ∈ xs, ∀ G (R' : KW), ExtG G0 G → (∀ G', ExtG G G' → R' (v x) G') → g (f x) S0 G fun S2 G2 => te S2 G2 R')
    (fin : ∀ G', ExtG G G' → R (xs.map v) G') : compW Gd g tYesW te S0 R (xs.map f) G [] := by
  have key : ∀ (ys zs : List α) (G1 : GH), zs ++ ys = xs → ExtG G G1 → compW Gd g tYesW te S0 R (ys.map f) G1 (zs.map v) := by
    intro ys
    induction ys with
    | nil =>
      intro zs G1 e x
      rw [List.append_nil] at e
      subst e
      exact ⟨hg _ (x0.trans x), fin _ x⟩
    | cons y ys ih =>
      intro zs G1 e x
      have hz : zs.length + (ys.length + 1) = xs.length := by rw [← e]; simp
      refine ⟨hg _ (x0.trans x), step y (by rw [← e]; simp) G1 _ (x0.trans x) fun G2 x2 => ⟨by rw [List.length_map]; omega, ?_⟩⟩
      have := ih (zs ++ [y]) G2 (by rw [← e]; simp) (x.trans x2)
      rw [List.map_append, List.map_singleton] at this
      exact this
  exact key xs [] G rfl .refl

/-! ### texts -/
theorem txt_int_len {i : Int} {k : Nat} (hk : 0 < k) (h : i.natAbs < 10 ^ k) : (Str.ofString (toString i)).length ≤ k + 1 := by
  rw [PySem.ofString_length]; exact int_text_length_le10 hk h
theorem log2_lt {n k : Nat} (h : n < 2 ^ k) (hk : 0 < k) : n.log2 < k := by
  by_cases h0 : n = 0
  · subst h0; simpa using hk
  · exact (Nat.log2_lt h0).mpr h
theorem sum_le {α : Type} {f : α → Nat} {B : Nat} : ∀ {xs : List α}, (∀ x ∈ xs, f x ≤ B) → (xs.map f).sum ≤ xs.length * B
  | [], _ => by simp
  | x :: xs, h => by
    have h1 := h x List.mem_cons_self
    have h2 := sum_le (xs := xs) fun y hy => h y (List.mem_cons_of_mem _ hy)
    simp only [List.map_cons, List.sum_cons, List.length_cons, Nat.add_mul, Nat.one_mul]
    omega
theorem txt_join (sep : Str) (xs : List Str) : Txt.join sep xs = Str.join sep xs := by
  have := @PyProof.Rows.join_closes sep sep xs rfl
  simpa using this
theorem join_len {sep : Str} {B : Nat} : ∀ {xs : List Str}, (∀ x ∈ xs, x.length ≤ B) → (Str.join sep xs).length ≤ xs.length * (B + sep.length)
  | [], _ => by simp [Str.join, Str.empty, Str.length]
  | [x], h => by
    have := h x List.mem_cons_self
    show x.length ≤ _
    simp only [List.length_cons, List.length_nil]
    omega
  | x :: y :: xs, h => by
    have h1 := h x List.mem_cons_self
    have h2 := join_len (sep := sep) (xs := y :: xs) fun z hz => h z (List.mem_cons_of_mem _ hz)
    show (x ++ sep ++ Str.join sep (y :: xs)).length ≤ _
    rw [Str.length_append, Str.length_append]
    simp only [List.length_cons] at h2 ⊢
    have e : (xs.length + 1 + 1) * (B + sep.length) = (xs.length + 1) * (B + sep.length) + (B + sep.length) := Nat.succ_mul _ _
    omega
/-- a text of texts -/
theorem joinW_of {sep : Str} {xs : List Str} {G : GH} {R : KW} (B : Nat) (h : ∀ x ∈ xs, x.length ≤ B) (hz : xs.length * (B + sep.length) ≤ 16777216) (k : R (.str (Str.join sep xs)) G) : joinW (.str sep) (xs.map W.str) G R := by
  unfold joinW
  dsimp only
  rw [strsOf_map]
  have := sum_le (f := fun x : Str => x.length) h
  rw [Nat.mul_add] at hz
  exact ⟨by omega, by rw [txt_join]; exact k⟩
theorem txt_int_pos {n : Int} : 1 ≤ (Str.ofString (toString n)).length := by
  rw [PySem.ofString_length]
  cases n with
  | ofNat m =>
    show 1 ≤ (Nat.repr m).length
    simpa [Nat.repr] using PySem.toDigits_len_ge 10 m
  | negSucc m =>
    have e : toString (Int.negSucc m) = "-" ++ Nat.repr (m + 1) := rfl
    rw [e, String.length_append]
    have e1 : "-".length = 1 := rfl
    omega
theorem join_pos {sep : Str} : ∀ {xs : List Str}, xs ≠ [] → (∀ x ∈ xs, 1 ≤ x.length) → 1 ≤ (Str.join sep xs).length
  | [], h, _ => absurd rfl h
  | [x], _, h => h x List.mem_cons_self
  | x :: y :: xs, _, h => by
    have := h x List.mem_cons_self
    show 1 ≤ (x ++ sep ++ Str.join sep (y :: xs)).length
    rw [Str.length_append, Str.length_append]
    omega
/-- ' '.join([str(n) for n in ns]) -/
theorem strs_of_ints {ns : List Int} {G : GH} {R : List W → GH → Prop} {Gd : GH → Prop} {g : TGW} {te : TW} {S0 : WSt} {k : Nat} (hg : Gd G) (hl : ns.length ≤ sizeLine) (hb : ∀ n ∈ ns, n.natAbs < 2 ^ 1920)
    (st : ∀ n ∈ ns, ∀ R' : KW, (n.natAbs.log2 < 1920 ∧ R' (.str (Str.ofString (toString n))) G) → g (.int n) S0 G fun S2 G2 => te S2 G2 R')
    (fin : R ((ns.map fun n => Str.ofString (toString n)).map W.str) G) : compW Gd g tYesW te S0 R (ns.map W.int) G [] := by
  refine compW_pure (f := W.int) (v := fun n => W.str (Str.ofString (toString n))) hg ns [] (by simpa using hl) (fun n hn R' q' => st n hn R' ⟨log2_lt (hb n hn) (by decide), q'⟩) ?_
  rw [List.nil_append, show (ns.map fun n => W.str (Str.ofString (toString n))) = (ns.map fun n => Str.ofString (toString n)).map W.str by rw [List.map_map]; rfl]
  exact fin
theorem depthAll_le {B : Nat} : ∀ {xs : List PyData}, (∀ x ∈ xs, x.depth ≤ B) → PyData.depthAll xs ≤ B
  | [], _ => Nat.zero_le _
  | x :: xs, h => by
    rw [PyData.depthAll]
    exact Nat.max_le.mpr ⟨h x List.mem_cons_self, depthAll_le fun y hy => h y (List.mem_cons_of_mem _ hy)⟩
theorem depthAll_ints (ns : List Int) : PyData.depthAll (ns.map .int) = 0 := Nat.le_zero.mp (depthAll_le fun x hx => by
  obtain ⟨n, _, rfl⟩ := List.mem_map.mp hx
  exact Nat.le_refl _)
/-- two lists of the same data -/
theorem eq_same {G : GH} {R : KW} {n : Bool} {p q : Addr} {xs : List W} {ds : List PyData} (h1 : G p = some (.lst xs)) (h2 : G q = some (.lst xs)) (hp : PDs G xs ds) (hd : ∀ d ∈ ds, d.depth ≤ 59) (k : R (.bl (n != true)) G) : eqW n (.ref p) (.ref q) G R := by
  refine ⟨_, _, .lst h1 hp, .lst h2 hp, ?_, ?_⟩
  · rw [PyData.depth]
    exact Nat.succ_le_succ (depthAll_le hd)
  · rw [SeqAt.eqv_refl_plain _ (PD.plain (.lst h1 hp))]
    exact k
/-! ### a law's start -/
theorem law_sp {K : PySem.W.Frag} {H : Hp} {a : Addr} {ns : List Int} {P : SpW} (hP : P [.fl (ns.map W.int)] (fun _ => none) (fun w _ => w = .bl true) XF) (o : Only H) (h : SqL K H a (ns.map V.int)) :
    spL K P [.ref a] H (fun v _ => v = .bl true) fun _ _ _ => False := by
  refine ⟨[.fl (ns.map W.int)], fun _ => none, fun w _ => w = .bl true, XF, .cons (.fl ?_ (RVs.of_ints ns)) .nil, ?_, hP, ?_, .no⟩
  · rcases h with h | h
    · rcases o a with z | ⟨ob, xs, z⟩
      · rcases h with h | ⟨ob, h⟩ <;> (rw [z] at h; cases h)
      · rcases h with h | ⟨ob', h⟩
        · rw [z] at h; cases h
        · exact .inl ⟨ob', h⟩
    · exact .inr h
  · intro b x e; cases e
  · intro w G' v H' e f rv rh
    subst e
    cases rv
    rfl
theorem gv_int {K : PySem.W.Frag} {mg : Str → Option Value} {x : Str} {n : Int} {t : Tok} (h : mg x = some (.int n t)) : Gv K mg x (.int n) := ⟨.int n, _, h, ⟨t, rfl⟩, fun _ => .int n⟩
theorem gv_bool {K : PySem.W.Frag} {mg : Str → Option Value} {x : Str} {b : Bool} (h : mg x = some (.bool b)) : Gv K mg x (.bl b) := ⟨.bl b, _, h, rfl, fun _ => .bl b⟩
theorem gv_str {K : PySem.W.Frag} {mg : Str → Option Value} {x : Str} {n : Str} {t : Tok} (h : mg x = some (.str n t)) : Gv K mg x (.str n) := ⟨.str n, _, h, ⟨t, rfl⟩, fun _ => .str n⟩
end WL
set_option Elab.async false
set_option linter.all false
set_option maxRecDepth 100000
set_option maxHeartbeats 4000000
/-! WL, part k: defs called where no repr is under way; repr. -/
namespace WL
open PySem PySem.Spec PyProof.Rows L2

/-- a def's promise where no repr is under way -/
structure FnG (P : Program) (w : World) (K : PySem.W.Frag) (mg : Str → Option Value) (base : Heap) (CX : CXT) (k : Nat) (f : Addr) (fd : FuncData) (ps : List Str) (sp : Sp) : Prop where
  size : ∀ {vs : List V} {H : Hp} {Q : VK} {E : XK}, sp vs H Q E → vs.length = ps.length
  goes : ∀ {A : Around} {out : List Env} {s : Shared} {H : Hp} {as : Args} {us : List Value} {vs : List V} {Q : VK} {E : XK}, A.guards = some [] → Room k A → Env0 P w K mg base A out s H →
    BindsTo s fd as (ps.zip us) → Vals vs us → sp vs H Q E → codeAny (model P w) A (.call (.ref f) as) (CR CX out P w H s Q E) s
section
variable {P : Program} {w : World} {K : PySem.W.Frag} {mg : Str → Option Value} {base : Heap} {CX : CXT} {x qual : Str} {st : Stmt} {f : Addr} {fd : FuncData} {N ps : List Str} {k j : Nat} {sp : Sp}
theorem _root_.L2.FnOk.g (F : FnOk P w K mg base CX k f fd ps sp) : FnG P w K mg base CX k f fd ps sp := ⟨fun h => F.len _ _ _ _ h, fun _ hr e b r h => F.run _ _ _ _ _ _ _ _ _ hr e b r h⟩
theorem FnG.up (F : FnG P w K mg base CX j f fd ps sp) (h : j ≤ k) : FnG P w K mg base CX k f fd ps sp := ⟨F.size, fun g hr => F.goes g (hr.mono h)⟩
/-- the body keeps the promise -/
theorem fn_g (F : Fun K x qual st f fd) (S : FnScope N ps (defScope st)) (len : ∀ vs H Q E, sp vs H Q E → vs.length = ps.length)
    (body : ∀ (cdv : Value) (A : Around) (out : List Env) (s : Shared) (H : Hp) (vs : List V) (Q : VK) (E : XK), A.guards = some [] → Room k (A.deeper (envOfC qual (defScope st) s.heap.objs.size f cdv)) → sp vs H Q E →
      ∃ t, PSs (cxOf CX P w K mg base N qual (defScope st) f cdv A out s H E) (defBody st) t ∧ t { nx := fun _ H' => Q .non H', rt := Q } (start N vs) H) : FnG P w K mg base CX (k + 1) f fd ps sp := by
  obtain ⟨oc, od, kV, doc, pm, an, cdv, ct, osl, rfl, lk, hcd⟩ := F.ex
  refine ⟨fun h => len _ _ _ _ h, fun {A out s H as us vs Q E} hgd hr e0 hb r hsp => ?_⟩
  have kin : K.In s.heap := e0.mod.kin.keeps fun b o e => (e0.bs b o e).1
  have places : ∀ y ∈ ps.zip us, (defScope st).names.lookup y.1 = some .local ∨ ((defScope st).names.lookup y.1 = some .cell ∧ ((cellsFrom (s.heap.objs.size + 1) (defScope st).names []).lookup y.1).isSome = true) := by
    rintro ⟨n, v⟩ hy
    have z := S.par n (List.of_mem_zip hy).1
    exact z.imp id fun q => ⟨q, PySem.W.cellsFrom_some _ _ _ (.inl q)⟩
  refine codeAny_call_function hr.depth (kin _ _ lk) rfl S.co S.gen rfl (PySem.W.codeRec_of kin hcd) (hb _ _ _ _ (wpAny_newFunctionEnv_cells S.kind places fun env he s1 xx => ?_))
  subst he
  refine ⟨(e0.mod.nolimit.keeps fun b o e => (e0.bs b o e).1).keeps xx.toInCall.keep, codeAny_func ?_⟩
  obtain ⟨t, ht, hq⟩ := body cdv A out s H vs Q E hgd (hr.deeper _) hsp
  have J0 : Inv (cxOf CX P w K mg base N qual (defScope st) f cdv A out s H E) [] (start N vs) H s1 := inv_start S hr.hd e0 (len _ _ _ _ hsp) r xx
  refine wpAny_mono (ht.run [] s1 (start N vs) H _ J0 hq) (fun fl s' hs => ?_) fun _ _ z => z
  cases fl with
  | ret u =>
    obtain ⟨v, σ', H', J, rv, q⟩ := hs
    exact ⟨v, H', J.os, J.bare, J.base, J.hok, rv, q⟩
  | next =>
    obtain ⟨σ', H', J, q⟩ := hs
    exact ⟨V.non, H', J.os, J.bare, J.base, J.hok, rfl, q⟩
  | brk => exact (show False from hs.choose_spec.choose_spec.2).elim
  | cont => exact (show False from hs.choose_spec.choose_spec.2).elim
end
section
variable {X : Cx} {Z : GH × Hp} {CX : CXT} {k j : Nat} {f C : Addr} {fd : FuncData} {ps : List Str} {sp : Sp} {dvs : List V} {ds : List Value} {E0 : XK} {x m : Str} {p pos apos : Pos} {e o : Expr} {es : List Expr} {t : TA} {P : SpW} {Ta : TW} {Tr : TWA} {dws : List W}
theorem run_g {pins : List (Addr × Obj)} {σ : L2.St} {H : Hp} {s : Shared} {Q : VK} {us : List Value} {vs : List V} (F : FnG X.prog X.w X.K X.mg X.base CX k f fd ps sp) (hgd : X.A.guards = some []) (hr : Room k X.A) (hb : Binds X.K fd ps ds) (hd : Vals dvs ds) (hx : Passes CX X E0)
    (I : Inv X pins σ H s) (r : Vals vs us) (h : sp (vs ++ dvs) H Q E0) : wpAny (model X.prog X.w) X.A (call (.ref f) us) (EP X pins σ Q) X.xe s := by
  have both : Vals (vs ++ dvs) (us ++ ds) := r.append hd
  refine wpAny_call (codeAny_mono (F.goes hgd hr I.env0 (hb s us I.kIn (by rw [← both.length]; exact F.size h)) both h) ?_)
  intro res s' hq
  match res, hq with
  | .error e, hq => exact hx pins σ H s e s' I hq
  | .ok (.ret u), hq => exact I.after hq
theorem pe_callG (F : FnG X.prog X.w X.K X.mg X.base CX k f fd ps sp) (hgd : X.A.guards = some []) (hr : Room k X.A) (hg : Gl X x) (hm : X.mg x = some (.ref f)) (hk : PySem.W.keepIn X.K (.ref f) = true) (hb : Binds X.K fd ps ds) (hd : Vals dvs ds) (hx : Passes CX X E0) (ha : PA X (e :: es) t)
    (hdb : (x == ("__debug__" : Str)) = false := by decide) (he : starEach (e :: es) X.env = (false, eval e X.env) :: starEach es X.env := by rfl) (hpl : (backTo pos (starEach es X.env)).any (·.1) = false := by rfl) : PE X (.Call (.Name x p) (e :: es) [] pos) (tCall sp dvs E0 t) :=
  ⟨fun pins s σ H Q I h => wpAny_Call_Name_kw (ld_glob I hg hm (PySem.W.callWith_K (h₀ := X.base) I.ok.mod.kin hk (thn (ha.run pos pins s σ H _ I h) fun us s1 ⟨vs, H1, I1, r, q⟩ => ⟨I1.kIn, run_g F hgd hr hb hd hx I1 r q⟩) he hpl) hdb)⟩
theorem pe_callG0 (F : FnG X.prog X.w X.K X.mg X.base CX k f fd ps sp) (hgd : X.A.guards = some []) (hr : Room k X.A) (hg : Gl X x) (hm : X.mg x = some (.ref f)) (hk : PySem.W.keepIn X.K (.ref f) = true) (hb : Binds X.K fd ps ds) (hd : Vals dvs ds) (hx : Passes CX X E0)
    (hdb : (x == ("__debug__" : Str)) = false := by decide) : PE X (.Call (.Name x p) [] [] pos) (tCall sp dvs E0 tNil) :=
  ⟨fun pins s σ H Q I h => wpAny_Call_Name_kw (ld_glob I hg hm (PySem.W.callWith_K0 I.kIn hk (run_g (us := []) F hgd hr hb hd hx I .nil h)) hdb)⟩
/-- a call that raises nothing -/
theorem we_callGD (F : FnG X.prog X.w X.K X.mg X.base CX k f fd ps (spL X.K P)) (hgd : X.A.guards = some []) (hr : Room k X.A) (hg : Gl X x) (hm : X.mg x = some (.ref f)) (hk : PySem.W.keepIn X.K (.ref f) = true) (hb : Binds X.K fd ps ds) (hd : Vals dvs ds) (hdw : ∀ H, RVs X.K H dvs dws) (hx : Passes CX X E0)
    (ha : WA X Z (e :: es) Tr) (hdb : (x == ("__debug__" : Str)) = false := by decide) (he : starEach (e :: es) X.env = (false, eval e X.env) :: starEach es X.env := by rfl) (hpl : (backTo pos (starEach es X.env)).any (·.1) = false := by rfl) :
    WE X Z (.Call (.Name x p) (e :: es) [] pos) (tCall0 P dws Tr) := (pe_callG F hgd hr hg hm hk hb hd hx ha hdb he hpl).weak (lfCall hdw)
theorem lfNilCall {K : PySem.W.Frag} {E : XK} (hdw : ∀ H, RVs K H dvs dws) (σ : L2.St) (H : Hp) (Q : VK) (h : Lf K Z (tCall0 P dws tN) σ H Q) : tCall (spL K P) dvs E tNil σ H Q := by
  obtain ⟨S, G, R, sr, t, k⟩ := h
  exact ⟨dws, G, R, XF, hdw H, sr.rh, t, k, .no⟩
theorem we_callGD0 (F : FnG X.prog X.w X.K X.mg X.base CX k f fd ps (spL X.K P)) (hgd : X.A.guards = some []) (hr : Room k X.A) (hg : Gl X x) (hm : X.mg x = some (.ref f)) (hk : PySem.W.keepIn X.K (.ref f) = true) (hb : Binds X.K fd ps ds) (hd : Vals dvs ds) (hdw : ∀ H, RVs X.K H dvs dws) (hx : Passes CX X E0)
    (hdb : (x == ("__debug__" : Str)) = false := by decide) : WE X Z (.Call (.Name x p) [] [] pos) (tCall0 P dws tN) := (pe_callG0 F hgd hr hg hm hk hb hd hx hdb).weak (lfNilCall hdw)
end

/-- a def of the module, and its promise; its parameters' defaults -/
structure DfG (P : Program) (w : World) (K : PySem.W.Frag) (mg : Str → Option Value) (base : Heap) (CX : CXT) (k : Nat) (x : Str) (ps : List Str) (dws : List W) (sp : SpW) : Prop where
  ex : ∃ f fd dvs ds, FnG P w K mg base CX k f fd ps (spL K sp) ∧ mg x = some (.ref f) ∧ PySem.W.keepIn K (.ref f) = true ∧ Binds K fd ps ds ∧ Vals dvs ds ∧ ∀ H, RVs K H dvs dws
section
variable {X : Cx} {Z : GH × Hp} {e : Expr} {pos p : Pos} {es : List Expr} {Tr : TWA} {k j : Nat} {ps : List Str} {P : SpW} {x : Str} {dws : List W}
theorem we_h (D : DfG X.prog X.w X.K X.mg X.base CX0 k x ps dws P) (hgd : X.A.guards = some []) (hr : Room j X.A) (ha : WA X Z (e :: es) Tr) (hk : k ≤ j := by decide) (hg : Gl X x := by rfl) (hdb : (x == ("__debug__" : Str)) = false := by decide)
    (he : starEach (e :: es) X.env = (false, eval e X.env) :: starEach es X.env := by rfl) (hpl : (backTo pos (starEach es X.env)).any (·.1) = false := by rfl) : WE X Z (.Call (.Name x p) (e :: es) [] pos) (tCall0 P dws Tr) := by
  obtain ⟨f, fd, dvs, ds, F, hm, hk', hb, hd, hdw⟩ := D.ex
  exact we_callGD F hgd (hr.mono hk) hg hm hk' hb hd hdw pass0 ha hdb he hpl
/-- .. of a def that may raise, where it does not -/
theorem we_hX (D : DfG X.prog X.w X.K X.mg X.base (L2.CX X.prog X.w) k x ps dws P) (hgd : X.A.guards = some []) (hr : Room j X.A) (ha : WA X Z (e :: es) Tr) (hk : k ≤ j := by decide) (hg : Gl X x := by rfl) (hdb : (x == ("__debug__" : Str)) = false := by decide)
    (he : starEach (e :: es) X.env = (false, eval e X.env) :: starEach es X.env := by rfl) (hpl : (backTo pos (starEach es X.env)).any (·.1) = false := by rfl) : WE X Z (.Call (.Name x p) (e :: es) [] pos) (tCall0 P dws Tr) := by
  obtain ⟨f, fd, dvs, ds, F, hm, hk', hb, hd, hdw⟩ := D.ex
  exact we_callGD F hgd (hr.mono hk) hg hm hk' hb hd hdw passL ha hdb he hpl
theorem we_h0 (D : DfG X.prog X.w X.K X.mg X.base CX0 k x ps dws P) (hgd : X.A.guards = some []) (hr : Room j X.A) (hk : k ≤ j := by decide) (hg : Gl X x := by rfl) (hdb : (x == ("__debug__" : Str)) = false := by decide) : WE X Z (.Call (.Name x p) [] [] pos) (tCall0 P dws tN) := by
  obtain ⟨f, fd, dvs, ds, F, hm, hk', hb, hd, hdw⟩ := D.ex
  exact we_callGD0 F hgd (hr.mono hk) hg hm hk' hb hd hdw pass0 hdb
end
section
variable {P : Program} {w : World} {K : PySem.W.Frag} {mg : Str → Option Value} {base : Heap} {x qual : Str} {st : Stmt} {f : Addr} {fd : FuncData} {N ps : List Str} {k : Nat} {Q : SpW}
theorem okG (F : Fun K x qual st f fd) (S : FnScope N ps (defScope st)) (len : ∀ ws G R RX, Q ws G R RX → ws.length = ps.length)
    (hbody : ∀ (cdv : Value) (A : Around) (outer : List Env) (s : Shared) (H : Hp) (E : XK) (ws : List W) (G : GH) (R : KW) (RX : XW), A.guards = some [] → Room k (A.deeper (envOfC qual (defScope st) s.heap.objs.size f cdv)) → Q ws G R RX →
      ∃ T : TWS, WSs (cxOf CX0 P w K mg base N qual (defScope st) f cdv A outer s H E).nox (G, H) (defBody st) T ∧ T { nx := fun _ G' => R .non G', rt := R } (startW N ws) G) : FnG P w K mg base CX0 (k + 1) f fd ps (spL K Q) := by
  refine fn_g F S (fun vs H R E h => ?_) fun cdv A outer s H vs Qv E hgd hr h => ?_
  · obtain ⟨ws, G, R, RX, rs, rh, t, _⟩ := h
    rw [rs.length]; exact len ws G R RX t
  · obtain ⟨ws, G, R, RX, rs, rh, t, kl, kx⟩ := h
    obtain ⟨T, hT, q⟩ := hbody cdv A outer s H E ws G R RX hgd hr t
    refine ⟨_, PSs.nox hT, startW N ws, G, _, ⟨.refl, ?_, rh⟩, q, ⟨fun S' G' σ' H' d sr f => kl _ _ _ _ d f .non sr.rh, fun w G' v H' d f rv rh' => kl _ _ _ _ d f rv rh', fun _ _ _ _ d => d.elim, fun _ _ _ _ d => d.elim⟩⟩
    unfold L2.start startW
    rw [← rs.length]
    exact Paired.app (startW_ok rs) (Paired.reps (fun w e => by cases e) _)
/-- .. that may raise -/
theorem okGX (F : Fun K x qual st f fd) (S : FnScope N ps (defScope st)) (len : ∀ ws G R RX, Q ws G R RX → ws.length = ps.length)
    (hbody : ∀ (cdv : Value) (A : Around) (outer : List Env) (s : Shared) (H : Hp) (E : XK) (ws : List W) (G : GH) (R : KW) (RX : XW), A.guards = some [] → Room k (A.deeper (envOfC qual (defScope st) s.heap.objs.size f cdv)) → XL K G H RX E → Q ws G R RX →
      ∃ T : TWS, WSs (cxOf (L2.CX P w) P w K mg base N qual (defScope st) f cdv A outer s H E) (G, H) (defBody st) T ∧ T { nx := fun _ G' => R .non G', rt := R } (startW N ws) G) : FnG P w K mg base (L2.CX P w) (k + 1) f fd ps (spL K Q) := by
  refine fn_g F S (fun vs H R E h => ?_) fun cdv A outer s H vs Qv E hgd hr h => ?_
  · obtain ⟨ws, G, R, RX, rs, rh, t, _⟩ := h
    rw [rs.length]; exact len ws G R RX t
  · obtain ⟨ws, G, R, RX, rs, rh, t, kl, kx⟩ := h
    obtain ⟨T, hT, q⟩ := hbody cdv A outer s H E ws G R RX hgd hr kx t
    refine ⟨_, hT, startW N ws, G, _, ⟨.refl, ?_, rh⟩, q, ⟨fun S' G' σ' H' d sr f => kl _ _ _ _ d f .non sr.rh, fun w G' v H' d f rv rh' => kl _ _ _ _ d f rv rh', fun _ _ _ _ d => d.elim, fun _ _ _ _ d => d.elim⟩⟩
    unfold L2.start startW
    rw [← rs.length]
    exact Paired.app (startW_ok rs) (Paired.reps (fun w e => by cases e) _)
end
/-! ### repr -/
mutual
theorem PD.noDict {G : GH} : ∀ {w : W} {d : PyData}, PD G w d → d.hasDict = false
  | _, _, .non => rfl
  | _, _, .bl _ => rfl
  | _, _, .int _ => rfl
  | _, _, .str _ => rfl
  | _, _, .tup q => by simpa only [PyData.hasDict] using PDs.noDict q
  | _, _, .kt q => by simpa only [PyData.hasDict] using PDs.noDict q
  | _, _, .fl q => by simpa only [PyData.hasDict] using PDs.noDict q
  | _, _, .lst _ q => by simpa only [PyData.hasDict] using PDs.noDict q
theorem PDs.noDict {G : GH} : ∀ {w : List W} {d : List PyData}, PDs G w d → PyData.hasDictAll d = false
  | _, _, .nil => rfl
  | _, _, .cons q r => by simp only [PyData.hasDictAll, PD.noDict q, PDs.noDict r, Bool.or_self]
end
def reprW : CW := fun ws G R => match ws with
  | [w] => ∃ d, PD G w d ∧ d.showable = true ∧ d.depth ≤ 60 ∧ d.shown.length ≤ sizeLine ∧ R (.str d.shown) G
  | _ => False
section
variable {X : Cx}
theorem repr_place {pins : List (Addr × Obj)} {s : Shared} {σ : L2.St} {H : Hp} {a : Addr} {d : PyData} {Q : VK} (hgd : X.A.guards = some []) (hu : X.A.units + 70 < cLine) (I : Inv X pins σ H s) (r : ∃ as, Reads s.heap (.ref a) d as) (hs : d.showable = true) (hd : d.hasDict = false) (hp : d.depth ≤ 60) (hz : d.shown.length ≤ sizeLine)
    (k : Q (.str d.shown) H) : wpAny (model X.prog X.w) X.A (call (.builtin "repr") [.ref a]) (EP X pins σ Q) X.xe s := by
  obtain ⟨as, r⟩ := r
  exact repr_of_reads' r hs (fun e => by rw [hd] at e; cases e) hgd (by omega) (fun _ _ e => e) (fun h' u tk hk => ⟨.str d.shown, H, I.kept hk, ⟨u, rfl⟩, k⟩) hz
theorem call_reprW (hgd : X.A.guards = some []) (hu : X.A.units + 70 < cLine) : CallW X (.builtin "repr") reprW := by
  intro pins s σ H xs us Q I r h
  obtain ⟨ws, G, R, rs, rh, t, k⟩ := h
  match ws, t, rs with
  | [w], t, rs =>
    obtain ⟨d, pd, hs, hp, hz, t⟩ := t
    obtain ⟨v, rfl, rv⟩ := rs.one
    obtain ⟨u, rfl, ru⟩ : ∃ u, us = [u] ∧ RelV v u := by
      cases r with
      | cons a b => cases b; exact ⟨_, rfl, a⟩
    have kk : Q (.str d.shown) H := k.here t (.str _) rh
    have hdp := Dp.reads I d v u (pd.dp rh rv) ru
    cases pd with
    | non =>
      cases rv
      obtain rfl : u = Value.none := ru
      exact PySem.P.repr_of_none ⟨.str _, H, I.tok _, ⟨_, rfl⟩, kk⟩
    | bl b =>
      cases rv
      obtain rfl : u = Value.bool b := ru
      exact PySem.P.repr_of_bool ⟨.str _, H, I.tok _, ⟨_, rfl⟩, kk⟩
    | int i =>
      cases rv
      obtain ⟨tk, rfl⟩ := ru
      exact PySem.P.repr_of_int (by simpa [PyData.showable] using hs) ⟨.str _, H, I.tok _, ⟨_, rfl⟩, kk⟩
    | str x =>
      cases rv
      obtain ⟨tk, rfl⟩ := ru
      exact PySem.P.repr_of_str ⟨.str _, H, I.tok _, ⟨_, rfl⟩, kk⟩ hz
    | tup q =>
      cases rv with
      | tup h rs =>
        obtain rfl : u = Value.ref _ := ru
        exact repr_place hgd hu I hdp hs (PD.noDict (G := G) (.tup q)) hp hz kk
    | kt q =>
      cases rv with
      | kt h rs =>
        obtain rfl : u = Value.ref _ := ru
        exact repr_place hgd hu I hdp hs (PD.noDict (G := G) (.kt q)) hp hz kk
    | fl q =>
      cases rv with
      | fl h rs =>
        obtain rfl : u = Value.ref _ := ru
        exact repr_place hgd hu I hdp hs (PD.noDict (G := G) (.fl q)) hp hz kk
    | lst e q =>
      cases rv
      obtain rfl : u = Value.ref _ := ru
      exact repr_place hgd hu I hdp hs (PD.noDict (G := G) (.lst e q)) hp hz kk
theorem hu70 {k : Nat} {A : Around} (hr : Room k A) : A.units + 70 < cLine := by have := hr.un; omega
end
/-! ### the law's head -/
theorem head_g {P : Program} {w : World} {K : PySem.W.Frag} {mg mb : Str → Option Value} {CX : CXT} {k : Nat} {fa a : Addr} {fd : FuncData} {x : Str} {sp : Sp} {s : Shared} {vs : List Value} {ns : List Int}
    (KX : K.In s.heap) (hns : s.heap.Ns mainGlobals mg) (hb : s.heap.Ns builtinsNs mb) (hbb : ∀ x : Str, x ≠ "__name__" → mb x = bootBuiltins x) (hlim : s.heap.NoLimit) (hg : s.gens = #[]) (ha : s.heap.get? a = some { cls := .type "list", data := .seq vs.toArray }) (hi : IntsAre vs ns)
    (hl : ns.length ≤ sizeLine) (hr : Room k callerA) (F : ∀ base : Heap, K.In base → base.Ns mainGlobals mg → FnG P w K mg base CX k fa fd [x] sp) (hbind : ∀ (s : Shared) (u : Value), BindsTo s fd ⟨[u], []⟩ [(x, u)])
    (hsp : ∀ H : Hp, Only H → SqL K H a (ns.map V.int) → sp [.ref a] H (fun v _ => v = .bl true) fun _ _ _ => False) (hCX : ∀ H e s', CX [] H s (fun _ _ _ => False) e s' → False) :
    codeAny (model P w) callerA (.call (.ref fa) ⟨[.ref a], []⟩) (fun r s' => r = .ok (.ret (.bool true)) ∧ OldK s.heap s'.heap ∧ s'.os = s.os ∧ AllBare s'.gens) s := by
  have rv := vals_ints hi
  have core : ∀ H : Hp, Only H → SqL K H a (ns.map V.int) → HOk P w H s.heap → (∀ b, H b ≠ none → b = a) → (H a ≠ none → K.lookup a = none) →
      codeAny (model P w) callerA (.call (.ref fa) ⟨[.ref a], []⟩) (fun r s' => r = .ok (.ret (.bool true)) ∧ OldK s.heap s'.heap ∧ s'.os = s.os ∧ AllBare s'.gens) s := by
    intro H hO hS hok hA hK
    have free : ∀ {b : Addr}, b ≠ a → H b = none := fun {b} n => by
      cases q : H b with
      | none => rfl
      | some u => exact absurd (hA b (by rw [q]; simp)) n
    have noA : ∀ {b : Addr} {o : Obj} {es : Array DictEntry} {ep : Nat}, s.heap.get? b = some o → o.data = .dict es ep → H b = none := fun {b o es ep} e d => free fun z => by
      subst z
      rw [ha] at e; cases e; cases d
    have nsK : ∀ {b : Addr} {m : Str → Option Value}, s.heap.Ns b m → (hidT s.heap H).Ns b m := fun {b m} ⟨o, es, ep, e, d, r⟩ => ⟨o, es, ep, hidT_get e (noA e d), d, r⟩
    have hKb : K.In (hidT s.heap H) := fun b o e => hidT_get (KX b o e) (by
      by_cases z : b = a
      · subst z
        cases q : H b with
        | none => rfl
        | some u => rw [hK (by rw [q]; simp)] at e; cases e
      · exact free z)
    have e0 : Env0 P w K mg (hidT s.heap H) callerA [] s H :=
      { frames := rfl, mod := ⟨hKb, nsK hns, ⟨mb, nsK hb, hbb⟩, let ⟨mc, h1, h2⟩ := hlim; ⟨mc, nsK h1, h2⟩⟩, bs := fun b o e => of_hidT e, bsz := Nat.le_of_eq (hidT_size _ _), funs := trivial, frf := fun b hb => by simp [frs] at hb, hok := hok, bare := .of_eq hg }
    refine codeAny_mono ((F _ hKb (nsK hns)).goes rfl hr e0 (hbind s (.ref a)) (us := [.ref a]) (vs := [.ref a]) (.cons rfl .nil) (hsp H hO hS)) fun r s' h => ?_
    match r, h with
    | .error e, h => exact (hCX H e s' h).elim
    | .ok (.ret u), h =>
      obtain ⟨v, H', os, bare, un, hok', r', q⟩ := h
      cases (show v = .bl true from q)
      obtain rfl : u = Value.bool true := r'
      refine ⟨rfl, OldK.of_keep fun b o e => ?_, os, bare⟩
      cases q : H b with
      | none => exact un.keep b o e q (by simp [frs]) (by simp)
      | some u =>
        rcases hO b with z | ⟨ob, xs, z⟩
        · rw [q] at z; cases z
        · obtain ⟨e1, _⟩ := hok b _ z
          rw [e] at e1; cases e1
          exact (hok' b _ (un.frzs b _ _ z)).1
  cases hk : K.lookup a with
  | some o =>
    have e := KX a o hk
    rw [ha] at e; cases e
    refine core (fun _ => none) (fun _ => .inl rfl) (.inr ⟨_, vs.toArray, _, hk, rfl, rfl, rfl, ?_, ?_⟩) ?_ (fun b z => absurd rfl z) fun z => absurd rfl z
    · rw [List.size_toArray, hi.length]; exact hl
    · simpa using rv
    · intro b u z; cases z
  | none =>
    have at_ : ∀ {b : Addr} {u : HO}, (if b = a then some (HO.frz { cls := .type "list", data := .seq vs.toArray } (.lst (ns.map V.int))) else none) = some u → b = a ∧ u = .frz { cls := .type "list", data := .seq vs.toArray } (.lst (ns.map V.int)) := fun {b u} z => by
      by_cases h : b = a
      · rw [if_pos h] at z; cases z; exact ⟨h, rfl⟩
      · rw [if_neg h] at z; cases z
    refine core (fun b => if b = a then some (.frz { cls := .type "list", data := .seq vs.toArray } (.lst (ns.map V.int))) else none) (fun b => ?_) (.inl (.inr ⟨{ cls := .type "list", data := .seq vs.toArray }, if_pos rfl⟩)) (fun b u z => ?_) (fun b z => ?_) fun _ => hk
    · by_cases h : b = a
      · exact .inr ⟨_, _, if_pos h⟩
      · exact .inl (if_neg h)
    · obtain ⟨rfl, rfl⟩ := at_ z
      exact ⟨ha, by rw [List.length_map]; exact hl, vs, _, rv, ha⟩
    · by_cases h : b = a
      · exact h
      · exact absurd (if_neg h) z
theorem walk_g {l : PySem.W.OpenLaw} {n k : Nat} {q : Program} {loose : List Str} {XP : (Str → Option Value) → Heap → Prop} {YP : World → Heap → Prop} {d : DefRec} {K : Params → PySem.W.Frag} {CX : World → CXT} {sp : World → Sp} {x : Str}
    (hn : l.most = some n) (hn2 : n ≤ sizeLine) (hdf : d.params.defaults = []) (hr : Room k callerA) (hY : ∀ (w : World) (h : Heap), YP w h → (K w.params).In h)
    (F : ∀ (w : World) (mg : Str → Option Value) (fa : Addr) (h : Heap), (K w.params).In h → h.Ns mainGlobals mg → mg d.name = some (.ref fa) → ∃ fd : FuncData, (∀ (s : Shared) (u : Value), BindsTo s fd ⟨[u], []⟩ [(x, u)]) ∧
        ∀ base : Heap, (K w.params).In base → base.Ns mainGlobals mg → FnG l.prog w (K w.params) mg base (CX w) k fa fd [x] (sp w))
    (hsp : ∀ (w : World) (H : Hp) (a : Addr) (ns : List Int), ns.length ≤ n → (∀ z ∈ ns, Builtin.Int.intBits z ≤ 1048576) → Only H → SqL (K w.params) H a (ns.map V.int) → sp w [.ref a] H (fun v _ => v = .bl true) fun _ _ _ => False)
    (hCX : ∀ (w : World) (H : Hp) (s : Shared) (e : Value) (s' : Shared), CX w [] H s (fun _ _ _ => False) e s' → False) : PySem.W.WalkO q loose XP YP l.row.toRowW d [] (fun f vs => PySem.call f vs) := by
  refine Att.attach_callB hn hdf fun w s₀ s₁ mg mb fa o pm cd doc a vs ns G Y ho hd hcd hmg hobj hints hlen hbits hg => ?_
  obtain ⟨fd, hb, hF⟩ := F w mg fa _ (hY w _ Y) G.T.g hmg
  exact head_g (hY w _ Y) G.T.g G.T.b G.T.builtins G.T.nolimit hg hobj hints (Nat.le_trans hlen hn2) hr hF hb (fun H hO hS => hsp w H a ns hlen hbits hO hS) fun H e s' => hCX w H s₁ e s'
end WL
set_option Elab.async false
set_option linter.all false
set_option maxRecDepth 100000
set_option maxHeartbeats 4000000
/-! WL, part l: how many different values {elt for ..} has. -/
namespace WL
open PySem PySem.Spec PyProof.Rows L2

/-- {elt for target in iter if ..}, elt an int or a text; D the new set -/
def tSk (P : Program) (w : World) (wi : TI) (g : TG) (tt : TT) (te : TE) (vs : List Nat) : TE := fun σ H Q => wi σ H fun J H1 => ∀ D, H1 D = none → ∃ I : Nat → Nat → Hp → Prop, (∃ m, I 0 m (upd H1 D (SetK P w D (fun _ => false) 0))) ∧ ∀ i m H, I i m H →
  (J.stop i H ∧ Q (.ref D) H) ∨ (J.go i H ∧ ∃ Nx : Hp → Prop, (∀ H', Nx H' → ∃ m', m' < m ∧ I (i + 1) m' H') ∧ ∀ x H', J.yld i H x H' → g x (L2.wipe σ vs) H' fun σ2 H2 => L2.wipe σ2 vs = L2.wipe σ vs ∧ tt σ2 H2 fun b H3 =>
    if b = true then te σ2 H3 fun y H4 => ∃ (c : Key) (S : Key → Bool) (n : Nat), y = kV c ∧ H4 D = some (SetK P w D S n) ∧ n + 1 < scanBound ∧ Nx (upd H4 D (SetK P w D (fun j => S j || decide (j = c)) (if S c = true then n else n + 1))) else Nx H3)
theorem setK_empty {P : Program} {w : World} (h : Heap) (b : Bool) : (h.push { cls := .type "set", dict := none, data := .set #[] 0 (.fresh 0 0 b) }).SetOf (mixKind P w) h.objs.size (fun _ => false) 0 :=
  ⟨_, #[], 0, _, Heap.get?_push_size _ rfl, ⟨rfl, rfl, rfl⟩, rfl, (fun e he => by simp at he), (fun k => by simp), (by decide), (by rfl), rfl⟩
section
variable {X : Cx}
theorem sk_core {s : Shared} {pins : List (Addr × Obj)} {σ : L2.St} {H : Hp} {Q : VK} {elt tg iter : Expr} {ifs : List Expr} {scope : Scope} {own : List (Str × Nat)} {pos pos' : Pos} {wi : TI} {g : TG} {tt : TT} {te : TE} {Qf : Value → Shared → Prop} {use : Option (Value → Sem Unit)}
    (hc : X.calm = true) (hN : X.N.Nodup) (J0 : Inv X pins σ H s) (hi : PI X tg iter wi) (ok : BlkOk X.N X.env.scope scope own) (hg : ∀ (s : Shared) (H : Hp) (C : Addr) (cl : List (Str × Addr)) (fp : List Addr), PG (X.blk s H scope (compEnvC scope cl C X.env) fp) tg g)
    (ht : ∀ (s : Shared) (H : Hp) (C : Addr) (cl : List (Str × Addr)) (fp : List Addr), PTs (X.blk s H scope (compEnvC scope cl C X.env) fp) ifs tt) (he : ∀ (s : Shared) (H : Hp) (C : Addr) (cl : List (Str × Addr)) (fp : List Addr), PE (X.blk s H scope (compEnvC scope cl C X.env) fp) elt te)
    (hs : ∀ x, foldedSetIterable iter X.env x = pure x) (h : tSk X.prog X.w wi g tt te (own.map (·.2)) σ H Q)
    (fin : ∀ D C s' m H', Inv X pins σ H' s' → Q (.ref D) H' → s'.heap.Ns C m → FpOk X pins H' C → compPost (model X.prog X.w) X.A X.xe use Qf (.ref D) C (.ok .next) s') :
    wpAny (model X.prog X.w) X.A (comprehension (.SetComp elt [⟨tg, iter, ifs, 0⟩] scope pos) scope X.env pos' (newSet (.type "set")) false (eval iter X.env) use) Qf X.xe s := by
  have cells : ∀ y ∈ scope.names, y.2 = .free → ∃ c, X.env.cells.lookup y.1 = some c := fun y hy e => (ok.free y hy e).elim (fun k => J0.ok.has _ (.inl k)) fun k => J0.ok.has _ (.inr k)
  refine wpAny_comprehension_free (use := use) rfl hs (closure_ok cells) ok.kind (fun y hy e => (ok.uniq y hy).trans (congrArg some e)) (thn (hi.run pins s σ H _ J0 h) fun xv s1 hx => thn hx fun itv s2 h2 => ?_)
  obtain ⟨it, fp, tn, J, H2, rfl, J2, T, st2, f2, q⟩ := h2
  refine PpSet.newSet_ok (newEnv_comp ?_)
  obtain ⟨D, hD⟩ : ∃ D, s2.heap.objs.size = D := ⟨_, rfl⟩
  have free : H2 D = none := J2.hok.fresh (Nat.le_of_eq hD)
  obtain ⟨I, ⟨m0, i0⟩, turn⟩ := q D free
  obtain ⟨s3, hs3⟩ : ∃ s3 : Shared, ({ s2 with heap := s2.heap.push { cls := .type "set", dict := none, data := .set #[] 0 (.fresh 0 0 (!X.w.params.followText "set-order")) } } : Shared) = s3 := ⟨_, rfl⟩
  obtain ⟨H3, hH3⟩ : ∃ H3, upd H2 D (SetK X.prog X.w D (fun _ => false) 0) = H3 := ⟨_, rfl⟩
  have J3 : Inv X pins σ H3 s3 := by
    subst hs3 hH3
    refine J2.laid (t' := s2.toks) (fun b o e => Heap.get?_push_of_some _ e) (Nat.le_of_eq hD) ?_
    rw [← hD]
    exact setK_new (setK_empty _ _)
  have hp3 : s3.heap = s2.heap.push { cls := .type "set", dict := none, data := .set #[] 0 (.fresh 0 0 (!X.w.params.followText "set-order")) } := by rw [← hs3]
  have f3 : ∀ b ∈ fp, FpOk X pins H3 b ∧ b < s3.heap.objs.size := fun b hb => by
    obtain ⟨o, e, _⟩ := T.obj _ _ st2 b hb
    have lt : b < s2.heap.objs.size := Heap.lt_size e
    refine ⟨⟨?_, (f2 b hb).2⟩, by rw [hp3, Heap.size_push]; exact Nat.lt_succ_of_lt lt⟩
    rw [← hH3, upd_ne (by rw [← hD]; exact Nat.ne_of_lt lt)]
    exact (f2 b hb).1
  have st3 : tn 0 s3.heap := T.keep _ _ _ st2 fun b _ o e => by rw [hp3]; exact Heap.get?_push_of_some _ e
  have J4 := block_start J3 ok hN f3
  have G1 := hg s3 H3 s3.heap.objs.size (cellsFrom (s3.heap.objs.size + 1) scope.names (cloFrom X.env.cells scope.names [])) fp
  have G2 := ht s3 H3 s3.heap.objs.size (cellsFrom (s3.heap.objs.size + 1) scope.names (cloFrom X.env.cells scope.names [])) fp
  have G3 := he s3 H3 s3.heap.objs.size (cellsFrom (s3.heap.objs.size + 1) scope.names (cloFrom X.env.cells scope.names [])) fp
  rw [hH3] at i0
  have nfp : ∀ b ∈ fp, H3 b = none := fun b hb => (f3 b hb).1.1
  rw [hs3, hD]
  show codeAny _ _ (.compStart (.SetComp elt [⟨tg, iter, ifs, 0⟩] scope pos) 0 (.ref it) (.ref D) (compEnvC scope (cellsFrom (s3.heap.objs.size + 1) scope.names (cloFrom X.env.cells scope.names [])) s3.heap.objs.size X.env)) (compPost (model X.prog X.w) X.A X.xe use Qf (.ref D) s3.heap.objs.size) { s3 with heap := pushCells (s3.heap.push { cls := .type "dict", data := .dict #[] }) scope.names }
  obtain ⟨ce, hce⟩ : ∃ ce, compEnvC scope (cellsFrom (s3.heap.objs.size + 1) scope.names (cloFrom X.env.cells scope.names [])) s3.heap.objs.size X.env = ce := ⟨_, rfl⟩
  obtain ⟨s4, hs4⟩ : ∃ s4 : Shared, ({ s3 with heap := pushCells (s3.heap.push { cls := .type "dict", data := .dict #[] }) scope.names } : Shared) = s4 := ⟨_, rfl⟩
  have cL : ce.locals = s3.heap.objs.size := by rw [← hce]; rfl
  rw [hce] at J4 G1 G2 G3 ⊢
  rw [hs4] at J4 ⊢
  have st4 : tn 0 s4.heap := T.keep _ _ _ st3 fun b _ o e => by rw [← hs4]; exact pushCells_keeps _ _ _ _ (Heap.get?_push_of_some _ e)
  have stat : ∀ {σ' : L2.St} {H' : Hp} {s' : Shared}, Inv (X.blk s3 H3 scope ce fp) [] σ' H' s' → (∀ b ∈ fp, H' b = none) → ∀ b ∈ fp, FpOk (X.blk s3 H3 scope ce fp) [] H' b := fun {σ' H' s'} I' hn b hb =>
    ⟨hn b hb, (I'.ok.exf b hb).1, I'.ok.exfs b hb, .inl hb, fun x c e => (I'.ok.exf b hb).2 x c e, fun p hp => absurd (show p ∈ ([] : List (Addr × Obj)) ++ [] from hp) (by simp)⟩
  have loop : codeAny (model X.prog X.w) X.A (.compLoop (.SetComp elt [⟨tg, iter, ifs, 0⟩] scope pos) 0 (.ref it) (.ref D) ce) (compPost (model X.prog X.w) X.A X.xe use Qf (.ref D) s3.heap.objs.size) s4 := by
    refine PpSet.compLoopS_any (fun n s' => ∃ i H', Inv (X.blk s3 H3 scope ce fp) [] (L2.wipe σ (own.map (·.2))) H' s' ∧ tn i s'.heap ∧ (∀ b ∈ fp, H' b = none) ∧ I i n H') (fun n s5 ⟨i, H5, J5, st5, n5, i5⟩ => ?_) m0 ⟨0, H3, J4, st4, nfp, i0⟩
    rcases turn i n H5 i5 with ⟨stop, qq⟩ | ⟨go, Nx, hNx, step⟩
    · refine thnF (T.done (X.blk s3 H3 scope ce fp) rfl rfl rfl hc i [] s5 _ H5 (fun _ _ => False) J5 (stat J5 n5) st5 stop) fun r s6 ⟨hr, J6⟩ => ?_
      subst hr
      have J7 : Inv X pins σ H5 s6 := J3.call' (ch := fp) J6.os J6.base J6.hok J6.bare fun b hb => ⟨(f3 b hb).1.2.2.2.1, (f3 b hb).1.2.1, (f3 b hb).1.2.2.2.2.1, (f3 b hb).1.2.2.2.2.2⟩
      have nC : H5 s3.heap.objs.size = none := by rw [← cL]; exact J6.free
      obtain ⟨m, hn, _⟩ := J6.loc
      exact fin D s3.heap.objs.size s6 m H5 J7 qq (by rw [← cL]; exact hn) (J3.fpOk (Nat.le_refl _) nC)
    · refine thnF (T.item (X.blk s3 H3 scope ce fp) rfl rfl rfl hc i [] s5 _ H5 (fun _ _ => False) J5 (stat J5 n5) st5 go) fun r s6 ⟨u, hr, h6⟩ => ?_
      subst hr
      refine thnF h6 fun _ s7 ⟨x, H7, J7, r7, y7, st7, n7⟩ => ?_
      refine thnF (G1.run _ s7 _ H7 x u _ (J7.pinned (stat J7 n7) (T.obj _ _ st7)) r7 (step x H7 y7)) fun _ s8 ⟨σ8, H8, J8, hw8, q8⟩ => ?_
      refine thnF (G2.run _ s8 σ8 H8 _ J8 q8) fun b s9 ⟨H9, J9, q9⟩ => ?_
      have back : ∀ {s' : Shared} {H' : Hp}, Inv (X.blk s3 H3 scope ce fp) ([] ++ pinsAt fp s7.heap) σ8 H' s' → Nx H' → ∃ m, m < n ∧ ∃ i H', Inv (X.blk s3 H3 scope ce fp) [] (L2.wipe σ (own.map (·.2))) H' s' ∧ tn i s'.heap ∧ (∀ b ∈ fp, H' b = none) ∧ I i m H' := fun {s' H'} I' nx => by
        obtain ⟨m', hm, i'⟩ := hNx H' nx
        have pin : ∀ b ∈ fp, ∀ o, s7.heap.get? b = some o → s'.heap.get? b = some o ∧ H' b = none := fun b hb o e =>
          have z := I'.pin (b, o) (List.mem_append_right _ (List.mem_append_right _ (mem_pinsAt hb e)))
          ⟨z.1, z.2.1⟩
        have hl : (L2.wipe σ (own.map (·.2))).length = σ8.length := by rw [← hw8, wipe_length]
        refine ⟨m', hm, i + 1, H', (I'.unpinned (pins := [])).weak hl (fun j v e => (wipe_some (by rw [← hw8] at e; exact e)).1), T.keep _ _ _ st7 fun b hb o e => (pin b hb o e).1, fun b hb => ?_, i'⟩
        obtain ⟨o, e, _⟩ := T.obj _ _ st7 b hb
        exact (pin b hb o e).2
      cases b with
      | false =>
        simp only [Bool.false_eq_true, if_false] at q9 ⊢
        exact back J9 q9
      | true =>
        simp only [if_true] at q9 ⊢
        refine thnF (G3.run _ s9 σ8 H9 _ J9 q9) fun z s10 ⟨yv, H10, J10, r10, c, S0, n0, ey, hD10, hz10, nx⟩ => ?_
        subst ey
        exact thnF (mt_saddK (X := X.blk s3 H3 scope ce fp) _ s10 σ8 H10 (.ref D) [kV c] (.ref D) [z] (fun v H => v = .non ∧ Nx H) J10 rfl (.cons r10 .nil) ⟨D, c, S0, n0, rfl, rfl, hD10, hz10, rfl, nx⟩) fun _ s11 ⟨v, H11, J11, _, _, nx'⟩ => back J11 nx'
  exact PpSet.codeAny_compStart_set loop (T.self X.A 0 _ _ _ st4 loop)
theorem pe_sk {elt tg iter : Expr} {ifs : List Expr} {scope : Scope} {own : List (Str × Nat)} {pos : Pos} {wi : TI} {g : TG} {tt : TT} {te : TE} (hc : X.calm = true) (hN : X.N.Nodup) (hi : PI X tg iter wi) (ok : BlkOk X.N X.env.scope scope own) (hg : ∀ (s : Shared) (H : Hp) (C : Addr) (cl : List (Str × Addr)) (fp : List Addr), PG (X.blk s H scope (compEnvC scope cl C X.env) fp) tg g)
    (ht : ∀ (s : Shared) (H : Hp) (C : Addr) (cl : List (Str × Addr)) (fp : List Addr), PTs (X.blk s H scope (compEnvC scope cl C X.env) fp) ifs tt) (he : ∀ (s : Shared) (H : Hp) (C : Addr) (cl : List (Str × Addr)) (fp : List Addr), PE (X.blk s H scope (compEnvC scope cl C X.env) fp) elt te)
    (hs : ∀ x, foldedSetIterable iter X.env x = pure x := by intro _; rfl) : PE X (.SetComp elt [⟨tg, iter, ifs, 0⟩] scope pos) (tSk X.prog X.w wi g tt te (own.map (·.2))) := by
  refine ⟨fun pins s σ H Q I h => ?_⟩
  rw [PpSet.eval_SetComp]
  refine sk_core hc hN I hi ok hg ht he hs h fun D C s' m H' I' q hn f => ⟨m, hn, fun h'' sb => ?_⟩
  obtain ⟨f0, f1, f2, f3, f4, f5⟩ := f
  exact ⟨.ref D, H', I'.turned (t' := s'.toks) (fun b o hb e => (sb.2 b hb).trans e) f0 f1 f3 f4 f5, rfl, q⟩
def rLenK (P : Program) (w : World) : List V → Hp → VK → Prop := fun xs H Q => ∃ D S n, xs = [.ref D] ∧ H D = some (SetK P w D S n) ∧ Q (.int n) H
theorem call_lenK : CallR X (.builtin "len") (rLenK X.prog X.w) := by
  intro pins s σ H xs us Q I r h
  obtain ⟨D, S, n, rfl, hD, q⟩ := h
  cases r with
  | cons a b =>
    cases b
    cases a
    obtain ⟨o, es, ep, t, ho, hex, hd, _, _, hb, hf, hn⟩ := setK_get I hD
    subst hn
    exact call_len_set ho hex hd hf (by unfold scanBound at hb; omega) ⟨.int es.size, H, I.tok _, ⟨_, rfl⟩, q⟩
end
/-! the items as they come -/
instance memKey (k : Key) (acc : List Key) : Decidable (k ∈ acc) := decidable_of_iff (acc.any (fun j => decide (j = k)) = true) (by
  rw [List.any_eq_true]
  exact ⟨fun ⟨j, h, e⟩ => by rw [← of_decide_eq_true e]; exact h, fun h => ⟨k, h, decide_eq_true rfl⟩⟩)
def compK (Gd : GH → Prop) (g : TGW) (tt : TWT) (te : TW) (S0 : WSt) (R : List Key → GH → Prop) : List W → GH → List Key → Prop
  | [], G, acc => Gd G ∧ R acc G
  | x :: xs, G, acc => Gd G ∧ g x S0 G fun S2 G2 => tt S2 G2 fun b G3 => if b = true then te S2 G3 fun w G4 => ∃ k, w.key? = some k ∧ acc.length + 1 < scanBound ∧ compK Gd g tt te S0 R xs G4 (if k ∈ acc then acc else acc ++ [k]) else compK Gd g tt te S0 R xs G3 acc
def tLenSC (ti : TIW) (g : TGW) (tt : TWT) (te : TW) (vs : List Nat) : TW := fun S G R => ti S G fun items Gd G1 => compK Gd g tt te (wipeW S vs) (fun acc G2 => R (.int acc.length) G2) items G1 []
theorem setK_step {P : Program} {w : World} {D : Addr} {acc : List Key} {k : Key} : SetK P w D (fun j => decide (j ∈ acc) || decide (j = k)) (if decide (k ∈ acc) = true then acc.length else acc.length + 1) = SetK P w D (fun j => decide (j ∈ (if k ∈ acc then acc else acc ++ [k]))) (if k ∈ acc then acc else acc ++ [k]).length := by
  by_cases h : k ∈ acc
  · rw [if_pos h, if_pos (decide_eq_true h)]
    congr 1
    funext j
    by_cases e : j = k
    · subst e; simp [h]
    · simp [e]
  · rw [if_neg h, if_neg (by simpa using h), List.length_append, List.length_singleton]
    congr 1
    funext j
    simp
section
variable {X : Cx} {Z : GH × Hp} {x : Str} {p pos : Pos}
theorem lfLenSC {P : Program} {w : World} {K : PySem.W.Frag} {ti : TIW} {gh : TG} {g : TGW} {tt : TWT} {te : TW} {vs : List Nat} (gok : GOk K Z gh g vs) (σ : L2.St) (H : Hp) (Q : VK) (h : Lf K Z (tLenSC ti g tt te vs) σ H Q) : tCB (rLenK P w) (tCons (tSk P w (LfI K Z ti) gh (LfT K Z tt) (Lf K Z te) vs) tNil) σ H Q := by
  obtain ⟨S, G, R, sr, t, k⟩ := h
  refine ⟨S, G, _, sr, t, fun items Gd G1 J H1 t1 f1 h1 wi D hD => ?_⟩
  have hz : ∀ o, Z.2 D = some o → Z.1 D ≠ none := fun o e g => by
    have := ((sr.next f1 h1).tk D o e g).1
    rw [hD] at this; cases this
  have gD : G1 D = none := h1.free hD
  have e0 : (fun j : Key => decide (j ∈ ([] : List Key))) = fun _ => false := by funext j; simp
  refine ⟨fun i m H' => m = items.length - i ∧ i ≤ items.length ∧ ∃ G' acc, H' D = some (SetK P w D (fun j => decide (j ∈ acc)) acc.length) ∧ G' D = none ∧ SR K Z (L2.wipe σ vs) H' (wipeW S vs) G' ∧ FR G1 H1 G' H' ∧ compK Gd g tt te (wipeW S vs) (fun acc G2 => R (.int acc.length) G2) (items.drop i) G' acc,
    ⟨items.length, by simp, Nat.zero_le _, G1, [], by rw [e0]; exact upd_same, gD, ((sr.next f1 h1).next (.new hD) (h1.new hD)).wipe vs, .new hD, t1⟩, ?_⟩
  rintro i m H2 ⟨rfl, hi, G2, acc, hd, g2, sr2, f2, t2⟩
  by_cases hlt : i < items.length
  · rw [List.drop_eq_getElem_cons hlt] at t2
    obtain ⟨gd, t2⟩ := t2
    refine .inr ⟨wi.go i G2 H2 f2 sr2.rh gd hlt, fun H' => ∃ G' acc, H' D = some (SetK P w D (fun j => decide (j ∈ acc)) acc.length) ∧ G' D = none ∧ SR K Z (L2.wipe σ vs) H' (wipeW S vs) G' ∧ FR G1 H1 G' H' ∧ compK Gd g tt te (wipeW S vs) (fun acc G2 => R (.int acc.length) G2) (items.drop (i + 1)) G' acc, ?_, fun y H3 hy => ?_⟩
    · rintro H' ⟨G', acc', q⟩
      exact ⟨items.length - (i + 1), by omega, rfl, hlt, G', acc', q⟩
    · obtain ⟨f3, r3, h3⟩ := wi.yld i G2 H2 y H3 items[i] f2 sr2.rh gd (by simp [hlt]) hy
      have sr3 := sr2.next f3 h3
      have kp := fun Q' => gok.keeps y (L2.wipe σ vs) H3 Q'
      simp only [wipe_wipe vs fun _ h => h] at kp
      refine kp _ (gok.lift _ _ _ _ (LfG.go r3 sr3 t2 fun S4 G4 σ4 H4 t4 sr4 f4 => ?_))
      refine LfT.go sr4 t4 fun b G5 H5 t5 f5 h5 => ?_
      have f25 : FR G2 H2 G5 H5 := f3.trans (f4.trans f5)
      have d5 := f25 D _ hd g2
      cases b with
      | false => exact iteF ⟨G5, acc, d5.1, d5.2, sr2.next f25 h5, f2.trans f25, t5⟩
      | true =>
        refine iteT (Lf.go (sr4.next f5 h5) t5 fun w6 G6 v H6 t6 f6 r6 h6 => ?_)
        have f26 := f25.trans f6
        have d6 := f26 D _ hd g2
        obtain ⟨c, hk, room, t6⟩ := t6
        have ev : v = kV c := by
          have ew := key_of? hk
          subst ew
          cases c <;> (cases r6; rfl)
        refine ⟨c, _, _, ev, d6.1, room, G6, if c ∈ acc then acc else acc ++ [c], ?_, d6.2, (sr2.next f26 h6).poke d6.1 trivial d6.2 hz, (f2.trans f26).poke (fun o e => by rw [hD] at e; cases e), t6⟩
        rw [← setK_step]
        exact upd_same
  · have e : i = items.length := by omega
    subst e
    rw [List.drop_length] at t2
    exact .inl ⟨wi.stop G2 H2 f2 sr2.rh t2.1, D, _, _, rfl, hd, k _ _ _ _ t2.2 (f1.trans f2) (.int _) sr2.rh⟩
theorem we_lenSC {elt tg iter : Expr} {ifs : List Expr} {scope : Scope} {own : List (Str × Nat)} {cpos : Pos} {ti : TIW} {gh : TG} {g : TGW} {tt : TWT} {te : TW} (hgl : Gl X "len") (hm : X.mg "len" = none) (hv : bootBuiltins "len" = some (.builtin "len"))
    (hc : X.calm = true) (hN : X.N.Nodup) (hi : WI X Z tg iter ti) (ok : BlkOk X.N X.env.scope scope own) (gok : GOk X.K Z gh g (own.map (·.2)))
    (hg : ∀ (s : Shared) (H : Hp) (C : Addr) (cl : List (Str × Addr)) (fp : List Addr), PG (X.blk s H scope (compEnvC scope cl C X.env) fp) tg gh) (ht : ∀ (s : Shared) (H : Hp) (C : Addr) (cl : List (Str × Addr)) (fp : List Addr), PTsW (X.blk s H scope (compEnvC scope cl C X.env) fp) Z ifs tt)
    (he : ∀ (s : Shared) (H : Hp) (C : Addr) (cl : List (Str × Addr)) (fp : List Addr), WE (X.blk s H scope (compEnvC scope cl C X.env) fp) Z elt te) (hs : ∀ x, foldedSetIterable iter X.env x = pure x := by intro _; rfl) :
    WE X Z (.Call (.Name "len" p) [.SetComp elt [⟨tg, iter, ifs, 0⟩] scope pos] [] cpos) (tLenSC ti g tt te (own.map (·.2))) :=
  (pe_callB call_lenK hgl hm hv (pa_cons (pe_sk (tt := LfT X.K Z tt) (te := Lf X.K Z te) hc hN hi ok hg ht he hs) pa_nil)).weak (lfLenSC gok)
end
end WL
set_option Elab.async false
set_option linter.all false
set_option maxRecDepth 100000
set_option maxHeartbeats 4000000
/-! WL, part m: three names at once, list and tuple of a range, sorted ints, what is turned about, new dicts. -/
namespace WL
open PySem PySem.Spec PyProof.Rows L2

section
variable {X : Cx} {Z : GH × Hp} {a b c e o : Expr} {Ta Tb : TW} {pos p : Pos} {K : PySem.W.Frag} {Tr : TWA}
theorem RVs.three {H : Hp} {vs : List V} {x y z : W} (r : RVs K H vs [x, y, z]) : ∃ u v w, vs = [u, v, w] ∧ RV K H u x ∧ RV K H v y ∧ RV K H w z := by
  cases r with
  | cons a r => cases r with
    | cons b r => cases r with
      | cons c r => cases r; exact ⟨_, _, _, rfl, a, b, c⟩
theorem ws_par3 {i j l : Nat} {x y z : Str} {px py pz pt : Pos} {kt k2 pt2} (hc : X.calm = true) (hN : X.N.Nodup) (hi : X.N[i]? = some x) (hj : X.N[j]? = some y) (hl : X.N[l]? = some z) (hij : i ≠ j) (hil : i ≠ l) (hjl : j ≠ l)
    (hx : X.env.scope.names.lookup x = some .local) (hy : X.env.scope.names.lookup y = some .local) (hz : X.env.scope.names.lookup z = some .local) (ha : WA X Z [a, b, c] Tr) (hw : swappedStores [.Tuple [.Name x px, .Name y py, .Name z pz] kt pt] (.Tuple [a, b, c] k2 pt2) X.env = pure (some [x, y, z]))
    (hs : swapsWithSole [.Tuple [.Name x px, .Name y py, .Name z pz] kt pt] (.Tuple [a, b, c] k2 pt2) pos.line X.env = pure false := by rfl) : WS X Z (.Assign [.Tuple [.Name x px, .Name y py, .Name z pz] kt pt] (.Tuple [a, b, c] k2 pt2) pos) (sPar3 i j l Tr) :=
  (ps_par3 hc hN hi hj hl hij hil hjl hx hy hz ha hw hs).weak fun D σ H h => by
    obtain ⟨S, G, DW, sr, t, ld⟩ := h
    refine LfA.go sr t fun ws G1 vs H1 t1 f1 rs h1 => ?_
    match ws, t1, rs with
    | [w1, w2, w3], t1, rs =>
      obtain ⟨v1, v2, v3, rfl, k1, k2, k3⟩ := rs.three
      exact ⟨v1, v2, v3, rfl, ld.nx _ _ _ _ t1 ((((sr.next f1 h1).set k1).set k2).set k3) f1⟩

/-! ### list(range(..)), tuple(range(..)) -/
abbrev TRW := WSt → GH → (Int → Int → GH → Prop) → Prop
def LfR (K : PySem.W.Frag) (Z : GH × Hp) (T : TRW) : L2.St → Hp → (Int → Int → Hp → Prop) → Prop := fun σ H Q => ∃ S G R, SR K Z σ H S G ∧ T S G R ∧ ∀ i j G' H', R i j G' → FR G H G' H' → RH K H' G' → Q i j H'
def WR (X : Cx) (Z : GH × Hp) (e : Expr) (T : TRW) : Prop := PRg X e (LfR X.K Z T)
def tRg1W (Ta : TW) : TRW := fun S G R => Ta S G fun w G1 => match w with
  | .int n => R 0 n G1
  | _ => False
def tRg2W (Ta Tb : TW) : TRW := fun S G R => Ta S G fun w G1 => Tb S G1 fun u G2 => match w, u with
  | .int i, .int j => R i j G2
  | _, _ => False
theorem prgW_1 {p : Pos} (hg : Gl X "range") (hm : X.mg "range" = none) (ha : WE X Z a Ta) (na : starEach [a] X.env = (false, eval a X.env) :: starEach [] X.env := by rfl) : WR X Z (.Call (.Name "range" p) [a] [] pos) (tRg1W Ta) :=
  fun pins s σ H Q I ⟨S, G, R, sr, t, k⟩ => prg_1 hg hm ha na pins s σ H Q I (Lf.go sr t fun w G1 v H1 t1 f1 r1 h1 => by
    cases w with
    | int n => cases r1; exact ⟨n, rfl, k _ _ _ _ t1 f1 h1⟩
    | _ => exact (show False from t1).elim)
theorem prgW_2 {p : Pos} (hg : Gl X "range") (hm : X.mg "range" = none) (ha : WE X Z a Ta) (hb : WE X Z b Tb) (na : starEach [a, b] X.env = (false, eval a X.env) :: starEach [b] X.env := by rfl) (nb : starEach [b] X.env = (false, eval b X.env) :: starEach [] X.env := by rfl)
    (hp : (backTo pos (starEach [b] X.env)).any (·.1) = false := by rfl) : WR X Z (.Call (.Name "range" p) [a, b] [] pos) (tRg2W Ta Tb) :=
  fun pins s σ H Q I ⟨S, G, R, sr, t, k⟩ => prg_2 hg hm ha hb na nb hp pins s σ H Q I (Lf.go sr t fun w G1 v H1 t1 f1 r1 h1 => Lf.go (sr.next f1 h1) t1 fun u G2 v2 H2 t2 f2 r2 h2 => by
    cases w with
    | int i =>
      cases u with
      | int j => cases r1; cases r2; exact ⟨i, j, rfl, rfl, k _ _ _ _ t2 (f1.trans f2) h2⟩
      | _ => exact (show False from t2).elim
    | _ => exact (show False from t2).elim)
def rgI (a b : Int) : List Int := (List.range (b - a).toNat).map fun i => a + (i : Nat)
theorem rgV_ints (a b : Int) : rgV a b = (rgI a b).map V.int := by unfold rgV rgI; rw [List.map_map]; rfl
def tListRg (T : TRW) : TW := fun S G R => T S G fun i j G1 => RgOk i j ∧ ∀ p, G1 p = none → R (.ref p) (updG G1 p (.lst ((rgI i j).map W.int)))
def tTupleRg (T : TRW) : TW := fun S G R => T S G fun i j G1 => RgOk i j ∧ R (.tup ((rgI i j).map W.int)) G1
theorem we_listRg {T : TRW} {p : Pos} (hc : X.calm = true) (hg : Gl X "list") (hm : X.mg "list" = none) (he : WR X Z e T) (na : starEach [e] X.env = (false, eval e X.env) :: starEach [] X.env := by rfl) : WE X Z (.Call (.Name "list" p) [e] [] pos) (tListRg T) := (pe_listRg hc hg hm he na).weak fun σ H Q h => by
  obtain ⟨S, G, R, sr, t, k⟩ := h
  refine ⟨S, G, _, sr, t, fun i j G1 H1 t1 f1 h1 => ⟨t1.1, fun q hq => ?_⟩⟩
  rw [rgV_ints]
  exact k _ _ _ _ (t1.2 q (h1.free hq)) (f1.trans (.newG hq)) (.ref _) (h1.newG hq ⟨_, upd_same, RVs.of_ints _⟩)
theorem we_tupleRg {T : TRW} {p : Pos} (hc : X.calm = true) (hg : Gl X "tuple") (hm : X.mg "tuple" = none) (he : WR X Z e T) (na : starEach [e] X.env = (false, eval e X.env) :: starEach [] X.env := by rfl) : WE X Z (.Call (.Name "tuple" p) [e] [] pos) (tTupleRg T) := (pe_tupRg hc hg hm he na).weak fun σ H Q h => by
  obtain ⟨S, G, R, sr, t, k⟩ := h
  refine ⟨S, G, _, sr, t, fun i j G1 H1 t1 f1 h1 => ⟨t1.1, fun q hq => ?_⟩⟩
  rw [rgV_ints]
  exact k _ _ _ _ t1.2 (f1.trans (.new hq)) (.tup upd_same (RVs.of_ints _)) (h1.new hq)

/-! ### sorted ints -/
def intsOf : List W → Option (List Int)
  | [] => some []
  | .int i :: r => (intsOf r).map (i :: ·)
  | _ :: _ => none
theorem intsOf_map : ∀ ns : List Int, intsOf (ns.map W.int) = some ns
  | [] => rfl
  | n :: ns => by rw [List.map_cons, intsOf, intsOf_map ns]; rfl
theorem ints_of : ∀ {ws : List W} {ns : List Int}, intsOf ws = some ns → ws = ns.map W.int
  | [], ns, h => by cases h; rfl
  | w :: ws, ns, h => by
    cases w with
    | int i =>
      unfold intsOf at h
      cases q : intsOf ws with
      | none => rw [q] at h; cases h
      | some ms => rw [q] at h; cases h; rw [ints_of q]; rfl
    | _ => cases h
/-- what sorted gives -/
def srtI (ns : List Int) (R : List Int → Prop) : Prop := ∀ ms : List Int, ms.Perm ns → ms.Pairwise (· ≤ ·) → R ms
def sortedW : CW := fun ws G R => match ws with
  | [.ref p] => match G p with
    | some (.lst xs) => match intsOf xs with
      | some ns => ∀ ms : List Int, ms.Perm ns → ms.Pairwise (· ≤ ·) → ∀ q, G q = none → R (.ref q) (updG G q (.lst (ms.map W.int)))
      | none => False
    | _ => False
  | [.fl xs] => match intsOf xs with
    | some ns => ∀ ms : List Int, ms.Perm ns → ms.Pairwise (· ≤ ·) → ∀ q, G q = none → R (.ref q) (updG G q (.lst (ms.map W.int)))
    | none => False
  | _ => False
theorem sorted_go {H : Hp} {G : GH} {R : KW} {Q : VK} {a : Addr} {ns : List Int} (rh : RH K H G) (k : LK K G H R Q) (h : SqL K H a (ns.map V.int)) (t : ∀ ms : List Int, ms.Perm ns → ms.Pairwise (· ≤ ·) → ∀ q, G q = none → R (.ref q) (updG G q (.lst (ms.map W.int)))) : rSortedI K [.ref a] H Q :=
  ⟨a, ns, rfl, h, fun ms q pm pw hq => k _ _ _ _ (t ms pm pw q (rh.free hq)) (.newG hq) (.ref _) (rh.newG hq ⟨_, upd_same, RVs.of_ints _⟩)⟩
theorem call_sortedW : CallW X (.builtin "sorted") sortedW := by
  intro pins s σ H xs us Q I r h
  obtain ⟨ws, G, R, rs, rh, t, k⟩ := h
  unfold sortedW at t
  split at t
  · split at t
    · rename_i p ys e
      split at t
      · rename_i ns en
        obtain ⟨v, rfl, rv⟩ := rs.one
        cases rv
        obtain ⟨vs, hv, rr⟩ := rh _ _ e
        have e2 := ints_of en
        subst e2
        rw [rr.ints] at hv
        exact cr_sortedI pins s σ H _ us Q I r (sorted_go rh k (SqL.of hv) t)
      · exact t.elim
    · exact t.elim
  · rename_i ys
    split at t
    · rename_i ns en
      obtain ⟨v, rfl, rv⟩ := rs.one
      have e2 := ints_of en
      subst e2
      cases rv with
      | fl q rr =>
        rw [rr.ints] at q
        exact cr_sortedI pins s σ H _ us Q I r (sorted_go rh k q.seq t)
    · exact t.elim
  · exact t.elim
/-- sorted([..]) -/
def fSorted : CF := fun ws G R => match intsOf ws with
  | some ns => ∀ ms : List Int, ms.Perm ns → ms.Pairwise (· ≤ ·) → ∀ q, G q = none → R (.ref q) (updG G q (.lst (ms.map W.int)))
  | none => False
theorem tmp_sorted : CallR X (.builtin "sorted") (tmpR X.K fSorted) := by
  intro pins s σ H xs us Q I r h
  obtain ⟨D, vs, ws, G, R, rfl, hd, rs, rh, gd, t, k⟩ := h
  unfold fSorted at t
  split at t
  · rename_i ns en
    have e2 := ints_of en
    subst e2
    rw [rs.ints] at hd
    exact cr_sortedI pins s σ H _ us Q I r (sorted_go rh k (SqL.of hd) t)
  · exact t.elim

/-! ### xs[::-1] -/
def revW (w : W) (G : GH) (R : KW) : Prop := match w with
  | .tup xs => R (.tup xs.reverse) G
  | .fl xs => ∀ q, G q = none → R (.ref q) (updG G q (.lst xs.reverse))
  | .ref p => match G p with
    | some (.lst xs) => ∀ q, G q = none → R (.ref q) (updG G q (.lst xs.reverse))
    | _ => False
  | _ => False
def tRevW (Ta : TW) : TW := fun S G R => Ta S G fun w G1 => revW w G1 R
def tRevT (K : PySem.W.Frag) (te : TE) : TE := fun σ H Q => te σ H fun x H1 => ∃ a xs, x = .ref a ∧ SqT K H1 a xs ∧ ∀ p, H1 p = none → Q (.ref p) (upd H1 p (.tup xs.reverse))
theorem slice_back {prog : Program} {w : World} {A : Around} {E : Value → Shared → Prop} {s : Shared} {sl : Addr} {vs : Value} {n : Nat} {Q : Int × Int × Nat → Shared → Prop} (hs : s.heap.IsSliceOf sl .none .none vs) (ps : IsPart vs (some (-1))) (h : Q ((n : Int) - 1, -1, n) s) :
    wpAny (model prog w) A (Builtin.Slice.sliceApplied (.ref sl) (pure (n : Int))) Q E s := by
  obtain ⟨os, hos, hcs, hds⟩ := id hs
  cases ps with
  | int i t =>
    unfold Builtin.Slice.sliceApplied Builtin.Slice.sliceFields
    refine wpAny_bind (wpAny_bind (wpAny_field hos hds (x := .none) rfl (wpAny_bind (wpAny_field hos hds (x := .none) rfl (wpAny_bind (wpAny_field hos hds (x := .int (-1) t) rfl (wpAny_pure ?_)))))))
    refine wpAny_bind (HT.slicePart_ (.int (-1) t) ?_)
    show wpAny _ _ (if ((-1 : Int) == 0) = true then _ else _) _ _ s
    rw [if_neg (by decide)]
    refine wpAny_bind (HT.slicePart_ .none (wpAny_bind (HT.slicePart_ .none (wpAny_bind (wpAny_pure (wpAny_pure ?_))))))
    have e : Builtin.Slice.slicePlaces ((n : Int) - 1) (-1) (-1) = n := by
      unfold Builtin.Slice.slicePlaces
      rw [if_neg (by decide), show (-(-1) : Int) = 1 by decide, Int.ediv_one]
      split <;> omega
    show Q ((n : Int) - 1, -1, Builtin.Slice.slicePlaces ((n : Int) - 1) (-1) (-1)) s
    rw [e]
    exact h
theorem fm_congr {α β : Type} {f g : α → Option β} : ∀ l : List α, (∀ x ∈ l, f x = g x) → l.filterMap f = l.filterMap g
  | [], _ => rfl
  | x :: l, h => by rw [List.filterMap_cons, List.filterMap_cons, h x List.mem_cons_self, fm_congr l fun y hy => h y (List.mem_cons_of_mem _ hy)]
theorem pick_back (xs : Array Value) : ((List.range xs.size).filterMap fun (m : Nat) => xs[((xs.size : Int) - 1 + (m : Int) * (-1)).toNat]?).toArray = xs.toList.reverse.toArray := by
  have e := PySem.W.krv_pick xs
  unfold slicePick at e
  rw [PySem.W.krv_bounds] at e
  rw [← e]
  show _ = ((sliceRange ((xs.size : Int) - 1) (-1) (-1)).filterMap (xs[·]?)).toArray
  rw [PySem.W.krv_sliceRange, List.filterMap_map]
  congr 1
  refine fm_congr _ fun m hm => ?_
  dsimp only [Function.comp]
  have := List.mem_range.mp hm
  show xs[((xs.size : Int) - 1 + (m : Int) * (-1)).toNat]? = xs[xs.size - 1 - m]?
  congr 1
  omega
theorem tuple_back {prog : Program} {w : World} {A : Around} {E : Value → Shared → Prop} {s : Shared} {t sl : Addr} {items : Array Value} {vs : Value} {Q : Value → Shared → Prop} (ht : IsTup s.heap t items) (hs : s.heap.IsSliceOf sl .none .none vs) (ps : IsPart vs (some (-1)))
    (h : Q (.ref s.heap.objs.size) { s with heap := s.heap.push { cls := .type "tuple", data := .seq items.toList.reverse.toArray } }) (hsz : items.size ≤ sizeLine) : wpAny (model prog w) A (getItem (.ref t) (.ref sl)) Q E s := by
  have small : sizeOk (.seq items.toList.reverse.toArray) := by
    show items.toList.reverse.toArray.size ≤ sizeLine
    rw [List.size_toArray, List.length_reverse, Array.length_toList]
    exact hsz
  obtain ⟨os, hos, hcs, hds⟩ := id hs
  unfold getItem
  try with_reducible refine wpAny_holding ?_
  first | refine wpAny_bind (wpAny_pure ?_) | skip
  refine wpAny_bind (wpAny_sequenceKey ht.typeIs (by decide) ?_)
  refine wpAny_bind (wpAny_callSpecial?_slot (name := Str.ofString "__getitem__") ht.typeIs PyProof.Rows.slot_tuple_getitem (wpAny_call_entry PyProof.Rows.slot_tuple_getitem ht.typeIs entry_tuple_getitem ?_ (args_tuple_getitem _ _)))
  show wpAny _ _ (Builtin.Tuple.tupleItemsOf (.ref t) >>= _) _ _ s
  refine wpAny_bind (tupleItemsOf_ ht (wpAny_bind (wpAny_typeOf (T := "slice") ⟨os, hos, hcs⟩ ?_)))
  rw [if_pos (by decide)]
  refine wpAny_bind (slice_back hs ps ?_)
  show wpAny _ _ (if ((items.size : Int) - 1 == 0 && (-1 : Int) == 1 && items.size == items.size) = true then _ else _) _ _ s
  rw [if_neg (by simp), pick_back]
  first
    | exact wpAny_bind (m := Builtin.Tuple.tupleExact _) (wpAny_newObj_type (wpAny_pure ⟨_, rfl, wpAny_pure h⟩) small)
    | exact wpAny_bind (m := Builtin.Tuple.tupleExact _) (wpAny_newObj_type (wpAny_bind (wpAny_pure (wpAny_pure ⟨_, rfl, wpAny_pure h⟩))) small)
    | exact wpAny_bind (wpAny_bind (m := Builtin.Tuple.tupleExact _) (wpAny_newObj_type (wpAny_pure (wpAny_pure ⟨_, rfl, wpAny_pure h⟩)) small))
    | exact wpAny_bind (wpAny_bind (m := Builtin.Tuple.tupleExact _) (wpAny_newObj_type (wpAny_pure ⟨_, rfl, wpAny_pure h⟩) small))
def tRevA (K : PySem.W.Frag) (te : TE) : TE := fun σ H Q => te σ H fun x H1 => ∃ a xs, x = .ref a ∧ ((SqL K H1 a xs ∧ ∀ p, H1 p = none → Q (.ref p) (upd H1 p (.lst xs.reverse))) ∨ (SqT K H1 a xs ∧ ∀ p, H1 p = none → Q (.ref p) (upd H1 p (.tup xs.reverse))))
theorem pe_revA {te : TE} {k : Nat} {p1 p2 p3 : Pos} (he : PE X e te) : PE X (.Subscript e (.Slice none none (some (.UnaryOp .USub (.Constant (.int 1) k p1) p2)) p3) pos) (tRevA X.K te) := by
  refine ⟨fun pins s σ H Q I h => Subscript_ (thn (he.run pins s σ H _ I h) fun v s1 ⟨x, H1, I1, r1, a, xs, ex, q⟩ => ?_)⟩
  subst ex
  cases r1
  have st : PO X (some (.UnaryOp .USub (.Constant (.int 1) k p1) p2)) (tPart (tUn (rU fun i => .int (-i)) (tC (.int 1)))) := po_some (pe_un un_neg pe_int)
  refine wpAny_Slice (thn (po_none.run pins s1 σ H1 (fun o H2 => o = none ∧ H2 = H1) I1 ⟨rfl, rfl⟩) fun vl s2 ⟨l, H2, I2, pl, el, e2⟩ => ?_)
  subst el e2
  refine thn (po_none.run pins s2 σ H2 (fun o H3 => o = none ∧ H3 = H2) I2 ⟨rfl, rfl⟩) fun vu s3 ⟨u, H3, I3, pu, eu, e3⟩ => ?_
  subst eu e3
  refine thn (st.run pins s3 σ H3 (fun o H4 => o = some (-1) ∧ H4 = H3) I3 ⟨1, rfl, -1, rfl, rfl, rfl⟩) fun vs s4 ⟨o, H4, I4, ps, eo, e4⟩ => ?_
  subst eo e4
  have I5 : Inv X pins σ H4 { s4 with heap := s4.heap.push { cls := .type "slice", data := .fields #[vl, vu, vs] } } := I4.kept (t' := s4.toks) fun b ob q => Heap.get?_push_of_some _ q
  show wpAny (model X.prog X.w) X.A (subscriptTail e (.Slice none none (some (.UnaryOp .USub (.Constant (.int 1) k p1) p2)) p3) (.ref a) (.ref s4.heap.objs.size)) (EP X pins σ Q) X.xe { s4 with heap := s4.heap.push { cls := .type "slice", data := .fields #[vl, vu, vs] } }
  rcases q with ⟨hx, q⟩ | ⟨hx, q⟩
  · obtain ⟨its, r, ht, hz⟩ := I5.list hx
    refine tail_any (ops := [.ref a, .ref s4.heap.objs.size]) ht.isList.typeIs (PySem.slot_list_getitem.lookup) (wpAny_getItem_list_slice ht.isList (Heap.IsSliceOf.new _ vl vu vs) pl pu ps (by decide) ?_ (by rw [List.size_toArray, ← r.length]; exact hz)) (by with_unfolding_all rfl)
    rw [PySem.W.krv_pick]
    refine ⟨.ref _, _, I5.laid (t' := s4.toks) (o := .lst xs.reverse) (fun b ob q => Heap.get?_push_of_some _ q) (Nat.le_refl _) ?_, rfl, q _ (I5.hok.fresh (Nat.le_refl _))⟩
    exact ⟨by rw [List.length_reverse]; exact hz, _, 0, r.reverse, Heap.get?_push_size _ rfl⟩
  · obtain ⟨its, r, ht, hz⟩ := I5.tuple hx
    cases pl
    cases pu
    refine tail_any (ops := [.ref a, .ref s4.heap.objs.size]) ht.typeIs (PyProof.Rows.slot_tuple_getitem.lookup) (tuple_back ht (Heap.IsSliceOf.new _ .none .none vs) ps ?_ (by rw [List.size_toArray, ← r.length]; exact hz)) (by with_unfolding_all rfl)
    refine ⟨.ref _, _, I5.laid (t' := s4.toks) (o := .tup xs.reverse) (fun b ob q => Heap.get?_push_of_some _ q) (Nat.le_refl _) ?_, rfl, q _ (I5.hok.fresh (Nat.le_refl _))⟩
    exact ⟨by rw [List.length_reverse]; exact hz, _, r.reverse, IsTup.new _ _⟩
theorem we_rev {k : Nat} {p1 p2 p3 : Pos} (he : WE X Z e Ta) : WE X Z (.Subscript e (.Slice none none (some (.UnaryOp .USub (.Constant (.int 1) k p1) p2)) p3) pos) (tRevW Ta) := (pe_revA he).weak fun σ H Q h => by
  obtain ⟨S, G, R, sr, t, k⟩ := h
  refine Lf.go sr t fun w G1 v H1 t1 f1 r1 h1 => ?_
  unfold revW at t1
  split at t1
  · cases r1 with
    | tup q rs => exact ⟨_, _, rfl, .inr ⟨SqT.of q, fun p hp => k _ _ _ _ t1 (f1.trans (.new hp)) (.tup upd_same ((rs.mono (.new hp) h1).rev)) (h1.new hp)⟩⟩
  · cases r1 with
    | fl q rs => exact ⟨_, _, rfl, .inl ⟨q.seq, fun p hp => k _ _ _ _ (t1 p (h1.free hp)) (f1.trans (.newG hp)) (.ref _) (h1.newG hp ⟨_, upd_same, (rs.mono (.newG (G := G1) (o := .lst []) hp) h1).rev⟩)⟩⟩
  · rename_i p
    cases r1
    split at t1
    · rename_i ys eg
      obtain ⟨vs, hv, rs⟩ := h1 _ _ eg
      exact ⟨_, _, rfl, .inl ⟨SqL.of hv, fun p hp => k _ _ _ _ (t1 p (h1.free hp)) (f1.trans (.newG hp)) (.ref _) (h1.newG hp ⟨_, upd_same, (rs.mono (.newG (G := G1) (o := .lst []) hp) h1).rev⟩)⟩⟩
    · exact t1.elim
  · exact t1.elim

/-! ### new dicts -/
def tDict0 : TW := fun S G R => ∀ p, G p = none → R (.ref p) (updG G p (.dK []))
theorem we_dict0 : WE X Z (.Dict [] [] pos) tDict0 := pe_dnewK.weak fun σ H Q h => by
  obtain ⟨S, G, R, sr, t, k⟩ := h
  exact fun p hp => k _ _ _ _ (t p (sr.rh.free hp)) (.newG hp) (.ref _) (sr.rh.newG hp ⟨[], upd_same, .nil⟩)
def tDict0T : TW := fun S G R => ∀ p, G p = none → R (.ref p) (updG G p (.dT []))
theorem we_dict0T : WE X Z (.Dict [] [] pos) tDict0T := pe_dnewT.weak fun σ H Q h => by
  obtain ⟨S, G, R, sr, t, k⟩ := h
  exact fun p hp => k _ _ _ _ (t p (sr.rh.free hp)) (.newG hp) (.ref _) (sr.rh.newG hp ⟨[], upd_same, .nil⟩)
/-- the pairs of a list -/
def pairsOf : List W → Option (List (Key × W))
  | [] => some []
  | .tup [k, v] :: r => match k.key?, pairsOf r with
    | some c, some m => some ((c, v) :: m)
    | _, _ => none
  | _ :: _ => none
def mergeW (acc : List (Key × W)) : List (Key × W) → List (Key × W)
  | [] => acc
  | kv :: r => mergeW (putW acc kv.1 kv.2) r
theorem mergeW_rkv {H : Hp} : ∀ {kvs : List (Key × V)} {kws : List (Key × W)} {av : List (Key × V)} {aw : List (Key × W)}, RKV K H kvs kws → RKV K H av aw → RKV K H (mergeK av kvs) (mergeW aw kws)
  | _, _, _, _, .nil, r => r
  | (c, v) :: kvs, (c', w) :: kws, av, aw, .cons ⟨e, q⟩ t, r => by
    have e' : c = c' := e
    subst e'
    exact mergeW_rkv (kvs := kvs) (kws := kws) (av := putK av c v) (aw := putW aw c w) t (RKV.put r q)
theorem key_val {H : Hp} {v : V} {w : W} {c : Key} (r : RV K H v w) (h : w.key? = some c) : v = kV c := by
  have ew := key_of? h
  subst ew
  cases c <;> (cases r; rfl)
theorem pairs_read {H : Hp} : ∀ {ws : List W} {vs : List V} {kws : List (Key × W)}, RVs K H vs ws → pairsOf ws = some kws → ∃ (ps : List Addr) (kvs : List (Key × V)), vs = ps.map V.ref ∧ Paired (fun p kv => SqT K H p [kV kv.1, kv.2]) ps kvs ∧ RKV K H kvs kws
  | [], _, kws, .nil, h => by cases h; exact ⟨[], [], rfl, .nil, .nil⟩
  | w :: ws, _, kws, .cons r rs, h => by
    unfold pairsOf at h
    split at h
    · rename_i e; cases e
    · rename_i k v rest e
      cases e
      split at h
      · rename_i c m e1 e2
        cases h
        obtain ⟨ps, kvs, e3, q, r2⟩ := pairs_read rs e2
        cases r with
        | tup hq rr =>
          obtain ⟨kv, vv, rfl, rk, rv⟩ := rr.two
          have := key_val rk e1
          subst this
          exact ⟨_ :: ps, (c, vv) :: kvs, by rw [e3]; rfl, .cons (SqT.of hq) q, .cons ⟨rfl, rv⟩ r2⟩
      · cases h
    · cases h
/-- dict([..]) of pairs -/
def fDict : CF := fun ws G R => match pairsOf ws with
  | some kws => ∀ p, G p = none → R (.ref p) (updG G p (.dK (mergeW [] kws)))
  | none => False
theorem tmp_dict (hc : X.calm = true) : CallR X (.type "dict") (tmpR X.K fDict) := by
  intro pins s σ H xs us Q I r h
  obtain ⟨D, vs, ws, G, R, rfl, hd, rs, rh, gd, t, k⟩ := h
  unfold fDict at t
  split at t
  · rename_i kws e
    obtain ⟨ps, kvs, rfl, q, rr⟩ := pairs_read rs e
    exact call_dictP hc pins s σ H _ us Q I r ⟨D, ps, kvs, rfl, SqL.of hd, q, fun p hp => k _ _ _ _ (t p (rh.free hp)) (.newG hp) (.ref _) (rh.newG hp ⟨_, upd_same, (mergeW_rkv rr .nil).mono (.newG (G := G) (o := .lst []) hp) rh⟩)⟩
  · exact t.elim
end
end WL
set_option Elab.async false
set_option linter.all false
set_option maxRecDepth 100000
set_option maxHeartbeats 4000000
/-! WL, part n: plain laws of lists; different values counted; what may be asked its type. -/
namespace WL
open PySem PySem.Spec PyProof.Rows L2

theorem perm_of : ∀ (A L : List Int), A.Nodup → (∀ a ∈ A, a ∈ L) → L.length = A.length → A.Perm L
  | [], L, _, _, h => by
    have : L = [] := List.length_eq_zero_iff.mp h
    rw [this]
  | a :: A, L, nd, sub, h => by
    have ha := sub a List.mem_cons_self
    have nd' := List.nodup_cons.mp nd
    have hl : (L.erase a).length = A.length := by
      rw [List.length_erase_of_mem ha, h]; simp
    have ih := perm_of A (L.erase a) nd'.2 (fun x hx => (List.mem_erase_of_ne (fun e => nd'.1 (by rw [← e]; exact hx))).mpr (sub x (List.mem_cons_of_mem _ hx))) hl
    exact (List.Perm.cons a ih).trans (List.perm_cons_erase ha).symm
theorem sorted_eq {A B : List Int} (p : A.Perm B) (h1 : A.Pairwise (· ≤ ·)) (h2 : B.Pairwise (· ≤ ·)) : A = B := List.Perm.eq_of_pairwise (fun _ _ _ _ a b => Int.le_antisymm a b) h1 h2 p
theorem rgI_mem {a b x : Int} : x ∈ rgI a b ↔ a ≤ x ∧ x < b := by
  unfold rgI
  rw [List.mem_map]
  constructor
  · rintro ⟨i, hi, rfl⟩
    have := List.mem_range.mp hi
    omega
  · rintro ⟨h1, h2⟩
    exact ⟨(x - a).toNat, List.mem_range.mpr (by omega), by omega⟩
theorem rgI_length {a b : Int} : (rgI a b).length = (b - a).toNat := by unfold rgI; rw [List.length_map, List.length_range]
theorem rgI_sorted (a b : Int) : (rgI a b).Pairwise (· ≤ ·) := by
  unfold rgI
  rw [List.pairwise_map]
  exact List.Pairwise.imp (fun h => by omega) List.pairwise_lt_range
theorem rgI_nodup (a b : Int) : (rgI a b).Nodup := by
  unfold rgI
  rw [List.Nodup, List.pairwise_map]
  exact List.Pairwise.imp (fun h => by omega) List.pairwise_lt_range
/-! ### different values -/
def ded (acc : List Key) : List Key → List Key
  | [] => acc
  | k :: ks => ded (if k ∈ acc then acc else acc ++ [k]) ks
theorem ded_len : ∀ (ks acc : List Key), (ded acc ks).length ≤ acc.length + ks.length ∧ ((ded acc ks).length = acc.length + ks.length ↔ ks.Nodup ∧ ∀ k ∈ ks, k ∉ acc)
  | [], acc => ⟨by simp [ded], by simp [ded]⟩
  | k :: ks, acc => by
    unfold ded
    by_cases h : k ∈ acc
    · rw [if_pos h]
      have ih := ded_len ks acc
      refine ⟨by rw [List.length_cons]; omega, ⟨fun e => ?_, fun e => absurd h (e.2 k List.mem_cons_self)⟩⟩
      rw [List.length_cons] at e
      omega
    · rw [if_neg h]
      have ih := ded_len ks (acc ++ [k])
      rw [List.length_append, List.length_singleton] at ih
      refine ⟨by rw [List.length_cons]; omega, ?_⟩
      rw [List.length_cons, show acc.length + (ks.length + 1) = acc.length + 1 + ks.length by omega, ih.2, List.nodup_cons]
      constructor
      · rintro ⟨h1, h2⟩
        refine ⟨⟨fun m => h2 k m (by simp), h1⟩, fun j hj => ?_⟩
        rcases List.mem_cons.mp hj with rfl | hj
        · exact h
        · exact fun m => h2 j hj (by simp [m])
      · rintro ⟨⟨h1, h2⟩, h3⟩
        refine ⟨h2, fun j hj m => ?_⟩
        rcases List.mem_append.mp m with m | m
        · exact h3 j (List.mem_cons_of_mem _ hj) m
        · exact h1 (by rw [← List.mem_singleton.mp m]; exact hj)
theorem ded_nodup (ks : List Key) : (ded [] ks).length = ks.length ↔ ks.Nodup := by
  have := (ded_len ks []).2
  simp only [List.length_nil, Nat.zero_add, List.not_mem_nil, not_false_eq_true, implies_true, and_true] at this
  exact this
theorem compK_pure {α : Type} {f : α → W} {v : α → Key} {Gd : GH → Prop} {g : TGW} {te : TW} {S0 : WSt} {R : List Key → GH → Prop} {G : GH} (hg : Gd G) :
    ∀ (xs : List α) (acc : List Key), acc.length + xs.length + 1 < scanBound → (∀ x ∈ xs, ∀ (R' : KW), (∀ w, w.key? = some (v x) → R' w G) → g (f x) S0 G fun S2 G2 => te S2 G2 R') →
    R (ded acc (xs.map v)) G → compK Gd g tYesW te S0 R (xs.map f) G acc
  | [], acc, _, _, r => ⟨hg, r⟩
  | x :: xs, acc, hl, st, r => by
    rw [List.length_cons] at hl
    refine ⟨hg, st x List.mem_cons_self _ fun w hw => ⟨v x, hw, by omega, ?_⟩⟩
    refine compK_pure hg xs _ ?_ (fun y hy => st y (List.mem_cons_of_mem _ hy)) r
    split
    · omega
    · rw [List.length_append, List.length_singleton]; omega
/-! ### types -/
theorem tyW_ext {w : W} {G G' : GH} {t : Ty} (x : ExtG G G') (h : tyW w G = some t) : tyW w G' = some t := by
  unfold tyW at h ⊢
  cases w with
  | ref p =>
    dsimp only at h ⊢
    cases e : G p with
    | none => rw [e] at h; cases h
    | some o => rw [x p o e]; rw [e] at h; exact h
  | _ => exact h
theorem compW_pureW {v : W → W} {Gd : GH → Prop} {g : TGW} {te : TW} {S0 : WSt} {R : List W → GH → Prop} {G : GH} {xs : List W} (hg : Gd G) (hl : xs.length ≤ sizeLine)
    (st : ∀ x ∈ xs, ∀ (R' : KW), R' (v x) G → g x S0 G fun S2 G2 => te S2 G2 R') (fin : R (xs.map v) G) : compW Gd g tYesW te S0 R xs G [] := by
  have := compW_pure (f := id) (v := v) (R := R) hg xs [] (by simpa using hl) st (by simpa using fin)
  rw [List.map_id] at this
  exact this
theorem compK_pureW {v : W → Key} {Gd : GH → Prop} {g : TGW} {te : TW} {S0 : WSt} {R : List Key → GH → Prop} {G : GH} {xs : List W} (hg : Gd G) (hl : xs.length < 4000)
    (st : ∀ x ∈ xs, ∀ (R' : KW), (∀ w, w.key? = some (v x) → R' w G) → g x S0 G fun S2 G2 => te S2 G2 R') (fin : R (ded [] (xs.map v)) G) : compK Gd g tYesW te S0 R xs G [] := by
  have := compK_pure (f := id) (v := v) (R := R) hg xs [] (by unfold scanBound; simp; omega) st fin
  rw [List.map_id] at this
  exact this
/-- with a test -/
theorem compW_pureFW {v : W → W} {keep : W → Bool} {Gd : GH → Prop} {g : TGW} {tt : TWT} {te : TW} {S0 : WSt} {R : List W → GH → Prop} {G : GH} {xs : List W} (hg : Gd G) (hl : xs.length ≤ sizeLine)
    (st : ∀ x ∈ xs, ∀ (R' : KW) (N' : GH → Prop), (keep x = true → R' (v x) G) → (keep x = false → N' G) → g x S0 G fun S2 G2 => tt S2 G2 fun b G3 => if b = true then te S2 G3 R' else N' G3)
    (fin : R ((xs.filter keep).map v) G) : compW Gd g tt te S0 R xs G [] := by
  have := compW_pureF (f := id) (v := v) (keep := keep) (R := R) hg xs [] (by simpa using hl) st (by simpa using fin)
  rw [List.map_id] at this
  exact this
/-- of what runs over one list in one state to what another wishes -/
theorem KeepG.get {d p : Addr} {G G' : GH} {o : GO} (k : KeepG d G G') (n : p ≠ d) (h : G p = some o) : G' p = some o := k _ _ n h
mutual
theorem PD.ext {G G' : GH} (x : ExtG G G') : ∀ {w : W} {d : PyData}, PD G w d → PD G' w d
  | _, _, .non => .non
  | _, _, .bl b => .bl b
  | _, _, .int b => .int b
  | _, _, .str b => .str b
  | _, _, .tup q => .tup (PDs.ext x q)
  | _, _, .kt q => .kt (PDs.ext x q)
  | _, _, .fl q => .fl (PDs.ext x q)
  | _, _, .lst e q => .lst (x _ _ e) (PDs.ext x q)
theorem PDs.ext {G G' : GH} (x : ExtG G G') : ∀ {w : List W} {d : List PyData}, PDs G w d → PDs G' w d
  | _, _, .nil => .nil
  | _, _, .cons q r => .cons (PD.ext x q) (PDs.ext x r)
end
theorem PD.ty {G : GH} {w : W} {d : PyData} (h : PD G w d) : tyW w G ≠ none := by
  cases h with
  | lst e q =>
    unfold tyW
    dsimp only
    rw [e]
    simp
  | _ => simp [tyW]
/-- data, not too deep -/
def Dat (G : GH) (w : W) : Prop := ∃ d, PD G w d ∧ d.depth ≤ 50
theorem Dat.ext {G G' : GH} {w : W} (x : ExtG G G') (h : Dat G w) : Dat G' w := let ⟨d, p, q⟩ := h; ⟨d, p.ext x, q⟩
theorem dats {G : GH} : ∀ {L : List W}, (∀ x ∈ L, Dat G x) → ∃ ds, PDs G L ds ∧ ∀ d ∈ ds, d.depth ≤ 50
  | [], _ => ⟨[], .nil, by simp⟩
  | x :: L, h => by
    obtain ⟨d, p, q⟩ := h x List.mem_cons_self
    obtain ⟨ds, ps, qs⟩ := dats fun y hy => h y (List.mem_cons_of_mem _ hy)
    exact ⟨d :: ds, .cons p ps, fun e he => by
      rcases List.mem_cons.mp he with rfl | he
      · exact q
      · exact qs e he⟩
theorem dat_tup {G : GH} {xs : List W} {B : Nat} (h : ∀ x ∈ xs, ∃ d, PD G x d ∧ d.depth ≤ B) (hB : B < 50) : Dat G (.tup xs) := by
  have : ∀ {L : List W}, (∀ x ∈ L, ∃ d, PD G x d ∧ d.depth ≤ B) → ∃ ds, PDs G L ds ∧ ∀ d ∈ ds, d.depth ≤ B := by
    intro L
    induction L with
    | nil => intro _; exact ⟨[], .nil, by simp⟩
    | cons x L ih =>
      intro h
      obtain ⟨d, p, q⟩ := h x List.mem_cons_self
      obtain ⟨ds, ps, qs⟩ := ih fun y hy => h y (List.mem_cons_of_mem _ hy)
      exact ⟨d :: ds, .cons p ps, fun e he => by
        rcases List.mem_cons.mp he with rfl | he
        · exact q
        · exact qs e he⟩
  obtain ⟨ds, ps, qs⟩ := this h
  exact ⟨_, .tup ps, by rw [PyData.depth]; have := depthAll_le qs; omega⟩
theorem dat_int {G : GH} (i : Int) : Dat G (.int i) := ⟨_, .int i, Nat.zero_le _⟩
theorem dat_bl {G : GH} (i : Bool) : Dat G (.bl i) := ⟨_, .bl i, Nat.zero_le _⟩
theorem dat_str {G : GH} (i : Str) : Dat G (.str i) := ⟨_, .str i, Nat.zero_le _⟩
theorem dat_non {G : GH} : Dat G .non := ⟨_, .non, Nat.zero_le _⟩
theorem dat_ints {G : GH} (ns : List Int) : Dat G (.tup (ns.map W.int)) := ⟨_, .tup (PDs.ints ns), by rw [PyData.depth, WL.depthAll_ints]; decide⟩
theorem dat_lints {G : GH} {p : Addr} {ns : List Int} (h : G p = some (.lst (ns.map W.int))) : Dat G (.ref p) := ⟨_, .lst h (PDs.ints ns), by rw [PyData.depth, WL.depthAll_ints]; decide⟩
/-- a list beside the empty one -/
theorem eq_empty {G : GH} {R : KW} {n : Bool} {p q : Addr} {L : List W} (h1 : G p = some (.lst L)) (h2 : G q = some (.lst [])) (hd : ∀ x ∈ L, Dat G x) (k : R (.bl (n != decide (L = []))) G) : eqW n (.ref p) (.ref q) G R := by
  obtain ⟨ds, ps, qs⟩ := dats hd
  refine ⟨_, _, .lst h1 ps, .lst h2 .nil, by rw [PyData.depth]; have := depthAll_le qs; omega, ?_⟩
  have e : PyData.eqv (.list ds) (.list []) = decide (L = []) := by
    have := ps.length
    cases ds with
    | nil =>
      have : L = [] := List.length_eq_zero_iff.mp this
      subst this
      simp [PyData.eqv, PyData.eqvAll]
    | cons d ds =>
      have : L ≠ [] := fun e => by rw [e] at this; cases this
      simp [PyData.eqv, PyData.eqvAll, this]
  rw [e]
  exact k
theorem ixN_nat {n : Nat} {i : Int} (h0 : 0 ≤ i) (h1 : i < n) : ixN n i = some i.toNat := by
  unfold ixN
  rw [if_pos h0, if_pos h1]
theorem seqIndex_nat {n : Nat} {i : Int} (h0 : 0 ≤ i) (h1 : i < n) : seqIndex? i n = some i.toNat := by
  unfold seqIndex?
  first
  | (simp only [show ¬ i < 0 by omega, if_false]; rw [if_pos (by omega)])
  | (simp; omega)
theorem set_bound {B : Nat} {L : List Int} {v : Int} {j : Nat} (h : ∀ l ∈ L, l.natAbs ≤ B) (hv : v.natAbs ≤ B) : ∀ l ∈ L.set j v, l.natAbs ≤ B := fun l hl => by
  rcases List.mem_or_eq_of_mem_set hl with hl | rfl
  · exact h l hl
  · exact hv
theorem cutG_lo {α : Type} {f : α → W} {L : List α} {v : Int} (h0 : 0 ≤ v) (h1 : v ≤ L.length) : cutG (L.map f) (some v) none = (L.drop v.toNat).map f := by
  have e : HT.sIx L.length 0 (some v) = v.toNat := by
    show (if v < 0 then (v + (L.length : Int)).toNat else min v.toNat L.length) = _
    rw [if_neg (by omega)]; omega
  unfold cutG
  rw [List.length_map, e, show HT.sIx L.length L.length none = L.length from rfl, List.map_drop, List.take_of_length_le (by rw [List.length_drop, List.length_map]; exact Nat.le_refl _)]
theorem cutG_hi {α : Type} {f : α → W} {L : List α} {v : Int} (h0 : 0 ≤ v) (h1 : v ≤ L.length) : cutG (L.map f) none (some v) = (L.take v.toNat).map f := by
  have e : HT.sIx L.length L.length (some v) = v.toNat := by
    show (if v < 0 then (v + (L.length : Int)).toNat else min v.toNat L.length) = _
    rw [if_neg (by omega)]; omega
  unfold cutG
  rw [List.length_map, e, show HT.sIx L.length 0 none = 0 from rfl, List.drop_zero, Nat.sub_zero, List.map_take]
theorem cutG_last {α : Type} {f : α → W} {L : List α} : cutG (L.map f) none (some (-1)) = (L.dropLast).map f := by
  have e : HT.sIx L.length L.length (some (-1)) = L.length - 1 := by
    show (if (-1 : Int) < 0 then ((-1 : Int) + (L.length : Int)).toNat else min (-1 : Int).toNat L.length) = _
    rw [if_pos (by decide)]; omega
  unfold cutG
  rw [List.length_map, e, show HT.sIx L.length 0 none = 0 from rfl, List.drop_zero, Nat.sub_zero, List.dropLast_eq_take, List.map_take]
theorem erase_map {α β : Type} {f : α → β} : ∀ (l : List α) (i : Nat), (l.map f).eraseIdx i = (l.eraseIdx i).map f
  | [], _ => rfl
  | _ :: _, 0 => rfl
  | x :: l, i + 1 => by
    show f x :: (l.map f).eraseIdx i = f x :: (l.eraseIdx i).map f
    rw [erase_map l i]
/-- one thing is forgotten -/
def delG (G : GH) (p : Addr) : GH := fun b => if b = p then none else G b
theorem delG_ext {G : GH} {p : Addr} : ExtG (delG G p) G := fun a o e => by
  unfold delG at e
  split at e
  · cases e
  · exact e
theorem delG_upd {G : GH} {p : Addr} {o : GO} : delG (updG G p o) p = delG G p := by
  funext b
  unfold delG updG
  split <;> rfl
theorem delG_get {G : GH} {p a : Addr} (h : a ≠ p) : delG G p a = G a := if_neg h
theorem delG_mono {G G' : GH} {p : Addr} (x : ExtG G G') : ExtG (delG G p) (delG G' p) := fun a o e => by
  by_cases h : a = p
  · subst h; unfold delG at e; rw [if_pos rfl] at e; cases e
  · rw [delG_get h] at e ⊢; exact x _ _ e
theorem forW_inv {Gd : GH → Prop} {g : TGW} {tb : TWS} {D : WEnds} (I : List W → WSt → GH → Prop)
    (step : ∀ x xs S G, I (x :: xs) S G → ∀ N : WSt → GH → Prop, (∀ S' G', I xs S' G' → N S' G') → Gd G ∧ g x S G fun S1 G1 => tb { D with nx := N, ct := N, bk := D.nx } S1 G1)
    (fin : ∀ S G, I [] S G → Gd G ∧ D.nx S G) : ∀ xs S G, I xs S G → forW Gd g tb D xs S G
  | [], S, G, h => fin S G h
  | x :: xs, S, G, h => step x xs S G h _ fun S' G' h' => forW_inv I step fin xs S' G' h'
theorem walkW_lst {p : Addr} {G : GH} {xs : List W} {R : List W → (GH → Prop) → GH → Prop} (h : G p = some (.lst xs)) (k : R xs (fun G => G p = some (.lst xs)) G) : walkW (.ref p) G R := by
  unfold walkW
  dsimp only
  rw [h]
  exact k
theorem Dat.del {G : GH} {p : Addr} {w : W} (h : Dat (delG G p) w) : Dat G w := h.ext delG_ext
theorem pairsOf_map {α : Type} (k : α → Int) (v : α → W) : ∀ l : List α, pairsOf (l.map fun x => W.tup [.int (k x), v x]) = some (l.map fun x => (Sum.inl (k x), v x))
  | [] => rfl
  | x :: l => by
    rw [List.map_cons, List.map_cons]
    show (match (W.int (k x)).key?, pairsOf (l.map fun x => W.tup [.int (k x), v x]) with
      | some c, some m => some ((c, v x) :: m)
      | _, _ => none) = _
    rw [pairsOf_map k v l]
    rfl
/-! ### repr of ints -/
theorem showable_ints : ∀ {ns : List Int}, (∀ n ∈ ns, n.natAbs < 10 ^ 9) → PyData.showableAll (ns.map .int) = true
  | [], _ => rfl
  | n :: ns, h => by
    rw [List.map_cons, PyData.showableAll, showable_ints fun m hm => h m (List.mem_cons_of_mem _ hm), Bool.and_true, PyData.showable]
    exact decide_eq_true (log2_lt (Nat.lt_of_lt_of_le (h n List.mem_cons_self) (Nat.le_trans (by decide : 10 ^ 9 ≤ 2 ^ 30) (Nat.pow_le_pow_right (by decide) (by decide)))) (by decide))
theorem shown_sum : ∀ {ns : List Int}, (∀ n ∈ ns, n.natAbs < 10 ^ 9) → ((PyData.shownAll (ns.map .int)).map (·.length)).sum ≤ ns.length * 10 ∧ (PyData.shownAll (ns.map .int)).length = ns.length
  | [], _ => ⟨by simp [PyData.shownAll], by simp [PyData.shownAll]⟩
  | n :: ns, h => by
    have ih := shown_sum (ns := ns) fun m hm => h m (List.mem_cons_of_mem _ hm)
    have e := txt_int_len (k := 9) (by decide) (h n List.mem_cons_self)
    rw [List.map_cons, PyData.shownAll, PyData.shown]
    simp only [List.map_cons, List.sum_cons, List.length_cons]
    have e2 : (Str.ofString (toString n)).length ≤ 10 := e
    exact ⟨by have := ih.1; omega, by rw [ih.2]⟩
theorem repr_ints {ns : List Int} {G : GH} {R : KW} (h : ∀ n ∈ ns, n.natAbs < 10 ^ 9) (hl : ns.length ≤ 100000) (k : R (.str (PyData.tuple (ns.map .int)).shown) G) : reprW [.tup (ns.map W.int)] G R := by
  refine ⟨_, .tup (PDs.ints ns), ?_, ?_, ?_, k⟩
  · rw [PyData.showable]; exact showable_ints h
  · rw [PyData.depth, WL.depthAll_ints]; decide
  · have e := shown_sum h
    have := tupleText_len_le (PyData.shownAll (ns.map .int))
    rw [PyData.shown, sizeLine_eq]
    omega
theorem shows_ints {ns : List Int} (h : ∀ n ∈ ns, n.natAbs < 10 ^ 9) (hl : ns.length ≤ 100000) : (PyData.tuple (ns.map .int)).showable = true ∧ (PyData.tuple (ns.map .int)).depth ≤ 60 ∧ (PyData.tuple (ns.map .int)).shown.length ≤ sizeLine := by
  refine ⟨?_, ?_, ?_⟩
  · rw [PyData.showable]; exact showable_ints h
  · rw [PyData.depth, WL.depthAll_ints]; decide
  · have e := shown_sum h
    have := tupleText_len_le (PyData.shownAll (ns.map .int))
    rw [PyData.shown, sizeLine_eq]
    omega
end WL
set_option Elab.async false
set_option linter.all false
set_option maxRecDepth 100000
set_option maxHeartbeats 4000000
/-! WL, part o: sorted(.., key=abs) of ints. -/
namespace WL
open PySem PySem.Spec PyProof.Rows L2 PySem.W

def absI (n : Int) : Int := if n < 0 then -n else n
/-- the ints by their amounts, those alike in their order -/
def byAbs (ns : List Int) : List Int := ns.mergeSort (dataLe false fun n => .int (absI n))
theorem byAbs_perm (ns : List Int) : (byAbs ns).Perm ns := List.mergeSort_perm ns _
section
variable {prog : Program} {w : World} {A : Around} {E : Value → Shared → Prop} {s : Shared}
theorem abs_turn (n : Int) (t : Tok) (B : Around) (h : Heap) (tk : Nat) : wpAny (model prog w) B (call (.builtin "abs") [.int n t]) (KeyPure (.int (absI n)) { s with heap := h, toks := tk }) (fun _ _ => False) { s with heap := h, toks := tk } :=
  call_abs_int fun u tk' => ⟨h, tk', rfl, fun _ _ e => e, .int _ _⟩
theorem ints_each : ∀ {us : List Value} {ns : List Int}, IntsAre us ns → EachIs (fun v (n : Int) => ∃ t, v = Value.int n t) us ns
  | _, _, .nil => .nil
  | _, _, .cons n t r => .cons ⟨t, rfl⟩ (ints_each r)
theorem each_ints : ∀ {us : List Value} {ns : List Int}, EachIs (fun v (n : Int) => ∃ t, v = Value.int n t) us ns → IntsAre us ns
  | _, _, .nil => .nil
  | _, _, .cons ⟨t, e⟩ r => by subst e; exact .cons _ t (each_ints r)
theorem sort_abs_there {a : Addr} {n : Nat} {us : List Value} {ns : List Int} {Q : Value → Shared → Prop} (ho : s.heap.get? a = some (seqObj "list" us.toArray n)) (hi : IntsAre us ns) (hL : ns.length ≤ sizeLine) (hu : A.units + 10 < cLine)
    (h : ∀ out c h' tk, KeepsBut a s.heap h' → h'.get? a = some (seqObj "list" (List.toArray out) c) → IntsAre out (byAbs ns) → Q .none { s with heap := h', toks := tk }) :
    wpAny (model prog w) A (call (.builtin "list.sort") [.ref a] [(Str.ofString "key", .builtin "abs")]) Q E s := by
  refine list_sort_key_data (β := Int) (b := false) (fun n => .int (absI n)) ho (ints_each hi) ?_ ?_ hL (fun x _ => ?_) ?_ rfl ?_ fun out c h' tk kp g len each => h out c h' tk kp g (each_ints each)
  · intro d hd d' hd'
    obtain ⟨n, _, rfl⟩ := List.mem_map.mp hd
    obtain ⟨m, _, rfl⟩ := List.mem_map.mp hd'
    rfl
  · refine .inr fun d hd => ?_
    obtain ⟨n, _, rfl⟩ := List.mem_map.mp hd
    exact ⟨by simp, by simp⟩
  · show A.units + 1 + 0 < cLine
    omega
  · unfold argsOk; kernel_rfl
  · rintro v x ⟨t, rfl⟩ _ h tk _
    exact abs_turn x t _ h tk
/-- sorted of what collects to the ints ns -/
theorem sorted_abs {it : Addr} {ns : List Int} {Q : Value → Shared → Prop} (coll : ∀ R : List Value → Shared → Prop, (∀ us h' tk, (∀ b o, s.heap.get? b = some o → h'.get? b = some o) → IntsAre us ns → R us { s with heap := h', toks := tk }) → wpAny (model prog w) A.in1 (collect (.ref it)) R E s)
    (hL : ns.length ≤ sizeLine) (hu : A.units + 20 < cLine) (h : ∀ out c (h1 h2 : Heap) tk2, (∀ b o, s.heap.get? b = some o → h1.get? b = some o) → (∀ b o, h1.get? b = some o → h2.get? b = some o) → h2.get? h1.objs.size = some (seqObj "list" (List.toArray out) c) → IntsAre out (byAbs ns) →  Q (.ref h1.objs.size) { s with heap := h2, toks := tk2 }):
    wpAny (model prog w) A (call (.builtin "sorted") [.ref it] [(Str.ofString "key", .builtin "abs")]) Q E s := by
  refine call_function_entry_kw kind_sorted plain_sorted entry_sorted (ksk_s1 _ _) ?_
  unfold Builtin.«sorted»
  refine wpAny_bind (m := checkCount "sorted" 1 1 _) (wpAny_pure ?_)
  refine wpAny_bind (coll _ fun us h' tk kp hi => ?_)
  have hz : us.length ≤ sizeLine := by rw [hi.length]; exact hL
  refine wpAny_bind (wpAny_newList ?_ hz)
  refine wpAny_bind (wpAny_holding (sort_abs_there (n := 0) (ns := ns) (us := us) (Heap.get?_push_size _ rfl) hi hL (by show A.units + 1 + 10 < cLine; omega) fun out c h2 tk2 k2 g2 i2 => ?_))
  refine wpAny_pure ⟨_, rfl, ?_⟩
  exact h out c h' h2 tk2 kp (fun b o e => k2 b o (Nat.ne_of_lt (Heap.lt_size e)) (Heap.get?_push_of_some _ e)) g2 i2
end
/-! ### as an expression -/
def IntsAt (K : PySem.W.Frag) (H : Hp) (a : Addr) (ns : List Int) : Prop := SqL K H a (ns.map V.int) ∨ SqT K H a (ns.map V.int) ∨ ∃ kvs : List (Key × V), Rd H a (.dK kvs) ∧ kvs.map (·.1) = ns.map Sum.inl
def tSortAbs (K : PySem.W.Frag) (te : TE) : TE := fun σ H Q => tCons te tNil σ H fun vs H1 => ∃ a ns, vs = [.ref a] ∧ IntsAt K H1 a ns ∧ ∀ p, H1 p = none → Q (.ref p) (upd H1 p (.lst ((byAbs ns).map V.int)))
theorem vals_ints' {us : List Value} {ns : List Int} (h : IntsAre us ns) : Vals (ns.map V.int) us := vals_ints h
section
variable {X : Cx} {Z : GH × Hp} {e : Expr} {te : TE} {Ta : TW} {pos p p2 kpos : Pos}
theorem dict_ints : ∀ {us : List Value} {ns : List Int}, us.length = ns.length → (∀ (j : Nat) (v : Value), us[j]? = some v → ∃ n : Int, ns[j]? = some n ∧ ∃ t, v = Value.int n t) → IntsAre us ns
  | [], [], _, _ => .nil
  | u :: us, n :: ns, hl, h => by
    obtain ⟨m, e, t, rfl⟩ := h 0 u rfl
    cases e
    exact .cons n t (dict_ints (by simpa using hl) fun j v e => h (j + 1) v e)
theorem mix_int {P : Program} {w : World} {n : Int} {v : Value} (h : (mixKind P w).is (Sum.inl n) v = true) : ∃ t, v = Value.int n t := by
  rcases keyIs_shape (k := Sum.inl n) (v := v) h with ⟨i, t, e, rfl⟩ | ⟨x, t, e, _⟩
  · cases e; exact ⟨t, rfl⟩
  · cases e
theorem ints_collect {pins : List (Addr × Obj)} {σ : L2.St} {H : Hp} {s : Shared} {a : Addr} {ns : List Int} {E : Value → Shared → Prop} (I : Inv X pins σ H s) (hc : X.A.handled = none) (h : IntsAt X.K H a ns) :
    ns.length ≤ sizeLine ∧ ∀ R : List Value → Shared → Prop, (∀ us h' tk, (∀ b o, s.heap.get? b = some o → h'.get? b = some o) → IntsAre us ns → R us { s with heap := h', toks := tk }) → wpAny (model X.prog X.w) X.A.in1 (collect (.ref a)) R E s := by
  rcases h with h | h | ⟨kvs, hd, hk⟩
  · obtain ⟨its, r, ⟨o, n, ho, hcl, hdn, hdat⟩, hz⟩ := I.list h
    have hi : IntsAre its ns := intsAre_of r
    exact ⟨by simpa using hz, fun R k => wpAny_collect_seq a (.inl rfl) ho hcl hdat (fun h' kp => k _ h' s.toks kp (by simpa using hi)) (by rw [List.size_toArray, hi.length]; simpa using hz)⟩
  · obtain ⟨its, r, ⟨o, ho, hcl, n, hdat⟩, hz⟩ := I.tuple h
    have hi : IntsAre its ns := intsAre_of r
    exact ⟨by simpa using hz, fun R k => wpAny_collect_seq a (.inr rfl) ho hcl hdat (fun h' kp => k _ h' s.toks kp (by simpa using hi)) (by rw [List.size_toArray, hi.length]; simpa using hz)⟩
  · obtain ⟨z, lo, vs, rel, dd⟩ := dk_rd I.hok hd
    obtain ⟨ep, hat⟩ := dd.dictAt
    have hkeys : vs.map (·.1) = ns.map Sum.inl := rel.keys.symm.trans hk
    have hl : vs.length = ns.length := by
      have := congrArg List.length hkeys
      simpa using this
    have hl2 : kvs.length = ns.length := by
      have := congrArg List.length hk
      simpa using this
    refine ⟨by omega, fun R k => PySem.W.kdu_collect (PySem.W.kdl_dict (knd := mixKind X.prog X.w) (kvs := vs) (ep := ep) lo) hc hat (by omega) fun h' tk acc hk hacc => k _ h' tk hk ?_⟩
    have e1 : acc.toList.length = ns.length := by rw [Array.length_toList, hacc.1, hl]
    refine dict_ints e1 fun j v e => ?_
    obtain ⟨c, x, h1, h2⟩ := hacc.2 j v (by rw [← Array.getElem?_toList]; exact e)
    have e3 : (vs.map (·.1))[j]? = some c := by rw [List.getElem?_map, h1]; rfl
    rw [hkeys, List.getElem?_map] at e3
    cases e4 : ns[j]? with
    | none => rw [e4] at e3; cases e3
    | some n =>
      rw [e4] at e3
      cases e3
      exact ⟨n, rfl, mix_int h2⟩
theorem pe_sortAbs (hc : X.calm = true) (hu : X.A.units + 20 < cLine) (hg : Gl X "sorted") (hm : X.mg "sorted" = none) (hg2 : Gl X "abs") (hm2 : X.mg "abs" = none) (he : PE X e te) (hs : starEach [e] X.env = (false, eval e X.env) :: starEach [] X.env := by rfl)
    (h1 : backTo pos (starEach [e] X.env) = (false, eval e X.env) :: backTo pos (starEach [] X.env) := by rfl) (h2 : (backTo pos (starEach [e] X.env)).any (·.1) = false := by rfl) : PE X (.Call (.Name "sorted" p) [e] [⟨some "key", .Name "abs" p2, kpos⟩] pos) (tSortAbs X.K te) := by
  refine ⟨fun pins s σ H Q I h => ?_⟩
  refine wpAny_Call_Name_kw (ld_blt I hg hm bt_sorted ?_)
  refine PyProof.Rows.callWith_kw (thn ((pa_cons he pa_nil hs).run pos pins s σ H _ I h) fun us s1 ⟨vs, H1, I1, r1, a, ns, ev, hi, q⟩ => ?_) h1 h2 (by rfl) (by rfl)
  subst ev
  show wpAny _ _ (evalAll [(do let v ← eval (.Name "abs" p2) X.env; standAt pos; pure v)]) _ _ s1
  refine wpAny_evalAll_cons (wpAny_bind (ld_blt I1 hg2 hm2 bt_abs (wpAny_bind (wpAny_standAt (wpAny_pure (wpAny_evalAll_nil ?_))))))
  cases r1 with
  | cons ra rb =>
    cases rb
    cases ra
    obtain ⟨hz, coll⟩ := ints_collect I1 (I1.ok.hd hc) hi
    refine sorted_abs (ns := ns) (coll) hz hu fun out c g1 g2 tk2 k1 k2 gp io => ?_
    have J1 : Inv X pins σ H1 { s1 with heap := g1 } := I1.kept (t' := s1.toks) k1
    have hl : ((byAbs ns).map V.int).length ≤ sizeLine := by rw [List.length_map, (byAbs_perm ns).length_eq]; exact hz
    refine ⟨.ref g1.objs.size, upd H1 g1.objs.size (.lst ((byAbs ns).map V.int)), J1.laid (t' := tk2) k2 (Nat.le_refl _) ?_, rfl, q _ (J1.hok.fresh (Nat.le_refl _))⟩
    exact ⟨hl, out, c, vals_ints io, gp⟩
/-- what is sorted by amounts -/
def intsIn (w : W) (G : GH) : Option (List Int) := match w with
  | .tup xs => intsOf xs
  | .kt xs => intsOf xs
  | .fl xs => intsOf xs
  | .ref p => match G p with
    | some (.lst xs) => intsOf xs
    | some (.dK kws) => intsOf (kws.map fun kw => kW kw.1)
    | _ => none
  | .fdK kws => intsOf (kws.map fun kw => kW kw.1)
  | _ => none
def tSortAbsW (Ta : TW) : TW := fun S G R => Ta S G fun w G1 => match intsIn w G1 with
  | some ns => ∀ p, G1 p = none → R (.ref p) (updG G1 p (.lst ((byAbs ns).map W.int)))
  | none => False
theorem keys_ints {kvs : List (Key × V)} {kws : List (Key × W)} {ns : List Int} (e : kvs.map (·.1) = kws.map (·.1)) (h : intsOf (kws.map fun kw => kW kw.1) = some ns) : kvs.map (·.1) = ns.map Sum.inl := by
  rw [e]
  have := ints_of h
  clear e h
  induction kws generalizing ns with
  | nil => cases ns with
    | nil => rfl
    | cons n ns => cases this
  | cons kw kws ih =>
    cases ns with
    | nil => cases this
    | cons n ns =>
      rw [List.map_cons, List.map_cons] at this ⊢
      injection this with e1 e2
      rw [ih e2]
      cases hk : kw.1 with
      | inl i => rw [hk] at e1; cases e1; rfl
      | inr x => rw [hk] at e1; cases e1
theorem ints_at {K : PySem.W.Frag} {H : Hp} {G : GH} {w : W} {v : V} {ns : List Int} (h : intsIn w G = some ns) (rv : RV K H v w) (rh : RH K H G) : ∃ a, v = .ref a ∧ IntsAt K H a ns := by
  unfold intsIn at h
  cases w with
  | tup xs =>
    cases rv with
    | tup q rs =>
      have e := ints_of h; subst e
      rw [rs.ints] at q
      exact ⟨_, rfl, .inr (.inl (SqT.of q))⟩
  | kt xs =>
    cases rv with
    | kt q rs =>
      have e := ints_of h; subst e
      rw [rs.ints] at q
      exact ⟨_, rfl, .inr (.inl q.seq)⟩
  | fl xs =>
    cases rv with
    | fl q rs =>
      have e := ints_of h; subst e
      rw [rs.ints] at q
      exact ⟨_, rfl, .inl q.seq⟩
  | ref p =>
    cases rv
    dsimp only at h
    split at h
    · rename_i xs eg
      obtain ⟨vs, hv, rs⟩ := rh _ _ eg
      have e := ints_of h; subst e
      rw [rs.ints] at hv
      exact ⟨_, rfl, .inl (SqL.of hv)⟩
    · rename_i kws eg
      obtain ⟨kvs, hv, rr⟩ := rh _ _ eg
      exact ⟨_, rfl, .inr (.inr ⟨kvs, .inl hv, keys_ints (RKV.keys rr) h⟩)⟩
    · cases h
  | fdK kws =>
    cases rv with
    | @fdK a ob kvs _ h1 e r => exact ⟨a, rfl, .inr (.inr ⟨kvs, .inr ⟨ob, h1⟩, keys_ints e h⟩)⟩
  | _ => cases h
theorem we_sortAbs (hc : X.calm = true) (hu : X.A.units + 20 < cLine) (hg : Gl X "sorted") (hm : X.mg "sorted" = none) (hg2 : Gl X "abs") (hm2 : X.mg "abs" = none) (he : WE X Z e Ta) (hs : starEach [e] X.env = (false, eval e X.env) :: starEach [] X.env := by rfl)
    (h1 : backTo pos (starEach [e] X.env) = (false, eval e X.env) :: backTo pos (starEach [] X.env) := by rfl) (h2 : (backTo pos (starEach [e] X.env)).any (·.1) = false := by rfl) : WE X Z (.Call (.Name "sorted" p) [e] [⟨some "key", .Name "abs" p2, kpos⟩] pos) (tSortAbsW Ta) := (pe_sortAbs hc hu hg hm hg2 hm2 he hs h1 h2).weak fun σ H Q h => by
  obtain ⟨S, G, R, sr, t, k⟩ := h
  refine Lf.go sr t fun w G1 v H1 t1 f1 r1 h1 => ?_
  split at t1
  · rename_i ns en
    obtain ⟨a, rfl, hi⟩ := ints_at en r1 h1
    exact ⟨a, ns, rfl, hi, fun p hp => k _ _ _ _ (t1 p (h1.free hp)) (f1.trans (.newG hp)) (.ref _) (h1.newG hp ⟨_, upd_same, RVs.of_ints _⟩)⟩
  · exact t1.elim
end
end WL
set_option Elab.async false
set_option linter.all false
set_option maxRecDepth 100000
set_option maxHeartbeats 4000000
/-! WL, part p: {k: v for ..} with keys ints and texts. -/
namespace WL
open PySem PySem.Spec PyProof.Rows L2

def compD (Gd : GH → Prop) (g : TGW) (tt : TWT) (tk tv : TW) (S0 : WSt) (R : List (Key × W) → GH → Prop) : List W → GH → List (Key × W) → Prop
  | [], G, acc => Gd G ∧ R acc G
  | x :: xs, G, acc => Gd G ∧ g x S0 G fun S2 G2 => tt S2 G2 fun b G3 => if b = true then tk S2 G3 fun k G4 => tv S2 G4 fun v G5 => ∃ c, k.key? = some c ∧ acc.length < sizeLine ∧ compD Gd g tt tk tv S0 R xs G5 (putW acc c v) else compD Gd g tt tk tv S0 R xs G3 acc
def tDictC (ti : TIW) (g : TGW) (tt : TWT) (tk tv : TW) (vs : List Nat) : TW := fun S G R => ti S G fun items Gd G1 => compD Gd g tt tk tv (wipeW S vs) (fun acc G2 => ∀ D, G2 D = none → R (.ref D) (updG G2 D (.dK acc))) items G1 []
section
variable {X : Cx} {Z : GH × Hp} {pos : Pos}
theorem lfDictC {K : PySem.W.Frag} {ti : TIW} {gh : TG} {g : TGW} {tt : TWT} {tk tv : TW} {vs : List Nat} (gok : GOk K Z gh g vs) (σ : L2.St) (H : Hp) (Q : VK) (h : Lf K Z (tDictC ti g tt tk tv vs) σ H Q) : tDc (LfI K Z ti) gh (LfT K Z tt) (Lf K Z tk) (Lf K Z tv) vs σ H Q := by
  obtain ⟨S, G, R, sr, t, k⟩ := h
  refine ⟨S, G, _, sr, t, fun items Gd G1 J H1 t1 f1 h1 wi D hD => ?_⟩
  have hz : ∀ o, Z.2 D = some o → Z.1 D ≠ none := fun o e g => by
    have := ((sr.next f1 h1).tk D o e g).1
    rw [hD] at this; cases this
  have hz2 : ∀ o, H D = some o → G D ≠ none := fun o e g => by
    have := (f1 D o e g).1
    rw [hD] at this; cases this
  have gD : G1 D = none := h1.free hD
  refine ⟨fun i m H' => m = items.length - i ∧ i ≤ items.length ∧ ∃ G' acc kvs, H' D = some (.dK kvs) ∧ RKV K H' kvs acc ∧ G' D = none ∧ SR K Z (L2.wipe σ vs) H' (wipeW S vs) G' ∧ FR G1 H1 G' H' ∧ compD Gd g tt tk tv (wipeW S vs) (fun acc G2 => ∀ D, G2 D = none → R (.ref D) (updG G2 D (.dK acc))) (items.drop i) G' acc,
    ⟨items.length, by simp, Nat.zero_le _, G1, [], [], upd_same, .nil, gD, ((sr.next f1 h1).next (.new hD) (h1.new hD)).wipe vs, .new hD, t1⟩, ?_⟩
  rintro i m H2 ⟨rfl, hi, G2, acc, kvs, hd, rs, g2, sr2, f2, t2⟩
  by_cases hlt : i < items.length
  · rw [List.drop_eq_getElem_cons hlt] at t2
    obtain ⟨gd, t2⟩ := t2
    refine .inr ⟨wi.go i G2 H2 f2 sr2.rh gd hlt, fun H' => ∃ G' acc kvs, H' D = some (.dK kvs) ∧ RKV K H' kvs acc ∧ G' D = none ∧ SR K Z (L2.wipe σ vs) H' (wipeW S vs) G' ∧ FR G1 H1 G' H' ∧ compD Gd g tt tk tv (wipeW S vs) (fun acc G2 => ∀ D, G2 D = none → R (.ref D) (updG G2 D (.dK acc))) (items.drop (i + 1)) G' acc, ?_, fun x H3 y => ?_⟩
    · rintro H' ⟨G', acc', kvs', q⟩
      exact ⟨items.length - (i + 1), by omega, rfl, hlt, G', acc', kvs', q⟩
    · obtain ⟨f3, r3, h3⟩ := wi.yld i G2 H2 x H3 items[i] f2 sr2.rh gd (by simp [hlt]) y
      have sr3 := sr2.next f3 h3
      have kp := fun Q' => gok.keeps x (L2.wipe σ vs) H3 Q'
      simp only [wipe_wipe vs fun _ h => h] at kp
      refine kp _ (gok.lift _ _ _ _ (LfG.go r3 sr3 t2 fun S4 G4 σ4 H4 t4 sr4 f4 => ?_))
      refine LfT.go sr4 t4 fun b G5 H5 t5 f5 h5 => ?_
      have f25 : FR G2 H2 G5 H5 := f3.trans (f4.trans f5)
      have d5 := f25 D _ hd g2
      cases b with
      | false => exact iteF ⟨G5, acc, kvs, d5.1, RKV.mono f25 sr2.rh rs, d5.2, sr2.next f25 h5, f2.trans f25, t5⟩
      | true =>
        refine iteT (Lf.go (sr4.next f5 h5) t5 fun w6 G6 v6 H6 t6 f6 r6 h6 => ?_)
        refine Lf.go ((sr4.next f5 h5).next f6 h6) t6 fun w7 G7 v7 H7 t7 f7 r7 h7 => ?_
        have f27 := (f25.trans f6).trans f7
        have d7 := f27 D _ hd g2
        obtain ⟨c, hk, room, t7⟩ := t7
        have ev : v6 = kV c := key_val r6 hk
        refine ⟨kvs, c, ev, d7.1, by rw [RKV.length rs]; exact room, G7, putW acc c w7, putK kvs c v7, upd_same, ?_, d7.2, (sr2.next f27 h7).poke d7.1 trivial d7.2 hz, (f2.trans f27).poke (fun o e => by rw [hD] at e; cases e), t7⟩
        exact RKV.put (RKV.poke d7.1 trivial (RKV.mono f27 sr2.rh rs)) (RV.poke d7.1 trivial r7)
  · have e : i = items.length := by omega
    subst e
    rw [List.drop_length] at t2
    refine .inl ⟨wi.stop G2 H2 f2 sr2.rh t2.1, k _ _ _ _ (t2.2 D g2) (fun a o e g => ?_) (.ref D) (fun a o e => ?_)⟩
    · have ne : a ≠ D := fun z => by subst z; exact hz2 o e g
      obtain ⟨q1, q2⟩ := (f1.trans f2) a o e g
      exact ⟨q1, by rw [updG_ne ne]; exact q2⟩
    · by_cases z : a = D
      · subst z; rw [updG_same] at e; cases e; exact ⟨kvs, hd, rs⟩
      · rw [updG_ne z] at e; exact sr2.rh a o e
theorem we_dictC {kx vx tg iter : Expr} {ifs : List Expr} {scope : Scope} {own : List (Str × Nat)} {ti : TIW} {gh : TG} {g : TGW} {tt : TWT} {tk tv : TW} (hc : X.calm = true) (hN : X.N.Nodup) (hi : WI X Z tg iter ti) (ok : BlkOk X.N X.env.scope scope own) (gok : GOk X.K Z gh g (own.map (·.2)))
    (hg : ∀ (s : Shared) (H : Hp) (C : Addr) (cl : List (Str × Addr)) (fp : List Addr), PG (X.blk s H scope (compEnvC scope cl C X.env) fp) tg gh) (ht : ∀ (s : Shared) (H : Hp) (C : Addr) (cl : List (Str × Addr)) (fp : List Addr), PTsW (X.blk s H scope (compEnvC scope cl C X.env) fp) Z ifs tt)
    (hk : ∀ (s : Shared) (H : Hp) (C : Addr) (cl : List (Str × Addr)) (fp : List Addr), WE (X.blk s H scope (compEnvC scope cl C X.env) fp) Z kx tk) (he : ∀ (s : Shared) (H : Hp) (C : Addr) (cl : List (Str × Addr)) (fp : List Addr), WE (X.blk s H scope (compEnvC scope cl C X.env) fp) Z vx tv)
    (hs : ∀ x, foldedSetIterable iter X.env x = pure x := by intro _; rfl) : WE X Z (.DictComp kx vx [⟨tg, iter, ifs, 0⟩] scope pos) (tDictC ti g tt tk tv (own.map (·.2))) :=
  (pe_dc (tt := LfT X.K Z tt) (tk := Lf X.K Z tk) (tv := Lf X.K Z tv) hc hN hi ok hg ht hk he hs).weak (lfDictC gok)
end
end WL
set_option Elab.async false
set_option linter.all false
set_option maxRecDepth 100000
set_option maxHeartbeats 4000000
/-! WL, part q: zip, enumerate. -/
namespace WL
open PySem PySem.Spec PyProof.Rows L2

def zipP (xs ys : List W) : List W := (xs.zip ys).map fun p => .tup [p.1, p.2]
theorem zipP_len (xs ys : List W) : (zipP xs ys).length = min xs.length ys.length := by unfold zipP; simp
theorem zipP_get {xs ys : List W} {i : Nat} {w : W} (h : (zipP xs ys)[i]? = some w) : ∃ a b, xs[i]? = some a ∧ ys[i]? = some b ∧ w = .tup [a, b] := by
  unfold zipP at h
  rw [List.getElem?_map] at h
  cases e : (xs.zip ys)[i]? with
  | none => rw [e] at h; cases h
  | some p =>
    rw [e] at h; cases h
    have := List.getElem?_zip_eq_some.mp e
    exact ⟨p.1, p.2, this.1, this.2, rfl⟩
theorem wit_zipL {K : PySem.W.Frag} {G1 : GH} {H1 : Hp} {a b : Addr} {xs ys : List W} {Gd : GH → Prop} (h : ∀ G H, FR G1 H1 G H → RH K H G → Gd G → ∃ vs us, SqL K H a vs ∧ SqL K H b us ∧ RVs K H vs xs ∧ RVs K H us ys) : WIt K G1 H1 (Itz K a b) (zipP xs ys) Gd where
  go := fun i G H f rh g hi => by
    obtain ⟨vs, us, h1, h2, r1, r2⟩ := h G H f rh g
    rw [zipP_len] at hi
    obtain ⟨v, hv, _⟩ := r1.get (i := i) (w := xs[i]'(by omega)) (by simp)
    obtain ⟨u, hu, _⟩ := r2.get (i := i) (w := ys[i]'(by omega)) (by simp)
    exact ⟨vs, us, v, u, h1, h2, hv, hu⟩
  yld := fun i G H x H' w f rh g hw y => by
    obtain ⟨vs, us, h1, h2, r1, r2⟩ := h G H f rh g
    obtain ⟨T, x1, x2, rfl, nT, rfl, f1, f2⟩ := y
    obtain ⟨p, q, hp, hq, rfl⟩ := zipP_get hw
    obtain ⟨v, hv, rv⟩ := r1.get hp
    obtain ⟨u, hu, ru⟩ := r2.get hq
    have e1 := f1 vs h1
    have e2 := f2 us h2
    rw [hv] at e1; cases e1
    rw [hu] at e2; cases e2
    exact ⟨.new nT, .tup upd_same (.cons (rv.mono (.new nT) rh) (.cons (ru.mono (.new nT) rh) .nil)), rh.new nT⟩
  stop := fun G H f rh g => by
    obtain ⟨vs, us, h1, h2, r1, r2⟩ := h G H f rh g
    refine ⟨vs, us, h1, h2, ?_⟩
    rw [zipP_len, r1.length, r2.length]
    omega
theorem wit_zipT {K : PySem.W.Frag} {G1 : GH} {H1 : Hp} {a b : Addr} {xs ys : List W} {Gd : GH → Prop} (h : ∀ G H, FR G1 H1 G H → RH K H G → Gd G → ∃ vs us, SqT K H a vs ∧ SqT K H b us ∧ RVs K H vs xs ∧ RVs K H us ys) : WIt K G1 H1 (RZ.ItzT K a b) (zipP xs ys) Gd where
  go := fun i G H f rh g hi => by
    obtain ⟨vs, us, h1, h2, r1, r2⟩ := h G H f rh g
    rw [zipP_len] at hi
    obtain ⟨v, hv, _⟩ := r1.get (i := i) (w := xs[i]'(by omega)) (by simp)
    obtain ⟨u, hu, _⟩ := r2.get (i := i) (w := ys[i]'(by omega)) (by simp)
    exact ⟨vs, us, v, u, h1, h2, hv, hu⟩
  yld := fun i G H x H' w f rh g hw y => by
    obtain ⟨vs, us, h1, h2, r1, r2⟩ := h G H f rh g
    obtain ⟨T, x1, x2, rfl, nT, rfl, f1, f2⟩ := y
    obtain ⟨p, q, hp, hq, rfl⟩ := zipP_get hw
    obtain ⟨v, hv, rv⟩ := r1.get hp
    obtain ⟨u, hu, ru⟩ := r2.get hq
    have e1 := f1 vs h1
    have e2 := f2 us h2
    rw [hv] at e1; cases e1
    rw [hu] at e2; cases e2
    exact ⟨.new nT, .tup upd_same (.cons (rv.mono (.new nT) rh) (.cons (ru.mono (.new nT) rh) .nil)), rh.new nT⟩
  stop := fun G H f rh g => by
    obtain ⟨vs, us, h1, h2, r1, r2⟩ := h G H f rh g
    refine ⟨vs, us, h1, h2, ?_⟩
    rw [zipP_len, r1.length, r2.length]
    omega
/-- a list's items, and what keeps them -/
def lstOf (w : W) (G : GH) : Option (List W × (GH → Prop)) := match w with
  | .fl xs => some (xs, tru1)
  | .ref p => match G p with
    | some (.lst xs) => some (xs, fun G => G p = some (.lst xs))
    | _ => none
  | _ => none
theorem lst_of {K : PySem.W.Frag} {H1 : Hp} {G1 : GH} {w : W} {v : V} {xs : List W} {Gd : GH → Prop} (h : lstOf w G1 = some (xs, Gd)) (rv : RV K H1 v w) (rh : RH K H1 G1) : ∃ a vs, v = .ref a ∧ SqL K H1 a vs ∧ ∀ G H, FR G1 H1 G H → RH K H G → Gd G → ∃ vs, SqL K H a vs ∧ RVs K H vs xs := by
  unfold lstOf at h
  cases w with
  | fl ys =>
    cases h
    cases rv with
    | fl q rs => exact ⟨_, _, rfl, q.seq, fun G H f r _ => ⟨_, (f.frz rh q).seq, rs.mono f rh⟩⟩
  | ref p =>
    cases rv
    dsimp only at h
    split at h
    · rename_i ys eg
      cases h
      obtain ⟨vs, hv, rs⟩ := rh _ _ eg
      exact ⟨_, vs, rfl, SqL.of hv, fun G H f r g => by
        obtain ⟨us, hu, ru⟩ := r _ _ g
        exact ⟨us, SqL.of hu, ru⟩⟩
    · cases h
  | _ => cases h
theorem RV.tup_of {K : PySem.W.Frag} {H : Hp} {G : GH} {v : V} {w : W} {xs : List W} (r : RV K H v w) (rh : RH K H G) (e : w.tup? = some xs) : ∃ a vs, v = .ref a ∧ SqT K H a vs ∧ ∀ G' H', FR G H G' H' → ∃ vs, SqT K H' a vs ∧ RVs K H' vs xs := by
  cases w with
  | tup ys =>
    cases e
    cases r with
    | tup q rs => exact ⟨_, _, rfl, SqT.of q, fun G' H' f => ⟨_, SqT.of (f.tup rh q), rs.mono f rh⟩⟩
  | kt ys =>
    cases e
    cases r with
    | kt q rs => exact ⟨_, _, rfl, q.seq, fun G' H' f => ⟨_, q.seq, rs.mono f rh⟩⟩
  | _ => cases e
def tIZip (Tr : TWA) : TIW := fun S G R => Tr S G fun ws G1 => match ws with
  | [w1, w2] => match lstOf w1 G1, lstOf w2 G1 with
    | some (xs, g1), some (ys, g2) => R (zipP xs ys) (fun G => g1 G ∧ g2 G) G1
    | _, _ => match w1.tup?, w2.tup? with
      | some xs, some ys => R (zipP xs ys) tru1 G1
      | _, _ => False
  | _ => False
section
variable {X : Cx} {Z : GH × Hp} {e e2 : Expr} {Tr : TWA} {p pos tpos : Pos} {elts : List Expr} {kk : Nat}
theorem wi_zip (hg : Gl X "zip") (hm : X.mg "zip" = none) (ha : WA X Z [e, e2] Tr) (hs : starEach [e, e2] X.env = (false, eval e X.env) :: starEach [e2] X.env := by rfl) (hpl : (backTo pos (starEach [e2] X.env)).any (·.1) = false := by rfl) :
    WI X Z (.Tuple elts kk tpos) (.Call (.Name "zip" p) [e, e2] [] pos) (tIZip Tr) := (RZ.pi_zipA hg hm ha hs hpl).weak fun σ H R h => by
  obtain ⟨S, G, R', sr, t, k⟩ := h
  refine LfA.go sr t fun ws G1 vs H1 t1 f1 rs h1 => ?_
  match ws, t1, rs with
  | [w1, w2], t1, rs =>
    obtain ⟨v, u, rfl, rv, ru⟩ := rs.two
    dsimp only at t1
    split at t1
    · rename_i xs g1 ys g2 e1 e2
      obtain ⟨a, vs, rfl, qa, ka⟩ := lst_of e1 rv h1
      obtain ⟨b, us, rfl, qb, kb⟩ := lst_of e2 ru h1
      exact ⟨a, b, vs, us, rfl, .inl ⟨qa, qb, k _ _ G1 _ H1 t1 f1 h1 (wit_zipL fun G H f rh g => by
        obtain ⟨vs, q1, r1⟩ := ka G H f rh g.1
        obtain ⟨us, q2, r2⟩ := kb G H f rh g.2
        exact ⟨vs, us, q1, q2, r1, r2⟩)⟩⟩
    · split at t1
      · rename_i xs ys e1 e2
        obtain ⟨a, vs, rfl, qa, ka⟩ := RV.tup_of rv h1 e1
        obtain ⟨b, us, rfl, qb, kb⟩ := RV.tup_of ru h1 e2
        exact ⟨a, b, vs, us, rfl, .inr ⟨qa, qb, k _ _ G1 _ H1 t1 f1 h1 (wit_zipT fun G H f rh g => by
          obtain ⟨vs, q1, r1⟩ := ka G H f
          obtain ⟨us, q2, r2⟩ := kb G H f
          exact ⟨vs, us, q1, q2, r1, r2⟩)⟩⟩
      · exact t1.elim
end
end WL
set_option Elab.async false
set_option linter.all false
set_option maxRecDepth 100000
set_option maxHeartbeats 4000000
/-! WL, part r: enumerate from a count, of lists and tuples. -/
namespace WL
open PySem PySem.Spec PyProof.Rows L2

def SqB (b : Bool) (K : PySem.W.Frag) (H : Hp) (a : Addr) (xs : List V) : Prop := match b with
  | true => SqT K H a xs
  | false => SqL K H a xs
def IterB (b : Bool) (h : Heap) (it a : Addr) (i : Nat) : Prop := match b with
  | true => h.IsTupleIter it a i
  | false => h.IsListIter it a i
def ItB (b : Bool) (h : Heap) (a : Addr) (its : Array Value) : Prop := match b with
  | true => h.IsTuple a its
  | false => h.IsList a its
def IteK (b : Bool) (k : Int) (K : PySem.W.Frag) (a : Addr) : It :=
  ⟨fun i H => ∃ (xs : List V) (x : V), SqB b K H a xs ∧ xs[i]? = some x, fun i H v H' => ∃ T x, v = .ref T ∧ H T = none ∧ H' = upd H T (.tup [.int (k + (i : Nat)), x]) ∧ ∀ xs, SqB b K H a xs → xs[i]? = some x, fun i H => ∃ xs : List V, SqB b K H a xs ∧ i = xs.length⟩
section
variable {X : Cx} {pins : List (Addr × Obj)} {σ : L2.St} {H : Hp} {s : Shared}
theorem sqb_get {b : Bool} {a : Addr} {xs : List V} (I : Inv X pins σ H s) (h : SqB b X.K H a xs) : ∃ its : List Value, Vals xs its ∧ ItB b s.heap a its.toArray ∧ xs.length ≤ sizeLine := by
  cases b with
  | true => obtain ⟨its, r, p, z⟩ := I.tuple h; exact ⟨its, r, p, z⟩
  | false => obtain ⟨its, r, p, z⟩ := I.list h; exact ⟨its, r, p.isList, z⟩
theorem sqb_inj {b : Bool} {a : Addr} {xs ys : List V} (I : Inv X pins σ H s) (h1 : SqB b X.K H a xs) (h2 : SqB b X.K H a ys) : xs = ys := by
  cases b with
  | true => exact I.tuple_inj h1 h2
  | false => exact I.list_inj h1 h2
theorem drawsB {b : Bool} {A : Around} (hh : A.handled = none) (it a : Addr) (hne : a ≠ it) (items : Array Value) : Draws X.prog X.w A it [it, a] items.size (fun i v => items[i]? = some v) (fun i h => IterB b h it a i ∧ ItB b h a items) := by
  cases b with
  | true => exact Draws.tuple hh it a hne items
  | false => exact Draws.list hh it a hne items
theorem iterB_obj {b : Bool} {h : Heap} {it a : Addr} {i : Nat} (q : IterB b h it a i) : ∃ o, h.get? it = some o ∧ ∀ v, o.data ≠ .cell v := by
  cases b with
  | true => obtain ⟨o, ho, hc, hd⟩ := q; exact ⟨o, ho, fun v z => by rw [hd] at z; cases z⟩
  | false => obtain ⟨o, ho, hc, hd⟩ := q; exact ⟨o, ho, fun v z => by rw [hd] at z; cases z⟩
theorem iterB_at {b : Bool} {h h' : Heap} {it a : Addr} {i : Nat} (q : IterB b h it a i) (k : ∀ o, h.get? it = some o → h'.get? it = some o) : IterB b h' it a i := by
  cases b with
  | true => obtain ⟨o, ho, hc, hd⟩ := q; exact ⟨o, k _ ho, hc, hd⟩
  | false => obtain ⟨o, ho, hc, hd⟩ := q; exact ⟨o, k _ ho, hc, hd⟩
end
theorem turn_enumB {P : Program} {w : World} {K : PySem.W.Frag} {elts : List Expr} {kk : Nat} {tpos : Pos} (b : Bool) (k : Int) (a e it : Addr) (n1 : e ≠ it) (n2 : a ≠ it) (n3 : e ≠ a) :
    Turn P w K (.Tuple elts kk tpos) (IteK b k K a) [e, it] e (fun i h => (∃ old, IsEnum h e it (k + (i : Nat)) old) ∧ IterB b h it a i) where
  mem := by simp
  obj := fun i h st c hc => by
    obtain ⟨⟨old, he⟩, hi⟩ := st
    have e' : c = e ∨ c = it := by simpa using hc
    rcases e' with z | z
    · rw [z]; exact ⟨_, he, fun v q => nomatch q⟩
    · rw [z]; exact iterB_obj hi
  keep := fun i h h' ⟨⟨old, he⟩, hi⟩ q => ⟨⟨old, q e (by simp) _ he⟩, iterB_at hi fun o z => q it (by simp) o z⟩
  item := by
    intro X hP hw hK hc i pins s σ H E I hf st hg
    subst hP hw hK
    obtain ⟨⟨old, he⟩, hit⟩ := st
    obtain ⟨xs, x, hq, hx⟩ := hg
    obtain ⟨its, rv, p, hz⟩ := sqb_get I hq
    have hlt : i < its.toArray.size := by
      rw [List.size_toArray, ← rv.length]
      exact (List.getElem?_eq_some_iff.mp hx).1
    have hel : e < s.heap.objs.size := Heap.lt_size he
    have hil : it < s.heap.objs.size := by obtain ⟨_, q, _⟩ := iterB_obj hit; exact Heap.lt_size q
    refine wpAny_pyNext_enum_itemC (drawsB (A := X.A.in1) (I.ok.hd hc) it a n2 its.toArray) he ⟨hit, p⟩ hlt n1 (by simp [n1, n3]) fun u h' tk hu ho hst hT hsz hk => ?_
    have hu' : its[i]? = some u := by simpa using hu
    obtain ⟨u2, hu2, ru⟩ := rv.get hx
    rw [hu'] at hu2; cases hu2
    refine ⟨_, rfl, wpAny_letOwnedTupleGo_enum (s := { s with heap := h', toks := tk + 1 }) ho fun h'' he' sb => ?_⟩
    have hT2 : h''.get? s.heap.objs.size = some { cls := .type "tuple", data := .seq #[.int (k + (i : Nat)) tk, u] } := (sb.2 _ (Nat.ne_of_gt hel)).trans hT
    have new : ObjOk X.prog X.w (upd H s.heap.objs.size (.tup [.int (k + (i : Nat)), x])) h'' s.heap.objs.size (.tup [.int (k + (i : Nat)), x]) := ⟨by show 2 ≤ sizeLine; decide, [.int (k + (i : Nat)) tk, u], .cons ⟨_, rfl⟩ (.cons ru .nil), ⟨_, hT2, rfl, _, rfl⟩⟩
    have I1 : Inv X pins σ (upd H s.heap.objs.size (.tup [.int (k + (i : Nat)), x])) { s with heap := h'', toks := tk + 1 } :=
      I.turnedNew (ch := [e, it]) (fun c ob hb q => (sb.2 c (fun z => hb (by simp [z]))).trans (hk c ob (fun z => hb (by simp [z])) (fun z => hb (by simp [z])) q)) hf (Nat.le_refl _) new
    refine ⟨.ref s.heap.objs.size, _, I1, rfl, ⟨_, x, rfl, I.hok.fresh (Nat.le_refl _), rfl, fun ys hy => by rw [sqb_inj I hy hq]; exact hx⟩, ⟨⟨u, ?_⟩, iterB_at hst.1 fun o q => (sb.2 it n1.symm).trans q⟩, fun c hb => ?_⟩
    · rw [show k + ((i + 1 : Nat) : Int) = k + (i : Int) + 1 by omega]; exact he'
    · have hb' : c < s.heap.objs.size := by
        have e' : c = e ∨ c = it := by simpa using hb
        rcases e' with z | z
        · rw [z]; exact hel
        · rw [z]; exact hil
      rw [upd_ne (Nat.ne_of_lt hb')]
      exact (hf c hb).1
  done := by
    intro X hP hw hK hc i pins s σ H E I hf st hg
    subst hP hw hK
    obtain ⟨⟨old, he⟩, hit⟩ := st
    obtain ⟨xs, hq, hx⟩ := hg
    obtain ⟨its, rv, p, hz⟩ := sqb_get I hq
    obtain ⟨f0, f1, f2, f3, f4, f5⟩ := hf it (by simp)
    have hl : i = its.toArray.size := by rw [List.size_toArray, ← rv.length]; exact hx
    exact wpAny_pyNext_enum_endD (drawsB (A := X.A.in1) (I.ok.hd hc) it a n2 its.toArray) he ⟨hl ▸ hit, p⟩ fun h' eb => ⟨rfl, I.turned (t' := s.toks) (fun c o hb q => eb c o hb q) f0 f1 f3 f4 f5⟩
  self := fun A i s Q E st h => let ⟨⟨_, he⟩, _⟩ := st; wpAny_pyIter_enum he h
theorem beginsB (b : Bool) (a : Addr) (its : Array Value) : ∃ o : Obj, Begins (.ref a) o (fun h => ItB b h a its) ∧ ∀ (h : Heap) (it : Addr), h.get? it = some o → IterB b h it a 0 := by
  cases b with
  | true => exact ⟨_, begins_tuple a its, fun h it e => ⟨_, e, rfl, rfl⟩⟩
  | false => exact ⟨_, begins_list a its, fun h it e => ⟨_, e, rfl, rfl⟩⟩
theorem itB_lt {b : Bool} {h : Heap} {a : Addr} {its : Array Value} (q : ItB b h a its) : a < h.objs.size := by
  cases b with
  | true => obtain ⟨o, ho, _⟩ := q; exact Heap.lt_size ho
  | false => obtain ⟨o, ho, _⟩ := q; exact Heap.lt_size ho
def iEnumB (K : PySem.W.Frag) (ta : TA) : TI := fun σ H R => ta σ H fun vs H1 => ∃ b a xs k, vs = [.ref a, .int k] ∧ SqB b K H1 a xs ∧ -(2 ^ 62) ≤ k ∧ k < 2 ^ 62 ∧ R (IteK b k K a) H1
section
variable {X : Cx} {Z : GH × Hp} {e c : Expr} {ta : TA} {Tr : TWA} {p pos tpos kpos : Pos} {elts : List Expr} {kk : Nat}
theorem enum_came {pins : List (Addr × Obj)} {σ : L2.St} {H : Hp} {s : Shared} {R : It → Hp → Prop} {b : Bool} {a : Addr} {xs : List V} {k : Int} {u : Value} {E : Value → Shared → Prop} (I : Inv X pins σ H s) (hq : SqB b X.K H a xs) (h0 : -(2 ^ 62) ≤ k) (h1 : k < 2 ^ 62)
    (call2 : ∀ (o : Obj) (HH : Heap → Prop) (Q : Value → Shared → Prop), Begins (.ref a) o HH → HH s.heap → (∀ h', IsEnum h' (s.heap.objs.size + 1) s.heap.objs.size k .none → h'.get? s.heap.objs.size = some o → h'.objs.size = s.heap.objs.size + 2 → (∀ b o, s.heap.get? b = some o → h'.get? b = some o) → Q (.ref (s.heap.objs.size + 1)) { s with heap := h' }) → wpAny (model X.prog X.w) X.A (call (.type "enumerate") [.ref a, u]) Q E s) (q : R (IteK b k X.K a) H) :
    wpAny (model X.prog X.w) X.A (call (.type "enumerate") [.ref a, u]) (fun v s1 => wpAny (model X.prog X.w) X.A (pyIter v) (PIE X pins σ (.Tuple elts kk tpos) R) E s1) E s := by
  obtain ⟨its, rv, pp, hz⟩ := sqb_get I hq
  obtain ⟨o, B, hit⟩ := beginsB b a its.toArray
  refine call2 o _ _ B pp fun h' he ho hsz hk => wpAny_pyIter_enum he ?_
  have lta := itB_lt pp
  have I2 : Inv X pins σ H { s with heap := h' } := I.kept (t' := s.toks) hk
  have en : IsEnum h' (s.heap.objs.size + 1) s.heap.objs.size (k + ((0 : Nat) : Int)) .none := by rw [show k + ((0 : Nat) : Int) = k by omega]; exact he
  refine ⟨s.heap.objs.size + 1, [s.heap.objs.size + 1, s.heap.objs.size], _, _, H, rfl, I2, turn_enumB b k a (s.heap.objs.size + 1) s.heap.objs.size (Nat.succ_ne_self _) (Nat.ne_of_lt lta) (Nat.ne_of_gt (Nat.lt_succ_of_lt lta)), ⟨⟨.none, en⟩, hit _ _ ho⟩, fun d hd => ?_, q⟩
  have e' : d = s.heap.objs.size + 1 ∨ d = s.heap.objs.size := by simpa using hd
  have hle : s.heap.objs.size ≤ d := by
    rcases e' with z | z
    · rw [z]; exact Nat.le_add_right _ _
    · rw [z]; exact Nat.le_refl _
  exact I.fpOk hle (I.hok.fresh hle)
theorem pi_enum2 (hg : Gl X "enumerate") (hm : X.mg "enumerate" = none) (ha : PA X [e, c] ta) (hs : starEach [e, c] X.env = (false, eval e X.env) :: starEach [c] X.env := by rfl) (hpl : (backTo pos (starEach [c] X.env)).any (·.1) = false := by rfl) :
    PI X (.Tuple elts kk tpos) (.Call (.Name "enumerate" p) [e, c] [] pos) (iEnumB X.K ta) := by
  refine ⟨fun pins s σ H R I h => ?_⟩
  refine Call_ (ld_blt I hg hm boot_enumerate (PyProof.Rows.callWith_type1 (thn (ha.run pos pins s σ H _ I h) fun us s1 ⟨vs, H1, I1, r1, b, a, xs, k, ev, hq, h0, h1, q⟩ => ?_) hs hpl))
  subst ev
  cases r1 with
  | cons ra rr =>
    cases rr with
    | cons rk rr =>
      cases rr
      cases ra
      obtain ⟨t, rfl⟩ := rk
      exact enum_came I1 hq h0 h1 (fun o HH Q B hh kk => enum_begins B hh (by omega) (by omega) kk) q
end
/-! ### over values -/
def enumP : Int → List W → List W
  | _, [] => []
  | k, x :: xs => .tup [.int k, x] :: enumP (k + 1) xs
theorem enumP_len : ∀ (k : Int) (xs : List W), (enumP k xs).length = xs.length
  | _, [] => rfl
  | k, x :: xs => by rw [enumP, List.length_cons, List.length_cons, enumP_len]
theorem enumP_get : ∀ {k : Int} {xs : List W} {i : Nat} {w : W}, (enumP k xs)[i]? = some w → ∃ x, xs[i]? = some x ∧ w = .tup [.int (k + (i : Nat)), x]
  | k, [], i, w, h => by simp [enumP] at h
  | k, x :: xs, 0, w, h => by
    simp [enumP] at h
    exact ⟨x, rfl, by rw [← h]; simp⟩
  | k, x :: xs, i + 1, w, h => by
    obtain ⟨y, h1, h2⟩ := enumP_get (k := k + 1) (xs := xs) (i := i) (w := w) (by simpa [enumP] using h)
    exact ⟨y, by simpa using h1, by rw [h2]; congr 3; omega⟩
theorem wit_enum {K : PySem.W.Frag} {G1 : GH} {H1 : Hp} {b : Bool} {k : Int} {a : Addr} {xs : List W} {Gd : GH → Prop} (h : ∀ G H, FR G1 H1 G H → RH K H G → Gd G → ∃ vs, SqB b K H a vs ∧ RVs K H vs xs) : WIt K G1 H1 (IteK b k K a) (enumP k xs) Gd where
  go := fun i G H f rh g hi => by
    obtain ⟨vs, h1, r1⟩ := h G H f rh g
    rw [enumP_len] at hi
    obtain ⟨v, hv, _⟩ := r1.get (i := i) (w := xs[i]) (by simp [hi])
    exact ⟨vs, v, h1, hv⟩
  yld := fun i G H x H' w f rh g hw y => by
    obtain ⟨vs, h1, r1⟩ := h G H f rh g
    obtain ⟨T, x1, rfl, nT, rfl, f1⟩ := y
    obtain ⟨p, hp, rfl⟩ := enumP_get hw
    obtain ⟨v, hv, rv⟩ := r1.get hp
    have e1 := f1 vs h1
    rw [hv] at e1; cases e1
    exact ⟨.new nT, .tup upd_same (.cons (.int _) (.cons (rv.mono (.new nT) rh) .nil)), rh.new nT⟩
  stop := fun G H f rh g => by
    obtain ⟨vs, h1, r1⟩ := h G H f rh g
    exact ⟨vs, h1, by rw [enumP_len, r1.length]⟩
def enumW (w : W) (k : Int) (G : GH) (R : List W → (GH → Prop) → GH → Prop) : Prop := match lstOf w G with
  | some (xs, g) => R (enumP k xs) g G
  | none => match w.tup? with
    | some xs => R (enumP k xs) tru1 G
    | none => False
def tIEnum2 (Tr : TWA) : TIW := fun S G R => Tr S G fun ws G1 => match ws with
  | [w, .int k] => -(2 ^ 62) ≤ k ∧ k < 2 ^ 62 ∧ enumW w k G1 R
  | _ => False
section
variable {X : Cx} {Z : GH × Hp} {e c : Expr} {Tr : TWA} {p pos tpos kpos : Pos} {elts : List Expr} {kk : Nat}
theorem enumW_go {K : PySem.W.Frag} {H1 : Hp} {G1 : GH} {w : W} {v : V} {k : Int} {R' : List W → (GH → Prop) → GH → Prop} {P : Bool → Addr → List V → Prop} (t : enumW w k G1 R') (rv : RV K H1 v w) (rh : RH K H1 G1)
    (go : ∀ b a vs items Gd, v = .ref a → SqB b K H1 a vs → R' items Gd G1 → WIt K G1 H1 (IteK b k K a) items Gd → P b a vs) : ∃ b a vs, v = .ref a ∧ SqB b K H1 a vs ∧ P b a vs := by
  unfold enumW at t
  split at t
  · rename_i xs g e1
    obtain ⟨a, vs, rfl, qa, ka⟩ := lst_of e1 rv rh
    exact ⟨false, a, vs, rfl, qa, go _ _ _ _ _ rfl qa t (wit_enum fun G H f r z => ka G H f r z)⟩
  · split at t
    · rename_i xs e1
      obtain ⟨a, vs, rfl, qa, ka⟩ := RV.tup_of rv rh e1
      exact ⟨true, a, vs, rfl, qa, go _ _ _ _ _ rfl qa t (wit_enum fun G H f r z => ka G H f)⟩
    · exact t.elim
theorem wi_enum2 (hg : Gl X "enumerate") (hm : X.mg "enumerate" = none) (ha : WA X Z [e, c] Tr) (hs : starEach [e, c] X.env = (false, eval e X.env) :: starEach [c] X.env := by rfl) (hpl : (backTo pos (starEach [c] X.env)).any (·.1) = false := by rfl) :
    WI X Z (.Tuple elts kk tpos) (.Call (.Name "enumerate" p) [e, c] [] pos) (tIEnum2 Tr) := (pi_enum2 hg hm ha hs hpl).weak fun σ H R h => by
  obtain ⟨S, G, R', sr, t, k⟩ := h
  refine LfA.go sr t fun ws G1 vs H1 t1 f1 rs h1 => ?_
  match ws, t1, rs with
  | [w, .int i], t1, rs =>
    obtain ⟨v, u, rfl, rv, ru⟩ := rs.two
    cases ru
    obtain ⟨b, a, xs, rfl, hq, pp⟩ := enumW_go (P := fun b a vs => R (IteK b i X.K a) H1) t1.2.2 rv h1 fun b a vs items Gd _ _ r wi => k _ _ G1 _ H1 r f1 h1 wi
    exact ⟨b, a, xs, i, rfl, hq, t1.1, t1.2.1, pp⟩
end
/-! ### enumerate(e, start=k), enumerate(e) -/
theorem callWith_tyKw {M : Model} {A : Around} {E : Value → Shared → Prop} {s : Shared} {env : Env} {pos : Pos} {T : String} {e : Expr} {rest : List Expr} {kws : List Keyword} {Q : Value → Shared → Prop}
    (h : wpAny M A (spliced (backTo pos (starEach (e :: rest) env))) (fun vs s₁ => wpAny M A (evalAll ((backToKw pos (keywordEach kws env)).map (·.2))) (fun kvs s₂ => wpAny M A (call (.type T) vs (((backToKw pos (keywordEach kws env)).filterMap (·.1)).zip kvs)) Q E s₂) E s₁) E s)
    (he : backTo pos (starEach (e :: rest) env) = (false, eval e env) :: backTo pos (starEach rest env)) (h1 : (backTo pos (starEach (e :: rest) env)).any (·.1) = false) (h2 : (backToKw pos (keywordEach kws env)).all (·.1.isSome) = true) (h3 : (backToKw pos (keywordEach kws env)).any (·.1.isNone) = false) :
    wpAny M A (callWith pos (.type T) [] (backTo pos (starEach (e :: rest) env)) (backToKw pos (keywordEach kws env))) Q E s := by
  have h' : wpAny M A (evalArgs (.type T) true (backTo pos (starEach (e :: rest) env)) (backToKw pos (keywordEach kws env))) (fun a s₁ => wpAny M A (call (.type T) ([] ++ a.pos) a.kw) Q E s₁) E s := by
    rw [he] at h ⊢
    exact PyProof.Rows.evalArgs_kwB h2 h
  unfold callWith
  refine wpAny_bind (wpAny_holding (wpAny_mono h' (fun a s₁ q => wpAny_bind (wpAny_standAt ?_)) fun _ _ x => x))
  simp only [h1, h3, Bool.or_false]
  refine wpAny_bind (wpAny_pure ?_)
  exact wpAny_bind (wpAny_mono q (fun r s₂ hr => wpAny_bind (wpAny_holding (wpAny_point (wpAny_pure hr)))) fun _ _ x => x)
def iEnumKw (K : PySem.W.Frag) (te tk : TE) : TI := fun σ H R => tCons te tNil σ H fun vs H1 => tk σ H1 fun y H2 => ∃ b a xs k, vs = [.ref a] ∧ y = .int k ∧ SqB b K H2 a xs ∧ -(2 ^ 62) ≤ k ∧ k < 2 ^ 62 ∧ R (IteK b k K a) H2
section
variable {X : Cx} {Z : GH × Hp} {e c : Expr} {te tk : TE} {Ta Tb : TW} {p pos tpos kpos : Pos} {elts : List Expr} {kk : Nat}
theorem pi_enumKw (hg : Gl X "enumerate") (hm : X.mg "enumerate" = none) (he : PE X e te) (hk : PE X c tk) (hs : starEach [e] X.env = (false, eval e X.env) :: starEach [] X.env := by rfl)
    (h1 : backTo pos (starEach [e] X.env) = (false, eval e X.env) :: backTo pos (starEach [] X.env) := by rfl) (h2 : (backTo pos (starEach [e] X.env)).any (·.1) = false := by rfl) :
    PI X (.Tuple elts kk tpos) (.Call (.Name "enumerate" p) [e] [⟨some "start", c, kpos⟩] pos) (iEnumKw X.K te tk) := by
  refine ⟨fun pins s σ H R I h => ?_⟩
  refine wpAny_Call_Name_kw (ld_blt I hg hm boot_enumerate (callWith_tyKw (thn ((pa_cons he pa_nil hs).run pos pins s σ H _ I h) fun us s1 ⟨vs, H1, I1, r1, q1⟩ => ?_) h1 h2 (by rfl) (by rfl)))
  show wpAny _ _ (evalAll [(do let v ← eval c X.env; standAt pos; pure v)]) _ _ s1
  refine wpAny_evalAll_cons (wpAny_bind (thn (hk.run pins s1 σ H1 _ I1 q1) fun u s2 ⟨y, H2, I2, r2, b, a, xs, k, ev, ey, hq, g0, g1, q⟩ => wpAny_bind (wpAny_standAt (wpAny_pure (wpAny_evalAll_nil ?_)))))
  subst ev ey
  cases r1 with
  | cons ra rr =>
    cases rr
    cases ra
    obtain ⟨t, rfl⟩ := r2
    obtain ⟨its, rv, pp, hz⟩ := sqb_get I2 hq
    obtain ⟨o, B, hit⟩ := beginsB b a its.toArray
    show wpAny _ _ (call (.type "enumerate") [.ref a] [(Str.ofString "start", .int k t)]) _ _ s2
    refine enum_begins_start B pp (by omega) (by omega) fun h' en ho hsz hk2 => wpAny_pyIter_enum en ?_
    have lta := itB_lt pp
    have I3 : Inv X pins σ H2 { s2 with heap := h' } := I2.kept (t' := s2.toks) hk2
    have en' : IsEnum h' (s2.heap.objs.size + 1) s2.heap.objs.size (k + ((0 : Nat) : Int)) .none := by rw [show k + ((0 : Nat) : Int) = k by omega]; exact en
    refine ⟨s2.heap.objs.size + 1, [s2.heap.objs.size + 1, s2.heap.objs.size], _, _, H2, rfl, I3, turn_enumB b k a (s2.heap.objs.size + 1) s2.heap.objs.size (Nat.succ_ne_self _) (Nat.ne_of_lt lta) (Nat.ne_of_gt (Nat.lt_succ_of_lt lta)), ⟨⟨.none, en'⟩, hit _ _ ho⟩, fun d hd => ?_, q⟩
    have e' : d = s2.heap.objs.size + 1 ∨ d = s2.heap.objs.size := by simpa using hd
    have hle : s2.heap.objs.size ≤ d := by
      rcases e' with z | z
      · rw [z]; exact Nat.le_add_right _ _
      · rw [z]; exact Nat.le_refl _
    exact I2.fpOk hle (I2.hok.fresh hle)
def tIEnumK (Ta Tb : TW) : TIW := fun S G R => Ta S G fun w G1 => Tb S G1 fun y G2 => match y with
  | .int k => -(2 ^ 62) ≤ k ∧ k < 2 ^ 62 ∧ enumW w k G2 R
  | _ => False
theorem wi_enumK (hg : Gl X "enumerate") (hm : X.mg "enumerate" = none) (he : WE X Z e Ta) (hk : WE X Z c Tb) (hs : starEach [e] X.env = (false, eval e X.env) :: starEach [] X.env := by rfl)
    (h1 : backTo pos (starEach [e] X.env) = (false, eval e X.env) :: backTo pos (starEach [] X.env) := by rfl) (h2 : (backTo pos (starEach [e] X.env)).any (·.1) = false := by rfl) :
    WI X Z (.Tuple elts kk tpos) (.Call (.Name "enumerate" p) [e] [⟨some "start", c, kpos⟩] pos) (tIEnumK Ta Tb) := (pi_enumKw hg hm he hk hs h1 h2).weak fun σ H R h => by
  obtain ⟨S, G, R', sr, t, k⟩ := h
  refine Lf.go sr t fun w G1 v H1 t1 f1 r1 g1 => ?_
  refine Lf.go (sr.next f1 g1) t1 fun y G2 u H2 t2 f2 r2 g2 => ?_
  cases y with
  | int i =>
    cases r2
    obtain ⟨b, a, xs, rfl, hq, pp⟩ := enumW_go (P := fun b a vs => R (IteK b i X.K a) H2) t2.2.2 (r1.mono f2 g1) g2 fun b a vs items Gd _ _ r wi => k _ _ G2 _ H2 r (f1.trans f2) g2 wi
    exact ⟨b, a, xs, i, rfl, rfl, hq, t2.1, t2.2.1, pp⟩
  | _ => exact (show False from t2).elim
/-- enumerate of a list -/
theorem wit_enum0 {K : PySem.W.Frag} {G1 : GH} {H1 : Hp} {a : Addr} {xs : List W} {Gd : GH → Prop} (h : ∀ G H, FR G1 H1 G H → RH K H G → Gd G → ∃ vs, SqL K H a vs ∧ RVs K H vs xs) : WIt K G1 H1 (Ite K a) (enumP 0 xs) Gd where
  go := fun i G H f rh g hi => by
    obtain ⟨vs, h1, r1⟩ := h G H f rh g
    rw [enumP_len] at hi
    obtain ⟨v, hv, _⟩ := r1.get (i := i) (w := xs[i]) (by simp [hi])
    exact ⟨vs, v, h1, hv⟩
  yld := fun i G H x H' w f rh g hw y => by
    obtain ⟨vs, h1, r1⟩ := h G H f rh g
    obtain ⟨T, x1, rfl, nT, rfl, f1⟩ := y
    obtain ⟨p, hp, rfl⟩ := enumP_get hw
    obtain ⟨v, hv, rv⟩ := r1.get hp
    have e1 := f1 vs h1
    rw [hv] at e1; cases e1
    rw [Int.zero_add]
    exact ⟨.new nT, .tup upd_same (.cons (.int _) (.cons (rv.mono (.new nT) rh) .nil)), rh.new nT⟩
  stop := fun G H f rh g => by
    obtain ⟨vs, h1, r1⟩ := h G H f rh g
    exact ⟨vs, h1, by rw [enumP_len, r1.length]; exact Nat.le_refl _⟩
def tIEnum1 (Ta : TW) : TIW := fun S G R => Ta S G fun w G1 => match lstOf w G1 with
  | some (xs, g) => R (enumP 0 xs) g G1
  | none => False
theorem wi_enum1 (hg : Gl X "enumerate") (hm : X.mg "enumerate" = none) (he : WE X Z e Ta) (hs : starEach [e] X.env = [(false, eval e X.env)] := by rfl) (hs2 : starEach [e] X.env = (false, eval e X.env) :: starEach [] X.env := by rfl) :
    WI X Z (.Tuple elts kk tpos) (.Call (.Name "enumerate" p) [e] [] pos) (tIEnum1 Ta) := (pi_enum hg hm (pa_cons he pa_nil hs2) hs).weak fun σ H R h => by
  obtain ⟨S, G, R', sr, t, k⟩ := h
  refine Lf.go sr t fun w G1 v H1 t1 f1 r1 g1 => ?_
  split at t1
  · rename_i xs g e1
    obtain ⟨a, vs, rfl, qa, ka⟩ := lst_of e1 r1 g1
    exact ⟨a, vs, rfl, qa, k _ _ G1 _ H1 t1 f1 g1 (wit_enum0 fun G H f r z => ka G H f r z)⟩
  · exact t1.elim
end
end WL
set_option Elab.async false
set_option linter.all false
set_option maxRecDepth 100000
set_option maxHeartbeats 4000000
/-! WL, part s: facts of byAbs; of `in` over dict keys; of pairs. -/
namespace WL
open PySem PySem.Spec PyProof.Rows L2 PySem.W

theorem hu20 {k : Nat} {A : Around} (hr : Room k A) : A.units + 20 < cLine := by have := hr.un; omega
theorem byAbs_eq (ns : List Int) : byAbs ns = ns.mergeSort fun a b => decide (absI a ≤ absI b) := by
  unfold byAbs
  rw [dataLe_int]
theorem byAbs_pw (ns : List Int) : (byAbs ns).Pairwise fun a b => absI a ≤ absI b := by
  rw [byAbs_eq]
  refine (List.pairwise_mergeSort (fun a b c h1 h2 => ?_) (fun a b => ?_) ns).imp fun h => of_decide_eq_true h
  · have := of_decide_eq_true h1; have := of_decide_eq_true h2; exact decide_eq_true (by omega)
  · rw [Bool.or_eq_true, decide_eq_true_eq, decide_eq_true_eq]; omega
theorem byAbs_len (ns : List Int) : (byAbs ns).length = ns.length := (byAbs_perm ns).length_eq
theorem abs_uniq : ∀ {l m : List Int}, l.Perm m → l.Pairwise (fun a b => absI a ≤ absI b) → m.Pairwise (fun a b => absI a ≤ absI b) → (m.map absI).Nodup → l = m
  | [], m, pm, _, _, _ => (List.nil_perm.mp pm).symm
  | a :: l, [], pm, _, _, _ => absurd pm.length_eq (by simp)
  | a :: l, b :: m, pm, p1, p2, nd => by
    rw [List.pairwise_cons] at p1 p2
    rw [List.map_cons, List.nodup_cons] at nd
    have e : a = b := by
      rcases List.mem_cons.mp (pm.mem_iff.mp List.mem_cons_self) with h | h
      · exact h
      · rcases List.mem_cons.mp (pm.mem_iff.mpr List.mem_cons_self) with h2 | h2
        · exact h2.symm
        · have := p1.1 b h2
          have := p2.1 a h
          exact absurd (List.mem_map.mpr ⟨a, h, (by omega : absI a = absI b)⟩) nd.1
    subst e
    rw [abs_uniq ((List.perm_cons a).mp pm) p1.2 p2.2 nd.2]
theorem byAbs_of {l ns : List Int} (pm : l.Perm ns) (nd : (ns.map absI).Nodup) : byAbs l = byAbs ns := by
  have q : (byAbs l).Perm (byAbs ns) := (byAbs_perm l).trans (pm.trans (byAbs_perm ns).symm)
  exact abs_uniq q (byAbs_pw l) (byAbs_pw ns) (((byAbs_perm ns).map absI).nodup_iff.mpr nd)
end WL
set_option Elab.async false
set_option linter.all false
set_option maxRecDepth 100000
set_option maxHeartbeats 4000000
/-! WL, part t: turned lists: what the shuffles of a list keep. -/
namespace WL
open PySem PySem.Spec PyProof.Rows L2 PySem.W

theorem swap_perm {α : Type} (A : List α) (i j : Nat) (hi : i < A.length) (hj : j < A.length) : ((A.set i A[j]).set j A[i]).Perm A := by
  have := (Array.perm_iff_toList_perm).mp (Array.swap_perm (xs := A.toArray) (i := i) (j := j) (by simpa using hi) (by simpa using hj))
  rw [Array.toList_swap] at this
  simpa using this
/-- absolute values of a list -/
abbrev absL (ls : List Int) : List Int := ls.map absI
theorem absI_neg (z : Int) : absI (-z) = absI z := by unfold absI; split <;> split <;> omega
theorem absL_two {L : List Int} {i j : Nat} {a b x y : Int} (hi : L[i]? = some x) (hj : L[j]? = some y) (ea : absI a = absI y) (eb : absI b = absI x) : (absL ((L.set i a).set j b)).Perm (absL L) := by
  obtain ⟨h1, rfl⟩ := List.getElem?_eq_some_iff.mp hi
  obtain ⟨h2, rfl⟩ := List.getElem?_eq_some_iff.mp hj
  have := swap_perm (absL L) i j (by simpa using h1) (by simpa using h2)
  rw [List.getElem_map, List.getElem_map] at this
  unfold absL
  rw [List.map_set, List.map_set, ea, eb]
  exact this
theorem absL_one {L : List Int} {i : Nat} {a x : Int} (hi : L[i]? = some x) (ea : absI a = absI x) : absL (L.set i a) = absL L := by
  obtain ⟨h1, rfl⟩ := List.getElem?_eq_some_iff.mp hi
  unfold absL
  rw [List.map_set, ea]
  have : (L.map absI)[i]'(by simpa using h1) = absI L[i] := List.getElem_map _
  rw [← this]
  exact List.set_getElem_self _
theorem rot_perm {α : Type} (L : List α) (n : Nat) : (L.drop n ++ L.take n).Perm L := by
  have := (List.perm_append_comm (l₁ := L.drop n) (l₂ := L.take n))
  rwa [List.take_append_drop] at this
theorem erase_perm {α : Type} {ps : List α} {r : Nat} (hr : r < ps.length) : (ps[r] :: ps.eraseIdx r).Perm ps := by
  rw [List.eraseIdx_eq_take_drop_succ]
  refine List.perm_middle.symm.trans ?_
  rw [List.getElem_cons_drop, List.take_append_drop]
theorem pool_perm {α : Type} {ls ps L : List α} {r : Nat} (hr : r < ps.length) (h : (ls ++ ps).Perm L) : ((ls ++ [ps[r]]) ++ ps.eraseIdx r).Perm L := by
  rw [List.append_assoc]
  exact ((List.Perm.append_left ls (erase_perm hr))).trans h
theorem absL_rgI (many : Int) : absL (rgI 1 many) = rgI 1 many := by
  conv => rhs; rw [← List.map_id (rgI 1 many)]
  refine List.map_congr_left fun n hn => ?_
  have := rgI_mem.mp hn
  unfold absI
  rw [if_neg (by omega)]; rfl
/-- a turn of many truths -/
structure TurnOf (many : Int) (ls : List Int) : Prop where
  pm : (absL ls).Perm (rgI 1 (many + 1))
  h0 : 1 ≤ many
  h4 : many ≤ 400
theorem TurnOf.len {many : Int} {ls : List Int} (t : TurnOf many ls) : (ls.length : Int) = many := by
  have := t.pm.length_eq
  rw [List.length_map, rgI_length] at this
  have := t.h0
  omega
theorem TurnOf.mem {many : Int} {ls : List Int} (t : TurnOf many ls) {l : Int} (h : l ∈ ls) : 1 ≤ absI l ∧ absI l ≤ many := by
  have := rgI_mem.mp (t.pm.mem_iff.mp (List.mem_map_of_mem (f := absI) h))
  omega
theorem TurnOf.bound {many : Int} {ls : List Int} (t : TurnOf many ls) : ∀ l ∈ ls, l.natAbs ≤ 400 := fun l h => by
  have h1 := t.mem h
  have := t.h4
  unfold absI at h1
  split at h1 <;> omega
theorem TurnOf.nodup {many : Int} {ls : List Int} (t : TurnOf many ls) : (absL ls).Nodup := t.pm.nodup_iff.mpr (rgI_nodup _ _)
end WL
set_option Elab.async false
set_option linter.all false
set_option maxRecDepth 100000
set_option maxHeartbeats 4000000
/-! WL, part u: list of a dict; dicts made of pairs, told by their keys. -/
namespace WL
open PySem PySem.Spec PyProof.Rows L2 PySem.W

/-- the keys of a dict, as a list -/
def keysIn (w : W) (G : GH) : Option (List W) := match w with
  | .ref p => match G p with
    | some (.dK kws) => some (kws.map fun kw => kW kw.1)
    | _ => none
  | .fdK kws => some (kws.map fun kw => kW kw.1)
  | _ => none
def toListDW : CW := fun ws G R => match ws with
  | [w] => match keysIn w G with
    | some xs => ∀ p, G p = none → R (.ref p) (updG G p (.lst xs))
    | none => toListW [w] G R
  | _ => False
section
variable {X : Cx}
theorem rvs_keys {K : PySem.W.Frag} {H : Hp} : ∀ (ks : List Key), RVs K H (ks.map kV) (ks.map kW)
  | [] => .nil
  | .inl i :: ks => .cons (.int i) (rvs_keys ks)
  | .inr x :: ks => .cons (.str x) (rvs_keys ks)
theorem call_listDW (hc : X.calm = true) : CallW X (.type "list") toListDW := by
  intro pins s σ H xs us Q I r h
  obtain ⟨ws, G, R, rs, rh, t, k⟩ := h
  match ws, t, rs with
  | [w], t, rs =>
    unfold toListDW at t
    dsimp only at t
    split at t
    · rename_i ys e
      obtain ⟨v, rfl, rv⟩ := rs.one
      unfold keysIn at e
      cases w with
      | ref p =>
        cases rv
        dsimp only at e
        split at e
        · rename_i kws eg
          cases e
          obtain ⟨kvs, hv, rr⟩ := rh _ _ eg
          refine call_listD hc pins s σ H _ us Q I r ⟨_, kvs, rfl, .inl hv, fun l hl => k _ _ _ _ (t l (rh.free hl)) (.newG hl) (.ref l) (rh.newG hl ⟨_, upd_same, ?_⟩)⟩
          have e1 : (kvs.map fun kv => kV kv.1) = (kvs.map (·.1)).map kV := by rw [List.map_map]; rfl
          have e2 : (kws.map fun kv => kW kv.1) = (kws.map (·.1)).map kW := by rw [List.map_map]; rfl
          rw [e1, e2, RKV.keys rr]
          exact rvs_keys _
        · cases e
      | fdK kws =>
        cases e
        cases rv with
        | @fdK a ob kvs _ hv ek rr =>
          refine call_listD hc pins s σ H _ us Q I r ⟨_, kvs, rfl, .inr ⟨ob, hv⟩, fun l hl => k _ _ _ _ (t l (rh.free hl)) (.newG hl) (.ref l) (rh.newG hl ⟨_, upd_same, ?_⟩)⟩
          have e1 : (kvs.map fun kv => kV kv.1) = (kvs.map (·.1)).map kV := by rw [List.map_map]; rfl
          have e2 : (kws.map fun kv => kW kv.1) = (kws.map (·.1)).map kW := by rw [List.map_map]; rfl
          rw [e1, e2, ek]
          exact rvs_keys _
      | _ => cases e
    · exact call_listW pins s σ H xs us Q I r ⟨[w], G, R, rs, rh, t, k⟩
end
theorem putW_len {κ : Type} [DecidableEq κ] (acc : List (κ × W)) (k : κ) (v : W) : (putW acc k v).length ≤ acc.length + 1 := by
  unfold putW
  split
  · rw [List.length_map]; omega
  · rw [List.length_append, List.length_singleton]; omega
theorem putW_keys (acc : List (Key × W)) (k : Key) (v : W) : (putW acc k v).map (·.1) = if k ∈ acc.map (·.1) then acc.map (·.1) else acc.map (·.1) ++ [k] := by
  unfold putW
  have e : (acc.any fun kv => decide (kv.1 = k)) = true ↔ k ∈ acc.map (·.1) := by
    rw [List.any_eq_true, List.mem_map]
    exact ⟨fun ⟨x, h, e⟩ => ⟨x, h, of_decide_eq_true e⟩, fun ⟨x, h, e⟩ => ⟨x, h, decide_eq_true e⟩⟩
  by_cases h : k ∈ acc.map (·.1)
  · rw [if_pos h, if_pos (e.mpr h), List.map_map]
    refine List.map_congr_left fun x _ => ?_
    show (if x.1 = k then (x.1, v) else x).1 = x.1
    split <;> rfl
  · rw [if_neg h, if_neg fun z => h (e.mp z), List.map_append]
    rfl
theorem mergeW_keys : ∀ (kws acc : List (Key × W)), (mergeW acc kws).map (·.1) = ded (acc.map (·.1)) (kws.map (·.1))
  | [], acc => rfl
  | kv :: kws, acc => by
    show (mergeW (putW acc kv.1 kv.2) kws).map (·.1) = ded (if kv.1 ∈ acc.map (·.1) then acc.map (·.1) else acc.map (·.1) ++ [kv.1]) (kws.map (·.1))
    rw [mergeW_keys, putW_keys]
theorem mergeW_nodup : ∀ (kws acc : List (Key × W)), (acc.map (·.1) ++ kws.map (·.1)).Nodup → mergeW acc kws = acc ++ kws
  | [], acc, _ => (List.append_nil _).symm
  | kv :: kws, acc, h => by
    have hn : ¬ kv.1 ∈ acc.map (·.1) := fun z => by
      rw [List.map_cons, List.nodup_append] at h
      exact h.2.2 _ z _ List.mem_cons_self rfl
    have e : putW acc kv.1 kv.2 = acc ++ [kv] := by
      unfold putW
      rw [if_neg]
      intro z
      obtain ⟨x, hx, e⟩ := List.any_eq_true.mp z
      exact hn (List.mem_map.mpr ⟨x, hx, of_decide_eq_true e⟩)
    show mergeW (putW acc kv.1 kv.2) kws = _
    rw [e, mergeW_nodup kws _ (by rw [List.map_append, List.append_assoc]; exact h), List.append_assoc]
    rfl
theorem compD_pure {α : Type} {f : α → W} {kf : α → Key} {vf : α → W} {Gd : GH → Prop} {g : TGW} {tk tv : TW} {S0 : WSt} {R : List (Key × W) → GH → Prop} {G : GH} (hg : Gd G) : ∀ (xs : List α) (acc : List (Key × W)), acc.length + xs.length ≤ sizeLine →
    (∀ x ∈ xs, ∀ R' : W → W → GH → Prop, (∀ k, k.key? = some (kf x) → R' k (vf x) G) → g (f x) S0 G fun S2 G2 => tk S2 G2 fun k G4 => tv S2 G4 fun v G5 => R' k v G5) →
    R (mergeW acc (xs.map fun x => (kf x, vf x))) G → compD Gd g tYesW tk tv S0 R (xs.map f) G acc
  | [], acc, _, _, r => ⟨hg, r⟩
  | x :: xs, acc, hl, st, r => by
    rw [List.length_cons] at hl
    refine ⟨hg, ?_⟩
    show g (f x) S0 G fun S2 G2 => tYesW S2 G2 fun b G3 => if b = true then _ else _
    refine st x List.mem_cons_self (fun k v G5 => ∃ c, k.key? = some c ∧ acc.length < sizeLine ∧ compD Gd g tYesW tk tv S0 R (xs.map f) G5 (putW acc c v)) fun k hk => ?_
    have := putW_len acc (kf x) (vf x)
    exact ⟨kf x, hk, by omega, compD_pure hg xs _ (by omega) (fun y hy => st y (List.mem_cons_of_mem _ hy)) r⟩
/-- the different ones of ints -/
theorem ded_ints : ∀ (pool as : List Int), as.Nodup → ∃ ms : List Int, ded (as.map Sum.inl) (pool.map Sum.inl) = ms.map Sum.inl ∧ ms.Nodup ∧ (∀ m, m ∈ ms ↔ m ∈ as ∨ m ∈ pool) ∧ ms.length ≤ as.length + pool.length
  | [], as, h => ⟨as, rfl, h, fun m => by simp, by simp⟩
  | p :: pool, as, h => by
    by_cases hp : p ∈ as
    · obtain ⟨ms, e1, e2, e3, e4⟩ := ded_ints pool as h
      refine ⟨ms, ?_, e2, fun m => ?_, by rw [List.length_cons]; omega⟩
      · show ded (if (Sum.inl p : Key) ∈ as.map Sum.inl then as.map Sum.inl else as.map Sum.inl ++ [Sum.inl p]) (pool.map Sum.inl) = _
        rw [if_pos (List.mem_map_of_mem hp)]
        exact e1
      · rw [e3, List.mem_cons]
        exact ⟨fun z => z.elim .inl fun z => .inr (.inr z), fun z => z.elim .inl fun z => z.elim (fun z => .inl (z ▸ hp)) .inr⟩
    · obtain ⟨ms, e1, e2, e3, e4⟩ := ded_ints pool (as ++ [p]) (List.nodup_append.mpr ⟨h, by simp, fun a ha b hb e => hp (by rw [List.mem_singleton.mp hb] at e; exact e ▸ ha)⟩)
      refine ⟨ms, ?_, e2, fun m => ?_, by rw [List.length_append, List.length_singleton] at e4; rw [List.length_cons]; omega⟩
      · show ded (if (Sum.inl p : Key) ∈ as.map Sum.inl then as.map Sum.inl else as.map Sum.inl ++ [Sum.inl p]) (pool.map Sum.inl) = _
        rw [if_neg (fun z => by
          obtain ⟨a, ha, e⟩ := List.mem_map.mp z
          exact hp (Sum.inl.inj e ▸ ha))]
        rw [List.map_append] at e1
        exact e1
      · rw [e3, List.mem_append, List.mem_singleton, List.mem_cons]
        exact or_assoc
theorem intsOf_keys (ms : List Int) (vf : Int → W) : intsOf ((ms.map fun m => ((Sum.inl m : Key), vf m)).map fun kw => kW kw.1) = some ms := by
  rw [List.map_map]
  exact intsOf_map ms
end WL
set_option Elab.async false
set_option linter.all false
set_option maxRecDepth 100000
set_option maxHeartbeats 4000000
/-! WL, part v: where turns lead, in plain words. -/
namespace WL
open PySem PySem.Spec PyProof.Rows L2 PySem.W

/-- where a turn leads a letter -/
def goI (ls : List Int) (l : Int) : Int := if l > 0 then ls.getD (l - 1).toNat 0 else -(ls.getD (-l - 1).toNat 0)
theorem absI_pos (n : Int) : 0 ≤ absI n := by unfold absI; split <;> omega
theorem goI_abs {ls : List Int} {l : Int} (h : 1 ≤ absI l) : absI (goI ls l) = absI (ls.getD (absI l - 1).toNat 0) := by
  unfold goI
  by_cases c : l > 0
  · rw [if_pos c, show absI l = l by unfold absI; rw [if_neg (by omega)]]
  · rw [if_neg c, absI_neg, show absI l = -l by unfold absI at *; split at h <;> split <;> omega]
/-- the letters a turn of many truths takes -/
def LetOf (many : Int) (l : Int) : Prop := 1 ≤ absI l ∧ absI l ≤ many
theorem TurnOf.get {many : Int} {ls : List Int} (t : TurnOf many ls) {k : Int} (h0 : 1 ≤ k) (h1 : k ≤ many) : ls.getD (k - 1).toNat 0 ∈ ls ∧ atI (ls.map W.int) (k - 1) = some (.int (ls.getD (k - 1).toNat 0)) := by
  have hl := t.len
  obtain ⟨z, z1, z2, z3⟩ := atI_map (f := W.int) (xs := ls) (i := k - 1) (by omega) (by omega)
  rw [List.getD_eq_getElem?_getD, z1]
  exact ⟨z2, z3⟩
theorem TurnOf.go {many : Int} {ls : List Int} (t : TurnOf many ls) {l : Int} (h : LetOf many l) : LetOf many (goI ls l) := by
  unfold LetOf
  rw [goI_abs h.1]
  exact t.mem (t.get h.1 h.2).1
theorem TurnOf.inj {many : Int} {ls : List Int} (t : TurnOf many ls) {a b : Int} (ha : LetOf many a) (hb : LetOf many b) (e : absI (goI ls a) = absI (goI ls b)) : absI a = absI b := by
  rw [goI_abs ha.1, goI_abs hb.1] at e
  have hl := t.len
  have nd := t.nodup
  have h1 : (absI a - 1).toNat < (absL ls).length := by rw [List.length_map]; have := ha.1; have := ha.2; omega
  have h2 : (absI b - 1).toNat < (absL ls).length := by rw [List.length_map]; have := hb.1; have := hb.2; omega
  have g1 : (absL ls)[(absI a - 1).toNat] = absI (ls.getD (absI a - 1).toNat 0) := by
    rw [List.getElem_map, List.getD_eq_getElem?_getD, List.getElem?_eq_getElem (by simpa using h1)]; rfl
  have g2 : (absL ls)[(absI b - 1).toNat] = absI (ls.getD (absI b - 1).toNat 0) := by
    rw [List.getElem_map, List.getD_eq_getElem?_getD, List.getElem?_eq_getElem (by simpa using h2)]; rfl
  have := (List.getElem_inj (h₀ := h1) (h₁ := h2) nd).mp (by rw [g1, g2, e])
  have := ha.1; have := hb.1
  omega
theorem nodup_of_abs {ls : List Int} (h : (absL ls).Nodup) : ls.Nodup := by
  unfold absL at h
  rw [List.Nodup, List.pairwise_map] at h
  exact h.imp fun h e => h (by rw [e])
theorem TurnOf.go_nodup {many : Int} {ls : List Int} (t : TurnOf many ls) : ∀ {part : List Int}, (∀ p ∈ part, LetOf many p) → (absL part).Nodup → (absL (part.map (goI ls))).Nodup
  | [], _, _ => .nil
  | p :: part, hp, h => by
    unfold absL at *
    rw [List.map_cons, List.nodup_cons] at h
    rw [List.map_cons, List.map_cons, List.nodup_cons]
    refine ⟨fun z => h.1 ?_, t.go_nodup (fun q hq => hp q (List.mem_cons_of_mem _ hq)) h.2⟩
    obtain ⟨y, hy, e⟩ := List.mem_map.mp z
    obtain ⟨q, hq, rfl⟩ := List.mem_map.mp hy
    exact List.mem_map.mpr ⟨q, hq, t.inj (hp q (List.mem_cons_of_mem _ hq)) (hp p List.mem_cons_self) e⟩
theorem byAbs_go {many : Int} {ls : List Int} (t : TurnOf many ls) {part : List Int} (hp : ∀ p ∈ part, LetOf many p) (h : (absL part).Nodup) : byAbs ((byAbs part).map (goI ls)) = byAbs (part.map (goI ls)) :=
  byAbs_of ((byAbs_perm part).map _) (t.go_nodup hp h)
/-! ### answers, bit by bit -/
/-- the bit a turned answer has at truth k -/
def bitAt : List Int → List Int → Int → Int
  | to :: ls, b :: bs, k => if absI to = k then (if to > 0 then b else 1 - b) else bitAt ls bs k
  | _, _, _ => 0
theorem val_bitAt : ∀ (ls bs : List Int) (k : Int), ls.length = bs.length → k ∈ absL ls →
    valW ((ls.zip bs).map fun p => ((Sum.inl (absI p.1) : Key), W.int (if p.1 > 0 then p.2 else 1 - p.2))) (Sum.inl k) = some (.int (bitAt ls bs k))
  | [], _, k, _, h => by cases h
  | to :: ls, [], k, h, _ => by cases h
  | to :: ls, b :: bs, k, hl, h => by
    unfold bitAt valW
    rw [List.zip_cons_cons, List.map_cons, List.find?_cons]
    by_cases c : absI to = k
    · rw [if_pos c, decide_eq_true (show (Sum.inl (absI to) : Key) = Sum.inl k by rw [c])]; rfl
    · rw [if_neg c, decide_eq_false (show ¬ (Sum.inl (absI to) : Key) = Sum.inl k from fun z => c (Sum.inl.inj z))]
      rcases List.mem_cons.mp h with e | h
      · exact absurd e.symm c
      · exact val_bitAt ls bs k (by simpa using hl) h
/-- the letters of an answer -/
def letAt : Nat → List Int → List Int
  | _, [] => []
  | i, b :: bs => (if b = 0 then -((i : Int) + 1) else (i : Int) + 1) :: letAt (i + 1) bs
theorem hold_iff {all : List Int} : ∀ (ls bs : List Int) (i : Nat) (k : Int), ls.length = bs.length → (∀ j : Nat, j < ls.length → all.getD (i + j) 0 = ls.getD j 0) → (∀ b ∈ bs, b = 0 ∨ b = 1) → 1 ≤ k → (absL ls).Nodup →
    (k ∈ (letAt i bs).map (goI all) ↔ k ∈ absL ls ∧ bitAt ls bs k = 1) ∧ (k ∈ absL ls → bitAt ls bs k = 0 ∨ bitAt ls bs k = 1)
  | [], [], i, k, _, _, _, _, _ => ⟨⟨fun h => by simp [letAt] at h, fun h => by simp at h⟩, fun h => by cases h⟩
  | [], b :: bs, i, k, hl, _, _, _, _ => by cases hl
  | to :: ls, [], i, k, hl, _, _, _, _ => by cases hl
  | to :: ls, b :: bs, i, k, hl, hg, hb, hk, nd => by
    unfold absL at nd ⊢
    rw [List.map_cons, List.nodup_cons] at nd
    have ih := hold_iff (all := all) ls bs (i + 1) k (by simpa using hl) (fun j hj => by
      have := hg (j + 1) (by rw [List.length_cons]; omega)
      rw [show i + 1 + j = i + (j + 1) by omega, this]; rfl) (fun x hx => hb x (List.mem_cons_of_mem _ hx)) hk nd.2
    have g0 : all.getD i 0 = to := by have := hg 0 (by simp); simpa using this
    have e1 : goI all (if b = 0 then -((i : Int) + 1) else (i : Int) + 1) = if b = 0 then -to else to := by
      unfold goI
      by_cases c : b = 0
      · rw [if_pos c, if_neg (by omega), if_pos c, show (-(-((i : Int) + 1)) - 1).toNat = i by omega, g0]
      · rw [if_neg c, if_pos (by omega), if_neg c, show ((i : Int) + 1 - 1).toNat = i by omega, g0]
    unfold letAt
    rw [List.map_cons, List.mem_cons, e1, ih.1, List.map_cons, List.mem_cons]
    rw [show bitAt (to :: ls) (b :: bs) k = if absI to = k then (if to > 0 then b else 1 - b) else bitAt ls bs k from rfl]
    have b01 := hb b List.mem_cons_self
    by_cases c : absI to = k
    · rw [if_pos c]
      have nk : ¬ k ∈ absL ls := fun z => nd.1 (c ▸ z)
      unfold absI at c
      refine ⟨⟨fun h => ⟨.inl (by unfold absI; exact c.symm), ?_⟩, fun h => .inl ?_⟩, fun _ => ?_⟩
      · rcases h with h | h
        · rcases b01 with rfl | rfl
          · rw [if_pos rfl] at h
            split
            · omega
            · rfl
          · rw [if_neg (by decide)] at h
            rw [if_pos (by omega)]
        · exact absurd h.1 nk
      · have h := h.2
        rcases b01 with rfl | rfl
        · rw [if_pos rfl]
          split at h
          · omega
          · split at c <;> omega
        · rw [if_neg (by decide)]
          split at h
          · split at c <;> omega
          · omega
      · rcases b01 with rfl | rfl <;> split <;> simp
    · rw [if_neg c]
      refine ⟨⟨fun h => ?_, fun h => .inr ⟨h.1.resolve_left fun z => c z.symm, h.2⟩⟩, fun h => ih.2 (h.resolve_left fun z => c z.symm)⟩
      rcases h with h | h
      · refine absurd ?_ c
        unfold absI
        split at h <;> split <;> omega
      · exact ⟨.inr h.1, h.2⟩
theorem TurnOf.hold {many : Int} {ls bs : List Int} (t : TurnOf many ls) (hl : (bs.length : Int) = many) (hb : ∀ b ∈ bs, b = 0 ∨ b = 1) {k : Int} (h0 : 1 ≤ k) (h1 : k ≤ many) : (if k ∈ (letAt 0 bs).map (goI ls) then (1 : Int) else 0) = bitAt ls bs k := by
  have hL := t.len
  obtain ⟨q1, q2⟩ := hold_iff (all := ls) ls bs 0 k (by omega) (fun j _ => by rw [Nat.zero_add]) hb h0 t.nodup
  have hk : k ∈ absL ls := t.pm.mem_iff.mpr (rgI_mem.mpr (by omega))
  by_cases c : k ∈ (letAt 0 bs).map (goI ls)
  · rw [if_pos c, (q1.mp c).2]
  · rw [if_neg c]
    rcases q2 hk with e | e
    · exact e.symm
    · exact absurd (q1.mpr ⟨hk, e⟩) c
end WL
set_option Elab.async false
set_option linter.all false
set_option maxRecDepth 100000
set_option maxHeartbeats 4000000
/-! WL, part w: lookups told by the place; zips and enumerations of ints. -/
namespace WL
open PySem PySem.Spec PyProof.Rows L2 PySem.W

section
variable {G : GH} {p : Addr}
theorem keysIn_dK {kws : List (Key × W)} (h : G p = some (.dK kws)) : keysIn (.ref p) G = some (kws.map fun kw => kW kw.1) := by
  unfold keysIn; dsimp only; rw [h]
theorem keysIn_lst {xs : List W} (h : G p = some (.lst xs)) : keysIn (.ref p) G = none := by
  unfold keysIn; dsimp only; rw [h]
theorem intsIn_dK {kws : List (Key × W)} {ns : List Int} (h : G p = some (.dK kws)) (e : intsOf (kws.map fun kw => kW kw.1) = some ns) : intsIn (.ref p) G = some ns := by
  unfold intsIn; dsimp only; rw [h]; exact e
theorem intsIn_lst {ns : List Int} (h : G p = some (.lst (ns.map W.int))) : intsIn (.ref p) G = some ns := by
  unfold intsIn; dsimp only; rw [h]; exact intsOf_map ns
theorem intsIn_tup (ns : List Int) : intsIn (.tup (ns.map W.int)) G = some ns := by
  unfold intsIn; exact intsOf_map ns
theorem dget_int {kws : List (Key × W)} {k : Int} {o : Option W} (h : G p = some (.dK kws)) (e : valW kws (Sum.inl k : Key) = o) : dgetW p (.int k) G = some o := by
  unfold dgetW; dsimp only; rw [h]; dsimp only [W.key?]; rw [e]
end
theorem valW_isSome (kws : List (Key × W)) (k : Key) : (valW kws k).isSome = decide (k ∈ kws.map (·.1)) := by
  unfold valW
  rw [Option.isSome_map, Bool.eq_iff_iff, List.find?_isSome, decide_eq_true_eq, List.mem_map]
  exact ⟨fun ⟨x, h, e⟩ => ⟨x, h, of_decide_eq_true e⟩, fun ⟨x, h, e⟩ => ⟨x, h, decide_eq_true e⟩⟩
theorem zipP_map {α β : Type} (f : α → W) (g : β → W) (xs : List α) (ys : List β) : zipP (xs.map f) (ys.map g) = (xs.zip ys).map fun p => W.tup [f p.1, g p.2] := by
  unfold zipP
  rw [List.zip_map, List.map_map]
  rfl
def enumI {α : Type} : Int → List α → List (Int × α)
  | _, [] => []
  | k, x :: xs => (k, x) :: enumI (k + 1) xs
theorem enumP_map {α : Type} (f : α → W) : ∀ (k : Int) (xs : List α), enumP k (xs.map f) = (enumI k xs).map fun p => W.tup [.int p.1, f p.2]
  | _, [] => rfl
  | k, x :: xs => by
    rw [List.map_cons]
    unfold enumP enumI
    rw [enumP_map f (k + 1) xs]
    rfl
theorem enumI_len {α : Type} : ∀ (k : Int) (xs : List α), (enumI k xs).length = xs.length
  | _, [] => rfl
  | k, x :: xs => by unfold enumI; rw [List.length_cons, List.length_cons, enumI_len]
theorem enumI_mem {α : Type} : ∀ {k : Int} {xs : List α} {p : Int × α}, p ∈ enumI k xs → k ≤ p.1 ∧ p.1 < k + xs.length ∧ p.2 ∈ xs
  | k, x :: xs, p, h => by
    unfold enumI at h
    rw [List.length_cons]
    rcases List.mem_cons.mp h with rfl | h
    · exact ⟨by dsimp only; omega, by dsimp only; omega, List.mem_cons_self⟩
    · obtain ⟨a, b, c⟩ := enumI_mem h
      exact ⟨by omega, by omega, List.mem_cons_of_mem _ c⟩
theorem letAt_enum : ∀ (i : Nat) (bs : List Int), letAt i bs = (enumI ((i : Int) + 1) bs).map fun p => if p.2 = 0 then -p.1 else p.1
  | _, [] => rfl
  | i, b :: bs => by
    unfold letAt enumI
    rw [List.map_cons, letAt_enum (i + 1) bs, show ((i + 1 : Nat) : Int) + 1 = (i : Int) + 1 + 1 by omega]
end WL
set_option Elab.async false
set_option linter.all false
set_option maxRecDepth 100000
set_option maxHeartbeats 4000000
/-! WL, part x: what nothing writes any more becomes a tree; a def's end forgets what it made. -/
namespace WL
open PySem PySem.Spec PyProof.Rows L2

theorem pe_lock {X : Cx} {e : Expr} {t : TE} (h : PE X e t) : PE X e (fun σ H Q => t σ H fun v H1 => Q v H1 ∨ ∃ p u, H1 p = some u ∧ Mut (some u) ∧ ∀ o, Q v (upd H1 p (.frz o u))) :=
  ⟨fun pins s σ H Q I q => wpAny_mono (h.run pins s σ H _ I q) (fun u s' ⟨v, H1, I1, r, q⟩ => by
    rcases q with q | ⟨p, u, hp, mu, q⟩
    · exact ⟨v, H1, I1, r, q⟩
    · obtain ⟨o, I2⟩ := I1.lock hp mu
      exact ⟨v, _, I2, r, q o⟩) (fun _ _ z => z)⟩
def offG (G : GH) (a : Addr) : GH := fun b => if b = a then none else G b
section
variable {K : PySem.W.Frag} {H H' : Hp} {G G' : GH} {p a : Addr} {o : GO} {u : HO} {ob : Obj}
theorem offG_same : offG G p p = none := by unfold offG; rw [if_pos rfl]
theorem offG_ne (h : a ≠ p) : offG G p a = G a := by unfold offG; rw [if_neg h]
theorem offG_updG (h : G p = none) : offG (updG G p o) p = G := by
  funext b
  by_cases e : b = p
  · subst e; rw [offG_same, h]
  · rw [offG_ne e, updG_ne e]
theorem FR.lock (h : G p = some o) : FR G H (offG G p) (upd H p u) := fun a x e g => by
  have ne : a ≠ p := fun z => by subst z; rw [h] at g; cases g
  exact ⟨by rw [upd_ne ne]; exact e, by rw [offG_ne ne]; exact g⟩
theorem RH.lock (r : RH K H G) (h : G p = some o) : RH K (upd H p u) (offG G p) := fun a y e => by
  by_cases q : a = p
  · subst q; rw [offG_same] at e; cases e
  · rw [offG_ne q] at e
    exact RO.keep (r a y e) (FR.lock h) r fun z hz => by rw [upd_ne q]; exact hz
theorem RKV.vals {κ : Type} : ∀ {kvs : List (κ × V)} {kws : List (κ × W)}, RKV K H kvs kws → RVs K H (kvs.map (·.2)) (kws.map (·.2))
  | _, _, .nil => .nil
  | _, _, .cons q t => .cons q.2 (RKV.vals t)
end
/-- what a list, a dict, an instance is once nothing writes it -/
def frzK (R : KW) : KW := fun w G => match w with
  | .ref p => match G p with
    | some (.lst ws) => R (.fl ws) (offG G p)
    | some (.dK kws) => R (.fdK kws) (offG G p)
    | some (.dT kws) => R (.fdT kws) (offG G p)
    | some (.ins C fs) => R (.fo C fs) (offG G p)
    | _ => R (.ref p) G
  | w => R w G
section
variable {R : KW} {G : GH}
theorem frz_lst {ws : List W} (h : R (.fl ws) G) : ∀ p, G p = none → frzK R (.ref p) (updG G p (.lst ws)) := fun p hp => by
  show frzK R (.ref p) (updG G p (.lst ws))
  unfold frzK
  dsimp only
  rw [updG_same]
  dsimp only
  rw [offG_updG hp]; exact h
theorem frz_dK {kws : List (Key × W)} (h : R (.fdK kws) G) : ∀ p, G p = none → frzK R (.ref p) (updG G p (.dK kws)) := fun p hp => by
  unfold frzK
  dsimp only
  rw [updG_same]
  dsimp only
  rw [offG_updG hp]; exact h
theorem frz_dT {kws : List (List Key × W)} (h : R (.fdT kws) G) : ∀ p, G p = none → frzK R (.ref p) (updG G p (.dT kws)) := fun p hp => by
  unfold frzK
  dsimp only
  rw [updG_same]
  dsimp only
  rw [offG_updG hp]; exact h
theorem frz_at {p : Addr} {ws : List W} (hp : G p = some (.lst ws)) (h : R (.fl ws) (offG G p)) : frzK R (.ref p) G := by
  unfold frzK
  dsimp only
  rw [hp]; exact h
theorem frz_atK {p : Addr} {kws : List (Key × W)} (hp : G p = some (.dK kws)) (h : R (.fdK kws) (offG G p)) : frzK R (.ref p) G := by
  unfold frzK
  dsimp only
  rw [hp]; exact h
theorem frz_atT {p : Addr} {kws : List (List Key × W)} (hp : G p = some (.dT kws)) (h : R (.fdT kws) (offG G p)) : frzK R (.ref p) G := by
  unfold frzK
  dsimp only
  rw [hp]; exact h
theorem frz_atI {p : Addr} {C : Str} {fs : List (Str × W)} (hp : G p = some (.ins C fs)) (h : R (.fo C fs) (offG G p)) : frzK R (.ref p) G := by
  unfold frzK
  dsimp only
  rw [hp]; exact h
end
/-- the step of it in a heap -/
theorem frz_step {K : PySem.W.Frag} {H : Hp} {G : GH} {R : KW} {w : W} {v : V} {Q : VK} (q : frzK R w G) (rv : RV K H v w) (rh : RH K H G)
    (k : ∀ w' G' H', R w' G' → FR G H G' H' → RV K H' v w' → RH K H' G' → Q v H') : Q v H ∨ ∃ p u, H p = some u ∧ Mut (some u) ∧ ∀ o, Q v (upd H p (.frz o u)) := by
  unfold frzK at q
  split at q
  · rename_i p
    cases rv
    split at q
    · rename_i ws e
      obtain ⟨vs, h1, rr⟩ := rh _ _ e
      exact .inr ⟨p, _, h1, trivial, fun o => k _ _ _ q (FR.lock e) (.fl (.inl ⟨o, upd_same⟩) (rr.mono (FR.lock e) rh)) (rh.lock e)⟩
    · rename_i kws e
      obtain ⟨vs, h1, rr⟩ := rh _ _ e
      exact .inr ⟨p, _, h1, trivial, fun o => k _ _ _ q (FR.lock e) (.fdK upd_same rr.keys (rr.vals.mono (FR.lock e) rh)) (rh.lock e)⟩
    · rename_i kws e
      obtain ⟨vs, h1, rr⟩ := rh _ _ e
      exact .inr ⟨p, _, h1, trivial, fun o => k _ _ _ q (FR.lock e) (.fdT upd_same rr.keys (rr.vals.mono (FR.lock e) rh)) (rh.lock e)⟩
    · rename_i C fs e
      obtain ⟨D, dx, vs, cc, h1, rr⟩ := rh _ _ e
      exact .inr ⟨p, _, h1, trivial, fun o => k _ _ _ q (FR.lock e) (.fo cc upd_same rr.keys (rr.vals.mono (FR.lock e) rh)) (rh.lock e)⟩
    · exact .inl (k _ _ _ q .refl (.ref _) rh)
  · exact .inl (k _ _ _ q .refl rv rh)
def tFz (T : TW) : TW := fun S G R => T S G (frzK R)
section
variable {X : Cx} {Z : GH × Hp} {e : Expr} {T : TW} {st : Stmt} {i : Nat}
theorem we_fz (h : WE X Z e T) : WE X Z e (tFz T) := (pe_lock h).weak fun σ H Q h => by
  obtain ⟨S, G, R, sr, t, k⟩ := h
  refine Lf.go sr t fun w G1 v H1 q f rv rh => ?_
  exact frz_step q rv rh fun w' G' H' q' f' rv' rh' => k _ _ _ _ q' (f.trans f') rv' rh'
theorem ps_lock {X : Cx} {st : Stmt} {t : TS} (h : PS X st t) : PS X st (fun D σ H => t { D with nx := fun σ1 H1 => D.nx σ1 H1 ∨ ∃ p u, H1 p = some u ∧ Mut (some u) ∧ ∀ o, D.nx σ1 (upd H1 p (.frz o u)) } σ H) :=
  ⟨fun pins s σ H D I q => wpAny_mono (h.run pins s σ H _ I q) (fun fl s' q => by
    cases fl with
    | next =>
      obtain ⟨σ1, H1, I1, q⟩ := q
      rcases q with q | ⟨p, u, hp, mu, q⟩
      · exact ⟨σ1, H1, I1, q⟩
      · obtain ⟨o, I2⟩ := I1.lock hp mu
        exact ⟨σ1, _, I2, q o⟩
    | brk => exact q
    | cont => exact q
    | ret v => exact q) (fun _ _ z => z)⟩
end
section
variable {X : Cx} {Z : GH × Hp} {pos : Pos} {K : PySem.W.Frag}
/-- name = [..] on one line, a tree -/
theorem ws_setCF {i : Nat} {y : Str} {py : Pos} {elt tg iter : Expr} {ifs : List Expr} {scope : Scope} {own : List (Str × Nat)} {spos : Pos} {ti : TIW} {gh : TG} {g : TGW} {tt : TWT} {te : TW} (hc : X.calm = true) (hN : X.N.Nodup) (hy : X.N[i]? = some y) (hyl : X.env.scope.names.lookup y = some .local)
    (hsw : swapsWith (.ListComp elt [⟨tg, iter, ifs, 0⟩] scope pos) (some (.Name y py)) spos.line X.env = pure true) (hi : WI X Z tg iter ti) (ok : BlkOk X.N X.env.scope scope own)
    (gok : GOk X.K Z gh g (own.map (·.2)))
    (hg : ∀ (s : Shared) (H : Hp) (C : Addr) (cl : List (Str × Addr)) (fp : List Addr), PG (X.blk s H scope (compEnvC scope cl C X.env) fp) tg gh) (ht : ∀ (s : Shared) (H : Hp) (C : Addr) (cl : List (Str × Addr)) (fp : List Addr), PTsW (X.blk s H scope (compEnvC scope cl C X.env) fp) Z ifs tt)
    (he : ∀ (s : Shared) (H : Hp) (C : Addr) (cl : List (Str × Addr)) (fp : List Addr), WE (X.blk s H scope (compEnvC scope cl C X.env) fp) Z elt te) (hs : ∀ x, foldedSetIterable iter X.env x = pure x := by intro _; rfl) :
    WS X Z (.Assign [.Name y py] (.ListComp elt [⟨tg, iter, ifs, 0⟩] scope pos) spos) (sSet i (tFz (tComp ti g tt te (own.map (·.2))))) := (ps_lock (ps_setLc (tt := LfT X.K Z tt) (te := Lf X.K Z te) hc hN hy hyl hsw hi ok hg ht he hs)).weak fun D σ H h => by
  obtain ⟨S, G, DW, sr, t, l⟩ := h
  refine lfComp gok σ H _ (Lf.go sr t fun w G1 v H1 q f1 r1 h1 => ?_)
  exact frz_step (Q := fun v H => D.nx (σ.set i (some v)) H) q r1 h1 fun w' G' H' q' f' r' h' => l.nx _ _ _ _ q' ((sr.next (f1.trans f') h').set r') (f1.trans f')
end

/-! ### a def's end: what was made there is forgotten -/
/-- G' names no more than G and as G does -/
def fgt (R : KW) : KW := fun w G' => ∃ G0 : GH, ExtG G0 G' ∧ R w G0
theorem ret {R : KW} {w : W} {G : GH} (q : R w G) : fgt R w G := ⟨G, .refl, q⟩
theorem ret_ext {R : KW} {w : W} {G G' : GH} (x : ExtG G G') (q : R w G) : fgt R w G' := ⟨G, x, q⟩
theorem FR.fgt {G G0 G' : GH} {H H' : Hp} (f : FR G H G' H') (x : ExtG G0 G') : FR G H G0 H' := f.weak fun a e => by
  cases h : G0 a with
  | none => rfl
  | some o => rw [x _ _ h] at e; cases e
theorem RH.fgt {K : PySem.W.Frag} {G0 G' : GH} {H' : Hp} (r : RH K H' G') (x : ExtG G0 G') : RH K H' G0 := r.weak x
section
variable {P : Program} {w : World} {K : PySem.W.Frag} {mg : Str → Option Value} {base : Heap} {x qual : Str} {st : Stmt} {f : Addr} {fd : FuncData} {N ps : List Str} {k : Nat} {Q : SpW}
theorem LK.fgt {K : PySem.W.Frag} {G : GH} {H : Hp} {R : KW} {Qv : VK} (kl : LK K G H R Qv) : LK K G H (fgt R) Qv := fun w G' v H' ⟨G0, x, q⟩ f rv rh => kl w G0 v H' q (f.fgt x) rv (rh.fgt x)
theorem okF (F : Fun K x qual st f fd) (S : FnScope N ps (defScope st)) (len : ∀ ws G R RX, Q ws G R RX → ws.length = ps.length)
    (hbody : ∀ (cdv : Value) (A : Around) (outer : List Env) (s : Shared) (H : Hp) (E : XK) (ws : List W) (G : GH) (R : KW) (RX : XW), A.guards = some [] → Room k (A.deeper (envOfC qual (defScope st) s.heap.objs.size f cdv)) → Q ws G R RX →
      ∃ T : TWS, WSs (cxOf CX0 P w K mg base N qual (defScope st) f cdv A outer s H E).nox (G, H) (defBody st) T ∧ T { nx := fun _ G' => fgt R .non G', rt := fgt R } (startW N ws) G) : FnG P w K mg base CX0 (k + 1) f fd ps (spL K Q) := by
  refine fn_g F S (fun vs H R E h => ?_) fun cdv A outer s H vs Qv E hgd hr h => ?_
  · obtain ⟨ws, G, R, RX, rs, rh, t, _⟩ := h
    rw [rs.length]; exact len ws G R RX t
  · obtain ⟨ws, G, R, RX, rs, rh, t, kl, kx⟩ := h
    obtain ⟨T, hT, q⟩ := hbody cdv A outer s H E ws G R RX hgd hr t
    have kl := kl.fgt
    refine ⟨_, PSs.nox hT, startW N ws, G, _, ⟨.refl, ?_, rh⟩, q, ⟨fun S' G' σ' H' d sr f => kl _ _ _ _ d f .non sr.rh, fun w G' v H' d f rv rh' => kl _ _ _ _ d f rv rh', fun _ _ _ _ d => d.elim, fun _ _ _ _ d => d.elim⟩⟩
    unfold L2.start startW
    rw [← rs.length]
    exact Paired.app (startW_ok rs) (Paired.reps (fun w e => by cases e) _)
/-- .. that may raise -/
theorem okFX (F : Fun K x qual st f fd) (S : FnScope N ps (defScope st)) (len : ∀ ws G R RX, Q ws G R RX → ws.length = ps.length)
    (hbody : ∀ (cdv : Value) (A : Around) (outer : List Env) (s : Shared) (H : Hp) (E : XK) (ws : List W) (G : GH) (R : KW) (RX : XW), A.guards = some [] → Room k (A.deeper (envOfC qual (defScope st) s.heap.objs.size f cdv)) → XL K G H RX E → Q ws G R RX →
      ∃ T : TWS, WSs (cxOf (L2.CX P w) P w K mg base N qual (defScope st) f cdv A outer s H E) (G, H) (defBody st) T ∧ T { nx := fun _ G' => fgt R .non G', rt := fgt R } (startW N ws) G) : FnG P w K mg base (L2.CX P w) (k + 1) f fd ps (spL K Q) := by
  refine fn_g F S (fun vs H R E h => ?_) fun cdv A outer s H vs Qv E hgd hr h => ?_
  · obtain ⟨ws, G, R, RX, rs, rh, t, _⟩ := h
    rw [rs.length]; exact len ws G R RX t
  · obtain ⟨ws, G, R, RX, rs, rh, t, kl, kx⟩ := h
    obtain ⟨T, hT, q⟩ := hbody cdv A outer s H E ws G R RX hgd hr kx t
    have kl := kl.fgt
    refine ⟨_, hT, startW N ws, G, _, ⟨.refl, ?_, rh⟩, q, ⟨fun S' G' σ' H' d sr f => kl _ _ _ _ d f .non sr.rh, fun w G' v H' d f rv rh' => kl _ _ _ _ d f rv rh', fun _ _ _ _ d => d.elim, fun _ _ _ _ d => d.elim⟩⟩
    unfold L2.start startW
    rw [← rs.length]
    exact Paired.app (startW_ok rs) (Paired.reps (fun w e => by cases e) _)
end
end WL
set_option Elab.async false
set_option linter.all false
set_option maxRecDepth 100000
set_option maxHeartbeats 4000000
/-! WL, part y: comparisons, repr and in at which the stepping stops. -/
namespace WL
open PySem PySem.Spec PyProof.Rows L2 PySem.W
structure EqS (n : Bool) (w1 w2 : W) (G : GH) (R : KW) : Prop where
  h : eqW n w1 w2 G R
def eqQ (n : Bool) : R2W := fun w1 w2 G R => match w1, w2 with
  | .int a, .int b => R (.bl (n != decide (a = b))) G
  | x, y => EqS n x y G R
theorem eqQ_eqW {n : Bool} {w1 w2 : W} {G : GH} {R : KW} (h : eqQ n w1 w2 G R) : eqW n w1 w2 G R := by
  unfold eqQ at h
  split at h
  · exact h
  · exact h.h
structure InS (n : Bool) (w1 w2 : W) (G : GH) (R : KW) : Prop where
  h : inW n w1 w2 G R
def inQ (n : Bool) : R2W := fun w1 w2 G R => match w2 with
  | .fdK kws => inW n w1 (.fdK kws) G R
  | .fdT kws => inW n w1 (.fdT kws) G R
  | y => InS n w1 y G R
theorem inQ_inW {n : Bool} {w1 w2 : W} {G : GH} {R : KW} (h : inQ n w1 w2 G R) : inW n w1 w2 G R := by
  unfold inQ at h
  split at h
  · exact h
  · exact h
  · exact h.h
structure ReprS (w : W) (G : GH) (R : KW) : Prop where
  h : reprW [w] G R
def reprQ : CW := fun ws G R => match ws with
  | [w] => ReprS w G R
  | _ => False
theorem reprQ_reprW {ws : List W} {G : GH} {R : KW} (h : reprQ ws G R) : reprW ws G R := by
  match ws, h with
  | [w], h => exact h.h
section
variable {X : Cx}
theorem l2.weak {K : PySem.W.Frag} {r r' : R2W} (h : ∀ w1 w2 G R, r' w1 w2 G R → r w1 w2 G R) {x y : V} {H : Hp} {Q : VK} (q : l2 K r' x y H Q) : l2 K r x y H Q := by
  obtain ⟨w1, w2, G, R, r1, r2, rh, t, k⟩ := q
  exact ⟨w1, w2, G, R, r1, r2, rh, h _ _ _ _ t, k⟩
theorem OpW.weak {f : Value → Value → Sem Value} {r r' : R2W} (o : OpW X f r) (h : ∀ w1 w2 G R, r' w1 w2 G R → r w1 w2 G R) : OpW X f r' :=
  fun pins s σ H x y v u Q I rx ry q => o pins s σ H x y v u Q I rx ry (l2.weak h q)
theorem op_eqQ (hu : X.A.units + 64 < cLine) : OpW X (compareOp .Eq) (eqQ false) := (op_eqW hu).weak fun _ _ _ _ => eqQ_eqW
theorem op_neQ (hu : X.A.units + 64 < cLine) : OpW X (compareOp .NotEq) (eqQ true) := (op_neW hu).weak fun _ _ _ _ => eqQ_eqW
theorem op_inQ (hu : X.A.units + 65 < cLine) : OpW X (compareOp .In) (inQ false) := (op_inW hu).weak fun _ _ _ _ => inQ_inW
theorem op_notinQ (hu : X.A.units + 65 < cLine) : OpW X (compareOp .NotIn) (inQ true) := (op_notinW hu).weak fun _ _ _ _ => inQ_inW
theorem call_reprQ (hgd : X.A.guards = some []) (hu : X.A.units + 70 < cLine) : CallW X (.builtin "repr") reprQ := fun pins s σ H xs us Q I r q => by
  obtain ⟨ws, G, R, rs, rh, t, k⟩ := q
  exact call_reprW hgd hu pins s σ H xs us Q I r ⟨ws, G, R, rs, rh, reprQ_reprW t, k⟩
end
/-- o[i] = v, of a list or a dict -/
def setQ : TSetW := fun o i v G R => match o with
  | .ref p => match G p with
    | some (.lst xs) => match i with
      | .int n => ∃ j, ixN xs.length n = some j ∧ R (updG G p (.lst (xs.set j v)))
      | _ => False
    | some (.dK kws) => match i.key? with
      | some k => kws.length < sizeLine ∧ R (updG G p (.dK (putW kws k v)))
      | none => False
    | some (.dT kws) => match i with
      | .tup ks => match keysOf ks with
        | some kk => kws.length < sizeLine ∧ R (updG G p (.dT (putW kws kk v)))
        | none => False
      | _ => False
    | _ => False
  | _ => False
theorem set_Q {X : Cx} (hu : X.A.units + 1 < cLine) : SetW X setQ := by
  intro pins s σ H x y z v u w Q I rx ry rz h
  obtain ⟨wo, wi, wv, G, R, r1, r2, r3, rh, t, k⟩ := h
  unfold setQ at t
  split at t
  · rename_i p
    cases r1
    cases (show v = Value.ref p from rx)
    split at t
    · rename_i xs e
      split at t
      · rename_i n
        obtain ⟨j, hj, t⟩ := t
        cases r2
        obtain ⟨vs, h1, rs⟩ := rh _ _ e
        have ro : RO X.K (upd H p (.lst (vs.set j z))) p (.lst (xs.set j wv)) := ⟨_, upd_same, (RVs.set r3 j rs).mono (FR.put (o := .lst []) e) rh⟩
        exact set_list pins s σ H (.ref p) _ z _ u w Q I rfl ry rz ⟨p, vs, n, j, rfl, rfl, h1, by rw [rs.length]; exact hj, k _ _ t (.put e) (rh.put e ro)⟩
      · exact t.elim
    · rename_i kws e
      split at t
      · rename_i kk ek
        obtain ⟨hl, t⟩ := t
        obtain ⟨kvs, h1, rs⟩ := rh _ _ e
        have e1 := key_of? ek
        subst e1
        have e2 := RV.key r2
        subst e2
        refine d_setItem (by omega) I (DPut.k h1 (by rw [rs.length]; exact hl)) ry rz fun s' I' => ⟨_, I', ?_⟩
        have ro : RO X.K (upd H p (.dK (putK kvs kk z))) p (.dK (putW kws kk wv)) := ⟨_, upd_same, RKV.mono (FR.put (o := .lst []) e) rh (rs.put r3)⟩
        exact k _ _ t (.put e) (rh.put e ro)
      · exact t.elim
    · rename_i kws e
      split at t
      · rename_i ks
        split at t
        · rename_i kk ek
          obtain ⟨hl, t⟩ := t
          obtain ⟨kvs, h1, rs⟩ := rh _ _ e
          cases r2 with
          | tup q rr =>
            have e1 := keys_of? ek
            subst e1
            have e2 := RVs.keys rr
            subst e2
            refine d_setItem (by omega) I (DPut.t h1 q (by rw [rs.length]; exact hl)) ry rz fun s' I' => ⟨_, I', ?_⟩
            have ro : RO X.K (upd H p (.dT (putK kvs kk z))) p (.dT (putW kws kk wv)) := ⟨_, upd_same, RKV.mono (FR.put (o := .lst []) e) rh (rs.put r3)⟩
            exact k _ _ t (.put e) (rh.put e ro)
        · exact t.elim
      · exact t.elim
    · exact t.elim
  · exact t.elim
section
variable {α : Type} [DecidableEq α] [DW α] {G : GH} {R : KW} {n : Bool} {w1 w2 : W} {p : Addr} {xs : List α}
theorem eqS_hd {γ : Type} [DecidableEq γ] [Datum γ] {a b : γ} (h1 : HD G w1 a) (h2 : HD G w2 b) (hd : Datum.depth γ ≤ 60) (k : R (.bl (n != decide (a = b))) G) : EqS n w1 w2 G R := ⟨eq_hd h1 h2 hd k⟩
theorem inS_lst {a : α} (h : G p = some (.lst (xs.map DW.w))) (hd : Datum.depth α ≤ 60) (k : R (.bl (n != decide (a ∈ xs))) G) : InS n (DW.w a) (.ref p) G R := ⟨in_lst h hd k⟩
theorem inS_tup {a : α} (hd : Datum.depth α ≤ 60) (k : R (.bl (n != decide (a ∈ xs))) G) : InS n (DW.w a) (.tup (xs.map DW.w)) G R := ⟨in_tup hd k⟩
theorem inS_fl {a : α} (hd : Datum.depth α ≤ 60) (k : R (.bl (n != decide (a ∈ xs))) G) : InS n (DW.w a) (.fl (xs.map DW.w)) G R := ⟨in_fl hd k⟩
end
theorem eq_bl {n : Bool} {x y : Bool} {G : GH} {R : KW} (k : R (.bl (n != decide (x = y))) G) : EqS n (.bl x) (.bl y) G R := eqS_hd (a := x) (b := y) (.bl x) (.bl y) (by decide) k
theorem eq_int {n : Bool} {x y : Int} {G : GH} {R : KW} (k : R (.bl (n != decide (x = y))) G) : eqQ n (.int x) (.int y) G R := k
theorem eq_str {n : Bool} {x y : Str} {G : GH} {R : KW} (k : R (.bl (n != decide (x = y))) G) : EqS n (.str x) (.str y) G R := ⟨k⟩
theorem ne_str {x y : Str} {G : GH} {R : KW} (e : x = y) (k : R (.bl false) G) : EqS true (.str x) (.str y) G R := by
  subst e
  refine ⟨?_⟩
  show R (.bl (true != decide (x = x))) G
  rw [decide_eq_true rfl]; exact k
theorem fbne : ∀ b : Bool, (false != b) = b := by decide
theorem tbne : ∀ b : Bool, (true != b) = !b := by decide
theorem eq_ints {n : Bool} {a c : List Int} {G : GH} {R : KW} (k : R (.bl (n != decide (a = c))) G) : EqS n (.tup (a.map W.int)) (.tup (c.map W.int)) G R := by
  refine eqS_hd (n := n) (a := (⟨a⟩ : PySem.W.Tup Int)) (b := ⟨c⟩) (hd_w _) (hd_w _) (by decide) ?_
  have e : decide ((⟨a⟩ : PySem.W.Tup Int) = ⟨c⟩) = decide (a = c) := by
    by_cases h : a = c
    · rw [decide_eq_true h, h, decide_eq_true rfl]
    · rw [decide_eq_false h, decide_eq_false fun z => h (congrArg PySem.W.Tup.items z)]
  rw [e]; exact k
theorem ne_ints {a c : List Int} {G : GH} {R : KW} (e : a = c) (k : R (.bl false) G) : EqS true (.tup (a.map W.int)) (.tup (c.map W.int)) G R :=
  eq_ints (by rw [decide_eq_true e]; exact k)
/-- the written form of a tuple of numbers -/
def shownI (a : List Int) : Str := (PyData.tuple (a.map .int)).shown
theorem repr_I {a : List Int} {G : GH} {R : KW} (h : ∀ l ∈ a, l.natAbs < 10 ^ 9) (hl : a.length ≤ 100000) (k : R (.str (shownI a)) G) : ReprS (.tup (a.map W.int)) G R := by
  obtain ⟨s1, s2, s3⟩ := shows_ints h hl
  exact ⟨_, .tup (PDs.ints _), s1, s2, s3, k⟩
end WL
set_option Elab.async false
set_option linter.all false
set_option maxRecDepth 100000
set_option maxHeartbeats 4000000
/-! WL, part ka: sorted(.., key=f), f a def that gives (len(x), x). -/
namespace WL
open PySem PySem.Spec PyProof.Rows L2 PySem.W

/-- what a def that returns (len(x), x) gives, called with a tuple -/
def LenTurn (P : Program) (w : World) (K : PySem.W.Frag) (mg : Str → Option Value) (base : Heap) (k : Nat) (f : Addr) : Prop :=
  ∀ (A : Around) (out : List Env) (s : Shared) (H : Hp) (a : Addr) (its : Array Value), Room k A → Env0 P w K mg base A out s H → IsTup s.heap a its → its.size ≤ sizeLine →
    wpAny (model P w) A (call (.ref f) [.ref a]) (fun v s' => ∃ h' tk t b, s' = { s with heap := h', toks := tk } ∧ (∀ c o, s.heap.get? c = some o → h'.get? c = some o) ∧ v = .ref b ∧ IsTup h' b #[.int its.size t, .ref a]) (fun _ _ => False) s
section
variable {P : Program} {w : World} {K : PySem.W.Frag} {mg : Str → Option Value} {base : Heap} {nm qual : Str} {st : Stmt} {f : Addr} {fd : FuncData} {N : List Str}
theorem len_turn {x : Str} {p1 p2 p3 p4 p5 p6 : Pos} {x1 : _} (F : Fun K nm qual st f fd) (S : FnScope [x] [x] (defScope st)) (hb : Binds K fd [x] [])
    (body : defBody st = [.Return (some (.Tuple [.Call (.Name "len" p1) [.Name x p2] [] p3, .Name x p4] x1 p5)) p6]) (hm : mg "len" = none)
    (hg : ∀ (cdv : Value) (A : Around) (out : List Env) (s : Shared) (H : Hp) (E : XK), Gl (cxOf CX0 P w K mg base [x] qual (defScope st) f cdv A out s H E) "len")
    (hv : Vis (defScope st) x) (hxd : (x == ("__debug__" : Str)) = false) (hxc : (x == ("__classdict__" : Str)) = false) : LenTurn P w K mg base 1 f := by
  intro A out s H a its hr e0 ht hz
  obtain ⟨oc, od, kV, doc, pm, an, cdv, ct, osl, rfl, lk, hcd⟩ := F.ex
  have kin : K.In s.heap := e0.mod.kin.keeps fun b o e => (e0.bs b o e).1
  have r : Vals [V.ref a] [Value.ref a] := .cons rfl .nil
  have places : ∀ y ∈ [x].zip [Value.ref a], (defScope st).names.lookup y.1 = some .local ∨ ((defScope st).names.lookup y.1 = some .cell ∧ ((cellsFrom (s.heap.objs.size + 1) (defScope st).names []).lookup y.1).isSome = true) := by
    rintro ⟨n, v⟩ hy
    have z := S.par n (List.of_mem_zip hy).1
    exact z.imp id fun q => ⟨q, PySem.W.cellsFrom_some _ _ _ (.inl q)⟩
  refine wpAny_call ?_
  refine codeAny_call_function hr.depth (kin _ _ lk) rfl S.co S.gen rfl (PySem.W.codeRec_of kin hcd) (hb s [.ref a] kin rfl _ _ _ _ (wpAny_newFunctionEnv_cells S.kind places fun env he s1 xx => ?_))
  subst he
  refine ⟨(e0.mod.nolimit.keeps fun b o e => (e0.bs b o e).1).keeps xx.toInCall.keep, codeAny_func ?_⟩
  have J0 : Inv (cxOf CX0 P w K mg base [x] qual (defScope st) f cdv A out s H fun _ _ _ => False) [] (start [x] [V.ref a]) H s1 := inv_start S hr.hd e0 rfl r xx
  have ht1 : IsTup s1.heap a its := by
    obtain ⟨o, h1, h2⟩ := ht
    exact ⟨o, xx.toInCall.keep _ _ h1, h2⟩
  obtain ⟨h1, tk1, es1, kp1⟩ := xx.done
  have ld : ∀ (pos : Pos) (s2 : Shared) (Q : Value → Shared → Prop) (E : Value → Shared → Prop), Inv (cxOf CX0 P w K mg base [x] qual (defScope st) f cdv A out s H fun _ _ _ => False) [] (start [x] [V.ref a]) H s2 → Q (.ref a) s2 →
      wpAny (model P w) (A.deeper (envOfC qual (defScope st) s.heap.objs.size f cdv)) (eval (.Name x pos) (envOfC qual (defScope st) s.heap.objs.size f cdv)) Q E s2 := fun pos s2 Q E I q => by
    obtain ⟨m, hn, hl⟩ := I.loc
    obtain ⟨u, r, l⟩ := hl 0 x (.ref a) rfl rfl hv
    cases (show u = Value.ref a from r)
    rcases l with ⟨hk, hm⟩ | ⟨hk, c, hc, hcell⟩
    · exact wpAny_Name (wpAny_loadName_local I.ok.kind hk hn hm q) hxd
    · rcases hk with hk | hk
      · exact wpAny_Name (wpAny_loadName_cell I.ok.kind hk hc hcell q) hxd
      · exact wpAny_Name (wpAny_loadName_free I.ok.kind hk hc hcell q hxc) hxd
  rw [body]
  refine wpAny_execs_cons (wpAny_Return_some (wpAny_Tuple_spliced ?_))
  refine Calls.spliced_cons ?_
  refine wpAny_Call_Name_kw (ld_blt J0 (hg cdv A out s H _) hm bt_len ?_)
  refine PyProof.Rows.callWith_builtin1 ?_ (by rfl) (by rfl)
  refine Calls.spliced_cons (ld p2 s1 _ _ J0 (Calls.spliced_nil ?_))
  refine len_tuple ht1 ?_ ?_
  · have := sizeLine_eq; have : its.size ≤ 16777216 := by rw [← this]; exact hz
    omega
  have J1 := J0.tok (s1.toks + 1 + 1)
  refine Calls.spliced_cons (ld p4 _ _ _ J1 (Calls.spliced_nil ?_))
  refine ⟨by simp [sizeLine_eq], ?_⟩
  subst es1
  exact ⟨_, _, _, _, rfl, fun c o e => Heap.get?_push_of_some _ (kp1 c o e), rfl, ⟨_, Heap.get?_push_size _ rfl, rfl, _, rfl⟩⟩
end
/-! ### the rule -/
/-- tuples of ints, the shorter ones first, those of one length in order -/
def lenKey (b : List Int) : PyData := .tuple [.int b.length, .tuple (b.map .int)]
def byLen (bs : List (List Int)) : List (List Int) := bs.mergeSort (dataLe false lenKey)
theorem byLen_perm (bs : List (List Int)) : (byLen bs).Perm bs := List.mergeSort_perm bs _
abbrev TupAt (H : Hp) (p : Addr) (b : List Int) : Prop := H p = some (.tup (b.map V.int))
def TupsAt (K : PySem.W.Frag) (H : Hp) (a : Addr) (bs : List (List Int)) : Prop :=
  (∃ as : List Addr, (SqL K H a (as.map V.ref) ∨ SqT K H a (as.map V.ref)) ∧ Paired (TupAt H) as bs) ∨ ∃ kvs : List (List Key × V), Rd H a (.dT kvs) ∧ kvs.map (·.1) = bs.map (·.map Sum.inl)
theorem each_refs {H : Hp} : ∀ {as : List Addr} {bs : List (List Int)} {us : List Value}, Vals (as.map V.ref) us → Paired (TupAt H) as bs → EachIs (fun v b => ∃ p, v = Value.ref p ∧ TupAt H p b) us bs
  | [], _, _, .nil, .nil => .nil
  | a :: as, _, _, .cons r rs, .cons q t => by
    cases (show _ = Value.ref a from r)
    exact .cons ⟨a, rfl, q⟩ (each_refs rs t)
theorem refs_each {H : Hp} : ∀ {us : List Value} {bs : List (List Int)}, EachIs (fun v b => ∃ p, v = Value.ref p ∧ TupAt H p b) us bs → ∃ ps : List Addr, Vals (ps.map V.ref) us ∧ Paired (TupAt H) ps bs
  | _, _, .nil => ⟨[], .nil, .nil⟩
  | _, _, .cons ⟨p, e, h⟩ t => by
    obtain ⟨ps, h1, h2⟩ := refs_each t
    exact ⟨p :: ps, .cons e h1, .cons h h2⟩
theorem dt_rd {P : Program} {w : World} {H : Hp} {h : Heap} {a : Addr} {kvs : List (List Key × V)} (x : HOk P w H h) (r : Rd H a (.dT kvs)) :
    kvs.length ≤ sizeLine ∧ (a == sysModules) = false ∧ ∃ o es ep, h.get? a = some o ∧ o.ExactDict ∧ o.data = .dict es ep ∧ es.size = kvs.length ∧
      ∀ (i : Nat) (k : List Key) (v : V), kvs[i]? = some (k, v) → ∃ (en : DictEntry) (q : Addr), es[i]? = some en ∧ en.key = .ref q ∧ H q = some (.tup (k.map kV)) := by
  obtain ⟨z, hs, xs, pr, o, es, ep, ho, hx, hdt, he, _⟩ := r.ok x
  refine ⟨z, hs, o, es, ep, ho, hx, hdt, ?_, fun i k v e => ?_⟩
  · have l1 : es.size = xs.length := size_of_entries he
    have l2 : kvs.length = xs.length := Paired.length pr
    omega
  · obtain ⟨b, hb, e1, e2, _⟩ := paired_get pr e
    have q := entry_at he i
    rw [hb] at q
    exact ⟨_, b.2.1, q, rfl, e2⟩
theorem each_of_get {R : Value → List Int → Prop} : ∀ {us : List Value} {bs : List (List Int)}, us.length = bs.length → (∀ (j : Nat) (v : Value), us[j]? = some v → ∃ b, bs[j]? = some b ∧ R v b) → EachIs R us bs
  | [], [], _, _ => .nil
  | u :: us, b :: bs, hl, h => by
    obtain ⟨c, e, r⟩ := h 0 u rfl
    cases e
    exact .cons r (each_of_get (by simpa using hl) fun j v e => h (j + 1) v e)
section
variable {X : Cx} {Z : GH × Hp} {e : Expr} {te : TE} {Ta : TW} {pos p p2 kpos : Pos}
theorem tups_collect {pins : List (Addr × Obj)} {σ : L2.St} {H : Hp} {s : Shared} {a : Addr} {bs : List (List Int)} {E : Value → Shared → Prop} (I : Inv X pins σ H s) (hc : X.A.handled = none) (h : TupsAt X.K H a bs) :
    bs.length ≤ sizeLine ∧ ∀ R : List Value → Shared → Prop, (∀ us h' tk, (∀ b o, s.heap.get? b = some o → h'.get? b = some o) → EachIs (fun v b => ∃ p, v = Value.ref p ∧ TupAt H p b) us bs → R us { s with heap := h', toks := tk }) → wpAny (model X.prog X.w) X.A.in1 (collect (.ref a)) R E s := by
  rcases h with ⟨as, h | h, pr⟩ | ⟨kvs, hd, hk⟩
  · obtain ⟨its, r, ⟨o, n, ho, hcl, hdn, hdat⟩, hz⟩ := I.list h
    have l1 : as.length = bs.length := Paired.length pr
    have l2 := r.length
    refine ⟨by rw [← l1]; simpa using hz, fun R k => wpAny_collect_seq a (.inl rfl) ho hcl hdat (fun h' kp => k _ h' s.toks kp (by simpa using each_refs r pr)) (by rw [List.size_toArray, ← l2]; exact hz)⟩
  · obtain ⟨its, r, ⟨o, ho, hcl, n, hdat⟩, hz⟩ := I.tuple h
    have l1 : as.length = bs.length := Paired.length pr
    have l2 := r.length
    refine ⟨by rw [← l1]; simpa using hz, fun R k => wpAny_collect_seq a (.inr rfl) ho hcl hdat (fun h' kp => k _ h' s.toks kp (by simpa using each_refs r pr)) (by rw [List.size_toArray, ← l2]; exact hz)⟩
  · obtain ⟨z, hs, o, es, ep, ho, hx, hdt, hsz, ent⟩ := dt_rd I.hok hd
    have l1 : kvs.length = bs.length := by
      have := congrArg List.length hk
      simpa using this
    refine ⟨by omega, fun R k => PySem.W.kdu_collect (kdl_raw hs hx hdt) hc ho (by omega) fun h' tk acc kp hacc => k _ h' tk kp ?_⟩
    have e1 : acc.toList.length = bs.length := by rw [Array.length_toList, hacc.1, hsz, l1]
    refine each_of_get e1 fun j v e => ?_
    obtain ⟨en, h1, rfl⟩ := hacc.2 j v (by rw [← Array.getElem?_toList]; exact e)
    have hj : j < kvs.length := by rw [← hsz]; exact (Array.getElem?_eq_some_iff.mp h1).1
    obtain ⟨en', q, h2, h3, h4⟩ := ent j (kvs[j]).1 (kvs[j]).2 (List.getElem?_eq_getElem hj)
    rw [h1] at h2
    cases h2
    have e3 : (bs.map (·.map Sum.inl))[j]? = some (kvs[j]).1 := by rw [← hk, List.getElem?_map, List.getElem?_eq_getElem hj]; rfl
    rw [List.getElem?_map] at e3
    cases e4 : bs[j]? with
    | none => rw [e4] at e3; cases e3
    | some b =>
      rw [e4] at e3
      have e5 : b.map Sum.inl = (kvs[j]).1 := Option.some.inj e3
      refine ⟨b, rfl, q, h3, ?_⟩
      show H q = _
      rw [h4, ← e5, List.map_map]; rfl
theorem len_alike (bs : List (List Int)) (h : ∀ b ∈ bs, b.length ≤ 1000000) : True := trivial
def tSortLen (K : PySem.W.Frag) (te : TE) : TE := fun σ H Q => tCons te tNil σ H fun vs H1 => ∃ a bs, vs = [.ref a] ∧ TupsAt K H1 a bs ∧ (AllAlike (bs.map lenKey) ∧ ∀ b ∈ bs, b.length ≤ sizeLine) ∧
  ∀ q ps, H1 q = none → Paired (TupAt H1) ps (byLen bs) → Q (.ref q) (upd H1 q (.lst (ps.map V.ref)))
theorem pe_sortLen {f : Addr} {kx : Str} (T : LenTurn X.prog X.w X.K X.mg X.base 1 f) (hr : Room 3 X.A) (hc : X.calm = true) (hg : Gl X "sorted") (hm : X.mg "sorted" = none) (hg2 : Gl X kx) (hm2 : X.mg kx = some (.ref f)) (hd2 : (kx == ("__debug__" : Str)) = false)
    (he : PE X e te) (hs : starEach [e] X.env = (false, eval e X.env) :: starEach [] X.env := by rfl)
    (h1 : backTo pos (starEach [e] X.env) = (false, eval e X.env) :: backTo pos (starEach [] X.env) := by rfl) (h2 : (backTo pos (starEach [e] X.env)).any (·.1) = false := by rfl) : PE X (.Call (.Name "sorted" p) [e] [⟨some "key", .Name kx p2, kpos⟩] pos) (tSortLen X.K te) := by
  refine ⟨fun pins s σ H Q I h => ?_⟩
  refine wpAny_Call_Name_kw (ld_blt I hg hm bt_sorted ?_)
  refine PyProof.Rows.callWith_kw (thn ((pa_cons he pa_nil hs).run pos pins s σ H _ I h) fun us s1 ⟨vs, H1, I1, r1, a, bs, ev, hi, ⟨hal, hbl⟩, q⟩ => ?_) h1 h2 (by rfl) (by rfl)
  subst ev
  show wpAny _ _ (evalAll [(do let v ← eval (.Name kx p2) X.env; standAt pos; pure v)]) _ _ s1
  refine wpAny_evalAll_cons (wpAny_bind (ld_glob I1 hg2 hm2 (wpAny_bind (wpAny_standAt (wpAny_pure (wpAny_evalAll_nil ?_)))) hd2))
  cases r1 with
  | cons ra rb =>
    cases rb
    cases ra
    obtain ⟨hz, coll⟩ := tups_collect I1 (I1.ok.hd hc) hi
    refine call_function_entry_kw kind_sorted plain_sorted entry_sorted (ksk_s1 _ _) ?_
    unfold Builtin.«sorted»
    refine wpAny_bind (m := checkCount "sorted" 1 1 _) (wpAny_pure ?_)
    refine wpAny_bind (coll _ fun us g1 tk kp hei => ?_)
    have hul : us.length ≤ sizeLine := by rw [hei.length]; exact hz
    have J1 : Inv X pins σ H1 { s1 with heap := g1 } := I1.kept (t' := s1.toks) kp
    refine wpAny_bind (wpAny_newList ?_ hul)
    refine wpAny_bind (wpAny_holding ?_)
    have un := hr.un
    refine list_sort_key_data (β := List Int) (b := false) lenKey (Heap.get?_push_size _ rfl) hei hal ?_ hz (fun b hb => ?_) (ksk_l1 _ _) (ksk_t1 _ _) (fun v b ⟨p, ev, hp⟩ hb h tk kph => ?_) fun out c h' tk2 kp2 g2 len each => ?_
    · exact Sortable.tuples fun b => ⟨_, _, rfl⟩
    · have : (lenKey b).depth ≤ 2 := by
        unfold lenKey
        rw [PyData.depth]
        simp only [PyData.depthAll, PyData.depth, WL.depthAll_ints]
        omega
      show X.A.units + 1 + 1 + _ < cLine
      omega
    · subst ev
      have keep : ∀ c o, s1.heap.get? c = some o → h.get? c = some o := fun c o e => by
        have e1 := kp c o e
        exact kph c o (Nat.ne_of_lt (Heap.lt_size e1)) (Heap.get?_push_of_some _ e1)
      have J2 : Inv X pins σ H1 { s1 with heap := h, toks := tk } := I1.kept keep
      obtain ⟨zb, its, rv, ist⟩ := J2.hok p _ hp
      have e0 := J2.env0
      have li := rv.length
      have := hbl b hb
      refine wpAny_mono (T X.A.in1.in1 X.stack _ H1 p its.toArray ((hr.in1).in1) ⟨e0.frames, e0.mod, e0.bs, e0.bsz, e0.funs, e0.frf, e0.hok, e0.bare⟩ ist (by rw [List.size_toArray, ← li]; exact zb)) (fun v s' hq => ?_) fun _ _ z => z
      obtain ⟨h3, tk3, t, b3, rfl, k3, rfl, it3⟩ := hq
      refine ⟨h3, tk3, rfl, k3, ?_⟩
      obtain ⟨o3, g3, c3, n3, d3⟩ := it3
      have li2 : its.length = b.length := by rw [← li]; simp
      have rd : Reads h3 (.ref p) (.tuple (b.map .int)) [] := by
        obtain ⟨o4, g4, c4, n4, d4⟩ := ist
        refine .tuple (k3 _ _ g4) c4 d4 ?_
        have : ∀ {vs : List Int} {us : List Value}, Vals (vs.map V.int) us → ReadsAll h3 us (vs.map .int) [] := by
          intro vs
          induction vs with
          | nil => intro us r; cases r; exact .nil
          | cons x vs ih =>
            intro us r
            cases r with
            | cons r rs =>
              obtain ⟨t, rfl⟩ := r
              exact .cons (as := []) (.int x t) (ih rs)
        simpa using this rv
      show Reads h3 (.ref b3) (.tuple [.int b.length, .tuple (b.map .int)]) []
      refine .tuple g3 c3 d3 ?_
      rw [List.size_toArray, li2]
      exact .cons (as := []) (.int _ _) (.cons (as := []) rd .nil)
    · obtain ⟨ps, hv, hp⟩ := refs_each each
      refine wpAny_pure ?_
      have k2 : ∀ b o, g1.get? b = some o → h'.get? b = some o := fun b o e => kp2 b o (Nat.ne_of_lt (Heap.lt_size e)) (Heap.get?_push_of_some _ e)
      have hl : (ps.map V.ref).length ≤ sizeLine := by
        rw [List.length_map, Paired.length hp]
        show (byLen bs).length ≤ sizeLine
        rw [(byLen_perm bs).length_eq]; exact hz
      refine ⟨_, rfl, .ref g1.objs.size, upd H1 g1.objs.size (.lst (ps.map V.ref)), J1.laid (t' := tk2) k2 (Nat.le_refl _) ⟨hl, out, c, hv, g2⟩, rfl, q _ ps (J1.hok.fresh (Nat.le_refl _)) hp⟩
/-! ### as a reading -/
def tupsOf : List W → Option (List (List Int))
  | [] => some []
  | .tup ws :: r => match intsOf ws, tupsOf r with
    | some ns, some bs => some (ns :: bs)
    | _, _ => none
  | _ :: _ => none
theorem tupsOf_map : ∀ bs : List (List Int), tupsOf (bs.map fun b => .tup (b.map W.int)) = some bs
  | [] => rfl
  | b :: bs => by
    show (match intsOf (b.map W.int), tupsOf (bs.map fun b => .tup (b.map W.int)) with | some ns, some bs => some (ns :: bs) | _, _ => none) = _
    rw [intsOf_map, tupsOf_map bs]
theorem tups_of : ∀ {ws : List W} {bs : List (List Int)}, tupsOf ws = some bs → ws = bs.map fun b => .tup (b.map W.int)
  | [], bs, h => by cases h; rfl
  | w :: ws, bs, h => by
    cases w with
    | tup xs =>
      unfold tupsOf at h
      split at h
      · rename_i ns bs' e1 e2
        cases h
        rw [List.map_cons, ints_of e1, tups_of e2]
      · cases h
    | _ => cases h
def ktup (ks : List Key) : W := .tup (ks.map kW)
def tupsIn (w : W) (G : GH) : Option (List (List Int)) := match w with
  | .tup xs => tupsOf xs
  | .fl xs => tupsOf xs
  | .fdT kws => tupsOf (kws.map fun k => ktup k.1)
  | .ref p => match G p with
    | some (.lst xs) => tupsOf xs
    | some (.dT kws) => tupsOf (kws.map fun k => ktup k.1)
    | _ => none
  | _ => none
theorem kw_ints : ∀ {ks : List Key} {b : List Int}, ks.map kW = b.map W.int → ks = b.map Sum.inl
  | [], [], _ => rfl
  | [], _ :: _, h => by cases h
  | _ :: _, [], h => by cases h
  | k :: ks, n :: b, h => by
    rw [List.map_cons, List.map_cons] at h
    injection h with h1 h2
    rw [List.map_cons, kw_ints h2]
    cases k with
    | inl i => cases h1; rfl
    | inr x => cases h1
theorem kws_tups {kvs : List (List Key × V)} {kws : List (List Key × W)} {bs : List (List Int)} (e : kvs.map (·.1) = kws.map (·.1)) (h : tupsOf (kws.map fun k => ktup k.1) = some bs) : kvs.map (·.1) = bs.map (·.map Sum.inl) := by
  rw [e]
  have := tups_of h
  clear e h
  induction kws generalizing bs with
  | nil => cases bs with
    | nil => rfl
    | cons b bs => cases this
  | cons kw kws ih =>
    cases bs with
    | nil => cases this
    | cons b bs =>
      rw [List.map_cons, List.map_cons] at this ⊢
      injection this with e1 e2
      rw [ih e2]
      unfold ktup at e1
      injection e1 with e1
      rw [kw_ints e1]
theorem rvs_tups {K : PySem.W.Frag} {H : Hp} : ∀ {bs : List (List Int)} {vs : List V}, RVs K H vs (bs.map fun b => W.tup (b.map W.int)) → ∃ as : List Addr, vs = as.map V.ref ∧ Paired (TupAt H) as bs
  | [], _, .nil => ⟨[], rfl, .nil⟩
  | b :: bs, _, .cons r t => by
    obtain ⟨as, rfl, p⟩ := rvs_tups t
    cases r with
    | @tup a _ _ q rs =>
      rw [rs.ints] at q
      exact ⟨a :: as, rfl, .cons q p⟩
theorem tups_rvs {K : PySem.W.Frag} {H : Hp} : ∀ {bs : List (List Int)} {as : List Addr}, Paired (TupAt H) as bs → RVs K H (as.map V.ref) (bs.map fun b => W.tup (b.map W.int))
  | [], _, .nil => .nil
  | b :: bs, _, .cons r t => .cons (.tup r (RVs.of_ints b)) (tups_rvs t)
theorem tups_at {K : PySem.W.Frag} {H : Hp} {G : GH} {w : W} {v : V} {bs : List (List Int)} (h : tupsIn w G = some bs) (rv : RV K H v w) (rh : RH K H G) : ∃ a, v = .ref a ∧ TupsAt K H a bs := by
  unfold tupsIn at h
  cases w with
  | tup xs =>
    cases rv with
    | tup q rs =>
      have e := tups_of h; subst e
      obtain ⟨as, rfl, p⟩ := rvs_tups rs
      exact ⟨_, rfl, .inl ⟨as, .inr (SqT.of q), p⟩⟩
  | fl xs =>
    cases rv with
    | fl q rs =>
      have e := tups_of h; subst e
      obtain ⟨as, rfl, p⟩ := rvs_tups rs
      exact ⟨_, rfl, .inl ⟨as, .inl q.seq, p⟩⟩
  | fdT kws =>
    cases rv with
    | @fdT a ob kvs _ h1 e r => exact ⟨a, rfl, .inr ⟨kvs, .inr ⟨ob, h1⟩, kws_tups e h⟩⟩
  | ref p =>
    cases rv
    dsimp only at h
    split at h
    · rename_i xs eg
      obtain ⟨vs, hv, rs⟩ := rh _ _ eg
      have e := tups_of h; subst e
      obtain ⟨as, rfl, p⟩ := rvs_tups rs
      exact ⟨_, rfl, .inl ⟨as, .inl (SqL.of hv), p⟩⟩
    · rename_i kws eg
      obtain ⟨kvs, hv, rr⟩ := rh _ _ eg
      exact ⟨_, rfl, .inr ⟨kvs, .inl hv, kws_tups (RKV.keys rr) h⟩⟩
    · cases h
  | _ => cases h
theorem alike_ints : ∀ a b : List Int, alikeAll (a.map .int) (b.map .int) = true
  | [], _ => rfl
  | _ :: _, [] => rfl
  | x :: a, y :: b => by
    rw [List.map_cons, List.map_cons, alikeAll, alike_ints a b]; rfl
theorem alike_len (a b : List Int) : alike (lenKey a) (lenKey b) = true := by
  unfold lenKey
  simp only [alike, alikeAll, alike_ints, Bool.and_self]
def tSortLenW (Ta : TW) : TW := fun S G R => Ta S G fun w G1 => match tupsIn w G1 with
  | some bs => (∀ b ∈ bs, b.length ≤ sizeLine) ∧ ∀ p, G1 p = none → R (.ref p) (updG G1 p (.lst ((byLen bs).map fun b => .tup (b.map W.int))))
  | none => False
/-- a module's def that gives (len(x), x) -/
structure KeyDef (P : Program) (w : World) (K : PySem.W.Frag) (mg : Str → Option Value) (base : Heap) (x : Str) : Prop where
  ex : ∃ f, LenTurn P w K mg base 1 f ∧ mg x = some (.ref f)
theorem we_sortLen {k : Nat} {kx : Str} (D : KeyDef X.prog X.w X.K X.mg X.base kx) (hr : Room k X.A) (hk : 3 ≤ k) (hc : X.calm = true) (hg : Gl X "sorted") (hm : X.mg "sorted" = none) (hg2 : Gl X kx) (hd2 : (kx == ("__debug__" : Str)) = false)
    (he : WE X Z e Ta) (hs : starEach [e] X.env = (false, eval e X.env) :: starEach [] X.env := by rfl)
    (h1 : backTo pos (starEach [e] X.env) = (false, eval e X.env) :: backTo pos (starEach [] X.env) := by rfl) (h2 : (backTo pos (starEach [e] X.env)).any (·.1) = false := by rfl) : WE X Z (.Call (.Name "sorted" p) [e] [⟨some "key", .Name kx p2, kpos⟩] pos) (tSortLenW Ta) := by
  obtain ⟨f, T, hm2⟩ := D.ex
  refine (pe_sortLen T (hr.mono hk) hc hg hm hg2 hm2 hd2 he hs h1 h2).weak fun σ H Q h => ?_
  obtain ⟨S, G, R, sr, t, k⟩ := h
  refine Lf.go sr t fun w G1 v H1 t1 f1 r1 h1 => ?_
  split at t1
  · rename_i bs en
    obtain ⟨a, rfl, hi⟩ := tups_at en r1 h1
    refine ⟨a, bs, rfl, hi, ⟨AllAlike.of alike_len, t1.1⟩, fun q ps hq hp => ?_⟩
    exact k _ _ _ _ (t1.2 q (h1.free hq)) (f1.trans (.newG hq)) (.ref _) (h1.newG hq ⟨_, upd_same, (tups_rvs hp).mono (.new hq) h1⟩)
  · exact t1.elim
end
end WL
set_option Elab.async false
set_option linter.all false
set_option maxRecDepth 100000
set_option maxHeartbeats 4000000
/-! WL, part kb: own classes by their names: fields, methods, making. -/
namespace WL
open PySem PySem.Spec PyProof.Rows L2 PySem.W

/-! ### what is known of a class -/
/-- the class c of the module -/
structure ClsD (K : PySem.W.Frag) (mg : Str → Option Value) (c : Str) : Prop where
  ex : ∃ C, ClsAt K c C ∧ Cls K C ∧ mg c = some (.ref C)
/-- no class of it has the name f -/
structure NoA (K : PySem.W.Frag) (c f : Str) : Prop where
  no : ∀ C, ClsAt K c C → NoAttr K C f
structure MethD (P : Program) (w : World) (K : PySem.W.Frag) (mg : Str → Option Value) (base : Heap) (CX : CXT) (k : Nat) (c m : Str) (ps : List Str) (dws : List W) (sp : SpW) : Prop where
  ex : ∃ C f fd dvs ds, ClsAt K c C ∧ Cls K C ∧ Meth K C m f ∧ FnG P w K mg base CX k f fd ps (spL K sp) ∧ Binds K fd ps ds ∧ Vals dvs ds ∧ ∀ H, RVs K H dvs dws
structure MakeD (P : Program) (w : World) (K : PySem.W.Frag) (mg : Str → Option Value) (base : Heap) (CX : CXT) (k : Nat) (c : Str) (ps : List Str) (dws : List W) (sp : SpW) : Prop where
  ex : ∃ C f fd dvs ds, ClsAt K c C ∧ Mk K C f ∧ mg c = some (.ref C) ∧ FnG P w K mg base CX k f fd ps (spL K sp) ∧ Binds K fd ps ds ∧ Vals dvs ds ∧ ∀ H, RVs K H dvs dws
section
variable {X : Cx} {Z : GH × Hp} {a b c e o : Expr} {Ta Tb : TW} {pos p apos : Pos} {K : PySem.W.Frag} {es : List Expr} {Tr : TWA} {CX : CXT} {k j : Nat} {f C : Addr} {fd : FuncData} {ps : List Str} {P : SpW} {x m cn : Str} {dvs : List V} {ds : List Value} {dws : List W} {sp : Sp} {E : XK} {ta : TE} {t : TA}
/-! ### fields -/
theorem ins_rd {P : Program} {w : World} {H : Hp} {h : Heap} {a dx : Addr} {fs : List (Str × V)} (hok : HOk P w H h) (e : Rd H a (.ins C dx fs)) : ∃ mA, ObjM h a dx C mA ∧ (∀ f, RelO (fs.lookup f) (mA f)) ∧ PySem.Within mA (fs.map (·.1)) := by
  obtain ⟨d, z, ne, ob, mA, n, r, q⟩ := (show ObjOk P w H h a (.ins C dx fs) from e.ok hok)
  exact ⟨mA, ⟨ob, n, ne⟩, r, q⟩
def tFldR (K : PySem.W.Frag) (ta : TE) (f : Str) : TE := fun σ H Q => ta σ H fun x H1 => ∃ a C dx fs v, x = .ref a ∧ Rd H1 a (.ins C dx fs) ∧ Cls K C ∧ NoAttr K C f ∧ fs.lookup f = some v ∧ Q v H1
theorem pe_fldR {f : Str} (he : PE X e ta) (hb : attributeBase e f X.env (eval e X.env) = eval e X.env) : PE X (.Attribute e f pos) (tFldR X.K ta f) := by
  refine ⟨fun pins s σ H Q I h => attr_of hb ?_⟩
  refine thn (he.run pins s σ H _ I h) fun u s1 ⟨x, H1, I1, rx, a, C, dx, fs, v, ex, ea, c, n, l, q⟩ => ?_
  subst ex
  obtain rfl : u = Value.ref a := rx
  obtain ⟨mA, O, r, _⟩ := ins_rd I1.hok ea
  obtain ⟨u, hu, ru⟩ := RelO.some_of (v := v) (o := mA f) (by rw [← l]; exact r f)
  exact get_map I1.kIn O (c.get f) c.hd n hu (handed_of ru) ⟨v, H1, I1.tok _, ru, q⟩
def fldW (c f : Str) (w : W) (G : GH) (R : KW) : Prop := match w with
  | .ref a => match G a with
    | some (.ins d fs) => d = c ∧ match fs.lookup f with
      | some y => R y G
      | none => False
    | _ => False
  | .fo d fs => d = c ∧ match fs.lookup f with
    | some y => R y G
    | none => False
  | _ => False
def tFldW (c f : Str) (Ta : TW) : TW := fun S G R => Ta S G fun w G1 => fldW c f w G1 R
theorem we_fld {f : Str} (D : ClsD X.K X.mg cn) (N : NoA X.K cn f) (he : WE X Z e Ta) (hb : attributeBase e f X.env (eval e X.env) = eval e X.env := by rfl) : WE X Z (.Attribute e f pos) (tFldW cn f Ta) := (pe_fldR he hb).weak fun σ H Q h => by
  obtain ⟨C0, hC0, hcls, _⟩ := D.ex
  obtain ⟨S, G, R, sr, t, k⟩ := h
  refine Lf.go sr t fun w G1 v H1 t1 f1 r1 h1 => ?_
  unfold fldW at t1
  split at t1
  · rename_i a
    cases r1
    split at t1
    · rename_i D fs e
      obtain ⟨rfl, t1⟩ := t1
      obtain ⟨C, dx, fvs, hC, ha, rf⟩ := h1 _ _ e
      have := hC.inj hC0
      subst this
      split at t1
      · rename_i y ey
        rcases RKV.lookup f rf with ⟨z, _⟩ | ⟨v, w, z1, z2, z3⟩
        · rw [ey] at z; cases z
        · rw [ey] at z2; cases z2
          exact ⟨a, _, dx, fvs, v, rfl, .inl ha, hcls, N.no _ hC, z1, k _ _ _ _ t1 f1 z3 h1⟩
      · exact t1.elim
    · exact t1.elim
  · rename_i D fs
    obtain ⟨rfl, t1⟩ := t1
    cases r1 with
    | @fo a C dx ob _ fvs _ hC ha e rr =>
      have := hC.inj hC0
      subst this
      split at t1
      · rename_i y ey
        rcases RKV.lookup f (RVs.rkv e rr) with ⟨z, _⟩ | ⟨v, w, z1, z2, z3⟩
        · rw [ey] at z; cases z
        · rw [ey] at z2; cases z2
          exact ⟨a, _, dx, fvs, v, rfl, .inr ⟨ob, ha⟩, hcls, N.no _ hC, z1, k _ _ _ _ t1 f1 z3 h1⟩
      · exact t1.elim
  · exact t1.elim
/-- e.f = v -/
def sFldW (c f : Str) (Ta Tv : TW) : TWS := fun D S G => Tv S G fun y G1 => Ta S G1 fun w G2 => match w with
  | .ref a => match G2 a with
    | some (.ins d fs) => d = c ∧ fs.length < 1000 ∧ D.nx S (updG G2 a (.ins d (putFW f y fs)))
    | _ => False
  | _ => False
theorem ws_fld {f : Str} {value : Expr} {pos' : Pos} (D : ClsD X.K X.mg cn) (N : NoA X.K cn f) (ha : WE X Z o Ta) (hv : WE X Z value Tb) (hs : swapsWith value (some (.Attribute o f pos')) pos.line X.env = pure false := by rfl) :
    WS X Z (.Assign [.Attribute o f pos'] value pos) (sFldW cn f Ta Tb) := (ps_fld ha hv hs).weak fun DD σ H h => by
  obtain ⟨C0, hC0, hcls, _⟩ := D.ex
  obtain ⟨S, G, DW, sr, t, l⟩ := h
  refine Lf.go sr t fun y G1 v H1 t1 f1 r1 h1 => ?_
  refine Lf.go (sr.next f1 h1) t1 fun w G2 v2 H2 t2 f2 r2 h2 => ?_
  split at t2
  · rename_i a
    cases r2
    split at t2
    · rename_i B fs e
      obtain ⟨rfl, hl, t2⟩ := t2
      obtain ⟨C, dx, fvs, hC, ha, rf⟩ := h2 _ _ e
      have := hC.inj hC0
      subst this
      have rv := r1.mono f2 h1
      have ro : RO X.K (upd H2 a (.ins C dx (L2.putF f v fvs))) a (.ins B (putFW f y fs)) := ⟨C, dx, _, hC, upd_same, RKV.mono (FR.put (o := .lst []) e) h2 (RKV.putF rv rf)⟩
      refine ⟨a, C, dx, fvs, rfl, ha, hcls, N.no _ hC, by rw [RKV.length rf]; exact hl, l.nx _ _ _ _ t2 (((sr.next f1 h1).next f2 h2).next (.put e) (h2.put e ro)) (f1.trans (f2.trans (.put e)))⟩
    · exact t2.elim
  · exact t2.elim
/-! ### methods -/
def tMethR (C : Addr) (m : Str) (sp : Sp) (dvs : List V) (E : XK) (ta : TE) (t : TA) : TE := fun σ H Q => ta σ H fun x H1 => ∃ a dx fs, x = .ref a ∧ Rd H1 a (.ins C dx fs) ∧ fs.lookup m = none ∧
  t σ H1 fun vs H2 => sp (x :: (vs ++ dvs)) H2 Q E
theorem getmeth_rd {pins : List (Addr × Obj)} {s : Shared} {σ : L2.St} {H : Hp} {a dx : Addr} {fs : List (Str × V)} {A : Around} {E : Value → Shared → Prop} {g : Addr} {pl : Sem Bool} {Q : Value × List Value → Shared → Prop} (I : Inv X pins σ H s) (e : Rd H a (.ins C dx fs)) (c : Cls X.K C) (k : Meth X.K C m g) (l : fs.lookup m = none)
    (h : Q (.ref g, [.ref a]) s) : wpAny (model X.prog X.w) A (getMethod (.ref a) m pl) Q E s := by
  obtain ⟨mA, O, r, _⟩ := ins_rd I.hok e
  have hn : mA m = none := RelO.none_of (by rw [← l]; exact r m)
  exact get_meth I.kIn O (c.get m) k.at_ k.fn hn h
theorem pe_methG {pl : Sem Bool} (he : PE X o ta) (c : Cls X.K C) (hm : Meth X.K C m f) (F : FnG X.prog X.w X.K X.mg X.base CX k f fd ps sp) (hgd : X.A.guards = some []) (hr : Room k X.A) (hb : Binds X.K fd ps ds) (hd : Vals dvs ds) (hx : Passes CX X E) (ha : PA X (e :: es) t)
    (hst : starEach (e :: es) X.env = (false, eval e X.env) :: starEach es X.env := by rfl) (hpl : (backTo pos (starEach es X.env)).any (·.1) = false := by rfl)
    (ht : eval (.Call (.Attribute o m apos) (e :: es) [] pos) X.env = (do
      let ov ← eval o X.env
      standAt apos.atName
      let (f, first) ← holding [ov] (getMethod ov m pl)
      callWith pos f first (backTo pos (starEach (e :: es) X.env)) (backToKw pos (keywordEach [] X.env))) := by rfl) :
    PE X (.Call (.Attribute o m apos) (e :: es) [] pos) (tMethR C m sp dvs E ta t) := by
  refine ⟨fun pins s σ H Q I h => ?_⟩
  refine PySem.W.methodCall_KW (pl := pl) (thn (he.run pins s σ H _ I h) fun u s1 ⟨x, H1, I1, rx, a, dx, fs, ex, ea, l, q⟩ => ?_) ht
  subst ex
  obtain rfl : u = Value.ref a := rx
  refine getmeth_rd I1 ea c hm l ?_
  refine PySem.W.callWith_K (first := [.ref a]) (h₀ := X.base) I.ok.mod.kin hm.kp (thn (ha.run pos pins s1 σ H1 _ I1 q) fun us s2 ⟨vs, H2, I2, r, q2⟩ => ⟨I2.kIn, ?_⟩) hst hpl
  exact run_g (us := .ref a :: us) (vs := .ref a :: vs) F hgd hr hb hd hx I2 (.cons rfl r) q2
theorem pe_methG0 {pl : Sem Bool} (he : PE X o ta) (c : Cls X.K C) (hm : Meth X.K C m f) (F : FnG X.prog X.w X.K X.mg X.base CX k f fd ps sp) (hgd : X.A.guards = some []) (hr : Room k X.A) (hb : Binds X.K fd ps ds) (hd : Vals dvs ds) (hx : Passes CX X E)
    (ht : eval (.Call (.Attribute o m apos) [] [] pos) X.env = (do
      let ov ← eval o X.env
      standAt apos.atName
      let (f, first) ← holding [ov] (getMethod ov m pl)
      callWith pos f first (backTo pos (starEach [] X.env)) (backToKw pos (keywordEach [] X.env))) := by rfl) :
    PE X (.Call (.Attribute o m apos) [] [] pos) (tMethR C m sp dvs E ta tNil) := by
  refine ⟨fun pins s σ H Q I h => ?_⟩
  refine PySem.W.methodCall_KW (pl := pl) (thn (he.run pins s σ H _ I h) fun u s1 ⟨x, H1, I1, rx, a, dx, fs, ex, ea, l, q⟩ => ?_) ht
  subst ex
  obtain rfl : u = Value.ref a := rx
  refine getmeth_rd I1 ea c hm l ?_
  exact PySem.W.callWith_K0 (first := [.ref a]) I1.kIn hm.kp (run_g (us := [.ref a]) (vs := [.ref a]) F hgd hr hb hd hx I1 (.cons rfl .nil) q)
/-- the attributes of an instance, wherever it stands -/
def insOf (c : Str) (w : W) (G : GH) : Option (List (Str × W)) := match w with
  | .ref a => match G a with
    | some (.ins d fs) => if d = c then some fs else none
    | _ => none
  | .fo d fs => if d = c then some fs else none
  | _ => none
theorem ins_of {H : Hp} {G : GH} {w : W} {v : V} {fs : List (Str × W)} (h : insOf cn w G = some fs) (rv : RV K H v w) (rh : RH K H G) : ∃ a C dx fvs, v = .ref a ∧ ClsAt K cn C ∧ Rd H a (.ins C dx fvs) ∧ RKV K H fvs fs := by
  unfold insOf at h
  split at h
  · split at h
    · rename_i d fs' e
      split at h
      · rename_i hd
        subst hd
        cases h
        cases rv
        obtain ⟨C, dx, fvs, hC, ha, rf⟩ := rh _ _ e
        exact ⟨_, C, dx, fvs, rfl, hC, .inl ha, rf⟩
      · cases h
    · cases h
  · split at h
    · rename_i hd
      subst hd
      cases h
      cases rv with
      | @fo a C dx ob _ fvs _ hC ha e rr => exact ⟨a, C, dx, fvs, rfl, hC, .inr ⟨ob, ha⟩, RVs.rkv e rr⟩
    · cases h
  · cases h
/-- o.m(..) -/
def tMethW (c m : Str) (P : SpW) (dws : List W) (RX : XW) (Ta : TW) (Tr : TWA) : TW := fun S G R => Ta S G fun w G1 => match insOf c w G1 with
  | some fs => fs.lookup m = none ∧ Tr S G1 fun ws G2 => P (w :: (ws ++ dws)) G2 R RX
  | none => False
theorem lfMethG {E : XK} (hC : ClsAt K cn C) (hdw : ∀ H, RVs K H dvs dws) (σ : L2.St) (H : Hp) (Q : VK) (h : Lf K Z (tMethW cn m P dws XF Ta Tr) σ H Q) : tMethR C m (spL K P) dvs E (Lf K Z Ta) (LfA K Z Tr) σ H Q := by
  obtain ⟨S, G, R, sr, t, k⟩ := h
  refine Lf.go sr t fun w G1 v H1 t1 f1 r1 h1 => ?_
  split at t1
  · rename_i fs e
    obtain ⟨hl, t1⟩ := t1
    obtain ⟨a, C', dx, fvs, rfl, hC', ha, rf⟩ := ins_of e r1 h1
    have := hC'.inj hC
    subst this
    have hl' : fvs.lookup m = none := by
      rcases RKV.lookup m rf with ⟨_, z⟩ | ⟨v, w, _, z, _⟩
      · exact z
      · rw [hl] at z; cases z
    refine ⟨a, dx, fvs, rfl, ha, hl', LfA.go (sr.next f1 h1) t1 fun ws G2 vs H2 t2 f2 rs h2 => ?_⟩
    exact ⟨w :: (ws ++ dws), G2, R, XF, .cons (r1.mono f2 h1) (rs.append (hdw H2)), h2, t2, fun w G' v H' q f3 rv rh => k w G' v H' q (f1.trans (f2.trans f3)) rv rh, .no⟩
  · exact t1.elim
theorem we_m (D : MethD X.prog X.w X.K X.mg X.base CX0 k cn m ps dws P) {pl : Sem Bool} (hgd : X.A.guards = some []) (hr : Room j X.A) (he : WE X Z o Ta) (ha : WA X Z (e :: es) Tr) (hk : k ≤ j := by decide)
    (hst : starEach (e :: es) X.env = (false, eval e X.env) :: starEach es X.env := by rfl) (hpl : (backTo pos (starEach es X.env)).any (·.1) = false := by rfl)
    (ht : eval (.Call (.Attribute o m apos) (e :: es) [] pos) X.env = (do
      let ov ← eval o X.env
      standAt apos.atName
      let (f, first) ← holding [ov] (getMethod ov m pl)
      callWith pos f first (backTo pos (starEach (e :: es) X.env)) (backToKw pos (keywordEach [] X.env))) := by rfl) :
    WE X Z (.Call (.Attribute o m apos) (e :: es) [] pos) (tMethW cn m P dws XF Ta Tr) := by
  obtain ⟨C, f, fd, dvs, ds, hC, hcls, hm, F, hb, hd, hdw⟩ := D.ex
  exact (pe_methG he hcls hm F hgd (hr.mono hk) hb hd pass0 ha hst hpl ht).weak (lfMethG hC hdw)
theorem we_mX (D : MethD X.prog X.w X.K X.mg X.base (L2.CX X.prog X.w) k cn m ps dws P) {pl : Sem Bool} (hgd : X.A.guards = some []) (hr : Room j X.A) (he : WE X Z o Ta) (ha : WA X Z (e :: es) Tr) (hk : k ≤ j := by decide)
    (hst : starEach (e :: es) X.env = (false, eval e X.env) :: starEach es X.env := by rfl) (hpl : (backTo pos (starEach es X.env)).any (·.1) = false := by rfl)
    (ht : eval (.Call (.Attribute o m apos) (e :: es) [] pos) X.env = (do
      let ov ← eval o X.env
      standAt apos.atName
      let (f, first) ← holding [ov] (getMethod ov m pl)
      callWith pos f first (backTo pos (starEach (e :: es) X.env)) (backToKw pos (keywordEach [] X.env))) := by rfl) :
    WE X Z (.Call (.Attribute o m apos) (e :: es) [] pos) (tMethW cn m P dws XF Ta Tr) := by
  obtain ⟨C, f, fd, dvs, ds, hC, hcls, hm, F, hb, hd, hdw⟩ := D.ex
  exact (pe_methG he hcls hm F hgd (hr.mono hk) hb hd passL ha hst hpl ht).weak (lfMethG hC hdw)
theorem lfMethG0 {E : XK} (hC : ClsAt K cn C) (hdw : ∀ H, RVs K H dvs dws) (σ : L2.St) (H : Hp) (Q : VK) (h : Lf K Z (tMethW cn m P dws XF Ta tN) σ H Q) : tMethR C m (spL K P) dvs E (Lf K Z Ta) tNil σ H Q := by
  obtain ⟨S, G, R, sr, t, k⟩ := h
  refine Lf.go sr t fun w G1 v H1 t1 f1 r1 h1 => ?_
  split at t1
  · rename_i fs e
    obtain ⟨hl, t1⟩ := t1
    obtain ⟨a, C', dx, fvs, rfl, hC', ha, rf⟩ := ins_of e r1 h1
    have := hC'.inj hC
    subst this
    have hl' : fvs.lookup m = none := by
      rcases RKV.lookup m rf with ⟨_, z⟩ | ⟨v, w, _, z, _⟩
      · exact z
      · rw [hl] at z; cases z
    refine ⟨a, dx, fvs, rfl, ha, hl', ?_⟩
    exact ⟨w :: ([] ++ dws), G1, R, XF, .cons r1 (by simpa using hdw H1), h1, t1, fun w G' v H' q f3 rv rh => k w G' v H' q (f1.trans f3) rv rh, .no⟩
  · exact t1.elim
theorem we_m0 (D : MethD X.prog X.w X.K X.mg X.base CX0 k cn m ps dws P) {pl : Sem Bool} (hgd : X.A.guards = some []) (hr : Room j X.A) (he : WE X Z o Ta) (hk : k ≤ j := by decide)
    (ht : eval (.Call (.Attribute o m apos) [] [] pos) X.env = (do
      let ov ← eval o X.env
      standAt apos.atName
      let (f, first) ← holding [ov] (getMethod ov m pl)
      callWith pos f first (backTo pos (starEach [] X.env)) (backToKw pos (keywordEach [] X.env))) := by rfl) :
    WE X Z (.Call (.Attribute o m apos) [] [] pos) (tMethW cn m P dws XF Ta tN) := by
  obtain ⟨C, f, fd, dvs, ds, hC, hcls, hm, F, hb, hd, hdw⟩ := D.ex
  exact (pe_methG0 he hcls hm F hgd (hr.mono hk) hb hd pass0 ht).weak (lfMethG0 hC hdw)
theorem we_m0X (D : MethD X.prog X.w X.K X.mg X.base (L2.CX X.prog X.w) k cn m ps dws P) {pl : Sem Bool} (hgd : X.A.guards = some []) (hr : Room j X.A) (he : WE X Z o Ta) (hk : k ≤ j := by decide)
    (ht : eval (.Call (.Attribute o m apos) [] [] pos) X.env = (do
      let ov ← eval o X.env
      standAt apos.atName
      let (f, first) ← holding [ov] (getMethod ov m pl)
      callWith pos f first (backTo pos (starEach [] X.env)) (backToKw pos (keywordEach [] X.env))) := by rfl) :
    WE X Z (.Call (.Attribute o m apos) [] [] pos) (tMethW cn m P dws XF Ta tN) := by
  obtain ⟨C, f, fd, dvs, ds, hC, hcls, hm, F, hb, hd, hdw⟩ := D.ex
  exact (pe_methG0 he hcls hm F hgd (hr.mono hk) hb hd passL ht).weak (lfMethG0 hC hdw)
/-! ### making -/
theorem run_makeG {pins : List (Addr × Obj)} {σ : L2.St} {H : Hp} {s : Shared} {Q : VK} {us : List Value} {vs : List V} (M : Mk X.K C f) (F : FnG X.prog X.w X.K X.mg X.base CX k f fd ps sp) (hgd : X.A.guards = some []) (hr : Room (k + 1) X.A) (hb : Binds X.K fd ps ds) (hd : Vals dvs ds)
    (hx : Passes CX X E) (I : Inv X pins σ H s) (r : Vals vs us)
    (h : ∀ x dx, H x = none → H dx = none → dx ≠ x → sp (.ref x :: (vs ++ dvs)) (upd (upd H dx (.own x)) x (.ins C dx [])) (fun v H2 => v = .non ∧ Q (.ref x) H2) E) :
    wpAny (model X.prog X.w) X.A (call (.ref C) us) (EP X pins σ Q) X.xe s := by
  have hq := h (s.heap.objs.size + 1) s.heap.objs.size (I.hok.fresh (Nat.le_succ _)) (I.hok.fresh (Nat.le_refl _)) (Nat.ne_of_lt (Nat.lt_succ_self _))
  have I2 := Inv.made (C := C) I
  have r2 : Vals (V.ref (s.heap.objs.size + 1) :: (vs ++ dvs)) (Value.ref (s.heap.objs.size + 1) :: (us ++ ds)) := .cons rfl (r.append hd)
  have hl : (Value.ref (s.heap.objs.size + 1) :: us ++ ds).length = ps.length := by
    have e := r2.length
    rw [F.size hq] at e
    exact e.symm
  refine wpAny_call (make_map (f := f) I.kIn M.makes M.init (beq_iff_eq.mp M.fn) (codeAny_mono (F.goes (out := X.stack) (as := ⟨Value.ref (s.heap.objs.size + 1) :: us, []⟩) (us := Value.ref (s.heap.objs.size + 1) :: (us ++ ds)) (E := E) ?_ (hr.make C us [])
    (I2.env0.make C us []) (hb _ (Value.ref (s.heap.objs.size + 1) :: us) I2.kIn hl) r2 hq) fun r s' hq' => ?_))
  · have eg : (Code.builtin "type.__call__" ⟨Value.ref C :: us, []⟩).guards = [] := by first | rfl | simp [Code.guards, Code.isGuard, guardIds]
    unfold Around.under
    dsimp only
    rw [eg, hgd]; rfl
  cases r with
  | error e => exact hx pins σ _ _ e s' I2 hq'
  | ok fl =>
    cases fl with
    | ret u =>
      obtain ⟨v, H', I3, rv, ev, q3⟩ := I2.after hq'
      subst ev
      exact ⟨rv, ⟨V.ref (s.heap.objs.size + 1), H', I3, rfl, q3⟩⟩
    | next => exact False.elim hq'
    | brk => exact False.elim hq'
    | cont => exact False.elim hq'
theorem pe_makeG (M : Mk X.K C f) (F : FnG X.prog X.w X.K X.mg X.base CX k f fd ps sp) (hgd : X.A.guards = some []) (hr : Room (k + 1) X.A) (hg : Gl X x) (hm : X.mg x = some (.ref C)) (hb : Binds X.K fd ps ds) (hd : Vals dvs ds) (hx : Passes CX X E)
    (ha : PA X (e :: es) t) (hdb : (x == ("__debug__" : Str)) = false := by decide) (he : starEach (e :: es) X.env = (false, eval e X.env) :: starEach es X.env := by rfl) (hpl : (backTo pos (starEach es X.env)).any (·.1) = false := by rfl) :
    PE X (.Call (.Name x p) (e :: es) [] pos) (tMake C sp dvs E t) := by
  refine ⟨fun pins s σ H Q I h => ?_⟩
  refine wpAny_Call_Name_kw (ld_glob I hg hm ?_ hdb)
  refine PySem.W.callWith_K (h₀ := X.base) I.ok.mod.kin M.kp (thn (ha.run pos pins s σ H _ I h) fun us s1 ⟨vs, H1, I1, r, q⟩ => ⟨I1.kIn, ?_⟩) he hpl
  exact run_makeG M F hgd hr hb hd hx I1 r q
/-- C(..) -/
def tMakeW (c : Str) (P : SpW) (dws : List W) (Tr : TWA) : TW := fun S G R => Tr S G fun ws G1 => ∀ x, G1 x = none → P (.ref x :: (ws ++ dws)) (updG G1 x (.ins c [])) (fun w G2 => w = .non ∧ R (.ref x) G2) XF
theorem lfMake {E : XK} (hC : ClsAt K cn C) (hdw : ∀ H, RVs K H dvs dws) (σ : L2.St) (H : Hp) (Q : VK) (h : Lf K Z (tMakeW cn P dws Tr) σ H Q) : tMake C (spL K P) dvs E (LfA K Z Tr) σ H Q := by
  obtain ⟨S, G, R, sr, t, k⟩ := h
  refine LfA.go sr t fun ws G1 vs H1 t1 f1 rs h1 x dx hx hdx ne => ?_
  have fa : FR G1 H1 G1 (upd H1 dx (.own x)) := .new hdx
  have ha := h1.new (u := .own x) hdx
  have hx2 : upd H1 dx (.own x) x = none := by rw [upd_ne ne.symm]; exact hx
  have hb := ha.newG (o := .ins cn []) (u := .ins C dx []) hx2 ⟨C, dx, [], hC, upd_same, .nil⟩
  have fb : FR G1 (upd H1 dx (.own x)) (updG G1 x (.ins cn [])) (upd (upd H1 dx (.own x)) x (.ins C dx [])) := .newG hx2
  have f2 := fa.trans fb
  exact ⟨.ref x :: (ws ++ dws), _, _, XF, .cons (.ref x) ((rs.mono f2 h1).append (hdw _)), hb, t1 x (h1.free hx), fun w G' v H' q f3 rv rh => by
    obtain ⟨rfl, q⟩ := q
    cases rv
    exact ⟨rfl, k _ _ _ _ q (f1.trans (f2.trans f3)) (.ref x) rh⟩, .no⟩
theorem we_mk (D : MakeD X.prog X.w X.K X.mg X.base CX0 k cn ps dws P) (hgd : X.A.guards = some []) (hr : Room j X.A) (hg : Gl X cn) (ha : WA X Z (e :: es) Tr) (hk : k + 1 ≤ j := by decide)
    (hdb : (cn == ("__debug__" : Str)) = false := by decide) (he : starEach (e :: es) X.env = (false, eval e X.env) :: starEach es X.env := by rfl) (hpl : (backTo pos (starEach es X.env)).any (·.1) = false := by rfl) :
    WE X Z (.Call (.Name cn p) (e :: es) [] pos) (tMakeW cn P dws Tr) := by
  obtain ⟨C, f, fd, dvs, ds, hC, M, hm, F, hb, hd, hdw⟩ := D.ex
  exact (pe_makeG M F hgd (hr.mono hk) hg hm hb hd pass0 ha hdb he hpl).weak (lfMake hC hdw)
theorem we_mkX (D : MakeD X.prog X.w X.K X.mg X.base (L2.CX X.prog X.w) k cn ps dws P) (hgd : X.A.guards = some []) (hr : Room j X.A) (hg : Gl X cn) (ha : WA X Z (e :: es) Tr) (hk : k + 1 ≤ j := by decide)
    (hdb : (cn == ("__debug__" : Str)) = false := by decide) (he : starEach (e :: es) X.env = (false, eval e X.env) :: starEach es X.env := by rfl) (hpl : (backTo pos (starEach es X.env)).any (·.1) = false := by rfl) :
    WE X Z (.Call (.Name cn p) (e :: es) [] pos) (tMakeW cn P dws Tr) := by
  obtain ⟨C, f, fd, dvs, ds, hC, M, hm, F, hb, hd, hdw⟩ := D.ex
  exact (pe_makeG M F hgd (hr.mono hk) hg hm hb hd passL ha hdb he hpl).weak (lfMake hC hdw)
end
end WL
set_option Elab.async false
set_option linter.all false
set_option maxRecDepth 100000
set_option maxHeartbeats 4000000
/-! WL, part kc: defs with defaults. -/
namespace WL
open PySem PySem.Spec PyProof.Rows L2 PySem.W
section
variable {P : Program} {w : World} {K : PySem.W.Frag} {mg : Str → Option Value} {base : Heap} {CX : CXT} {x qual : Str} {st : Stmt} {f : Addr} {fd : FuncData} {N ps : List Str} {k j : Nat} {sp : Sp} {Q : SpW} {dvs : List V} {kws : List (Str × V)}
theorem fn_gD (F : FunD K x qual (defArgs st) (defBody st) (defScope st) dvs kws f fd) (S : FnScope N ps (defScope st)) (len : ∀ vs H Q E, sp vs H Q E → vs.length = ps.length)
    (body : ∀ (cdv : Value) (A : Around) (out : List Env) (s : Shared) (H : Hp) (vs : List V) (Q : VK) (E : XK), A.guards = some [] → Room k (A.deeper (envOfC qual (defScope st) s.heap.objs.size f cdv)) → sp vs H Q E →
      ∃ t, PSs (cxOf CX P w K mg base N qual (defScope st) f cdv A out s H E) (defBody st) t ∧ t { nx := fun _ H' => Q .non H', rt := Q } (start N vs) H) : FnG P w K mg base CX (k + 1) f fd ps sp := by
  obtain ⟨oc, od, dV, kV, doc, pm, an, cdv, ct, osl, rfl, lk, hcd, _, _⟩ := F.ex
  refine ⟨fun h => len _ _ _ _ h, fun {A out s H as us vs Q E} hgd hr e0 hb r hsp => ?_⟩
  have kin : K.In s.heap := e0.mod.kin.keeps fun b o e => (e0.bs b o e).1
  have places : ∀ y ∈ ps.zip us, (defScope st).names.lookup y.1 = some .local ∨ ((defScope st).names.lookup y.1 = some .cell ∧ ((cellsFrom (s.heap.objs.size + 1) (defScope st).names []).lookup y.1).isSome = true) := by
    rintro ⟨n, v⟩ hy
    have z := S.par n (List.of_mem_zip hy).1
    exact z.imp id fun q => ⟨q, PySem.W.cellsFrom_some _ _ _ (.inl q)⟩
  refine codeAny_call_function hr.depth (kin _ _ lk) rfl S.co S.gen rfl (PySem.W.codeRec_of kin hcd) (hb _ _ _ _ (wpAny_newFunctionEnv_cells S.kind places fun env he s1 xx => ?_))
  subst he
  refine ⟨(e0.mod.nolimit.keeps fun b o e => (e0.bs b o e).1).keeps xx.toInCall.keep, codeAny_func ?_⟩
  obtain ⟨t, ht, hq⟩ := body cdv A out s H vs Q E hgd (hr.deeper _) hsp
  have J0 : Inv (cxOf CX P w K mg base N qual (defScope st) f cdv A out s H E) [] (start N vs) H s1 := inv_start S hr.hd e0 (len _ _ _ _ hsp) r xx
  refine wpAny_mono (ht.run [] s1 (start N vs) H _ J0 hq) (fun fl s' hs => ?_) fun _ _ z => z
  cases fl with
  | ret u =>
    obtain ⟨v, σ', H', J, rv, q⟩ := hs
    exact ⟨v, H', J.os, J.bare, J.base, J.hok, rv, q⟩
  | next =>
    obtain ⟨σ', H', J, q⟩ := hs
    exact ⟨V.non, H', J.os, J.bare, J.base, J.hok, rfl, q⟩
  | brk => exact (show False from hs.choose_spec.choose_spec.2).elim
  | cont => exact (show False from hs.choose_spec.choose_spec.2).elim
theorem okFD (F : FunD K x qual (defArgs st) (defBody st) (defScope st) dvs kws f fd) (S : FnScope N ps (defScope st)) (len : ∀ ws G R RX, Q ws G R RX → ws.length = ps.length)
    (hbody : ∀ (cdv : Value) (A : Around) (outer : List Env) (s : Shared) (H : Hp) (E : XK) (ws : List W) (G : GH) (R : KW) (RX : XW), A.guards = some [] → Room k (A.deeper (envOfC qual (defScope st) s.heap.objs.size f cdv)) → Q ws G R RX →
      ∃ T : TWS, WSs (cxOf CX0 P w K mg base N qual (defScope st) f cdv A outer s H E).nox (G, H) (defBody st) T ∧ T { nx := fun _ G' => fgt R .non G', rt := fgt R } (startW N ws) G) : FnG P w K mg base CX0 (k + 1) f fd ps (spL K Q) := by
  refine fn_gD F S (fun vs H R E h => ?_) fun cdv A outer s H vs Qv E hgd hr h => ?_
  · obtain ⟨ws, G, R, RX, rs, rh, t, _⟩ := h
    rw [rs.length]; exact len ws G R RX t
  · obtain ⟨ws, G, R, RX, rs, rh, t, kl, kx⟩ := h
    obtain ⟨T, hT, q⟩ := hbody cdv A outer s H E ws G R RX hgd hr t
    have kl := kl.fgt
    refine ⟨_, PSs.nox hT, startW N ws, G, _, ⟨.refl, ?_, rh⟩, q, ⟨fun S' G' σ' H' d sr f => kl _ _ _ _ d f .non sr.rh, fun w G' v H' d f rv rh' => kl _ _ _ _ d f rv rh', fun _ _ _ _ d => d.elim, fun _ _ _ _ d => d.elim⟩⟩
    unfold L2.start startW
    rw [← rs.length]
    exact Paired.app (startW_ok rs) (Paired.reps (fun w e => by cases e) _)
theorem okFDX (F : FunD K x qual (defArgs st) (defBody st) (defScope st) dvs kws f fd) (S : FnScope N ps (defScope st)) (len : ∀ ws G R RX, Q ws G R RX → ws.length = ps.length)
    (hbody : ∀ (cdv : Value) (A : Around) (outer : List Env) (s : Shared) (H : Hp) (E : XK) (ws : List W) (G : GH) (R : KW) (RX : XW), A.guards = some [] → Room k (A.deeper (envOfC qual (defScope st) s.heap.objs.size f cdv)) → XL K G H RX E → Q ws G R RX →
      ∃ T : TWS, WSs (cxOf (L2.CX P w) P w K mg base N qual (defScope st) f cdv A outer s H E) (G, H) (defBody st) T ∧ T { nx := fun _ G' => fgt R .non G', rt := fgt R } (startW N ws) G) : FnG P w K mg base (L2.CX P w) (k + 1) f fd ps (spL K Q) := by
  refine fn_gD F S (fun vs H R E h => ?_) fun cdv A outer s H vs Qv E hgd hr h => ?_
  · obtain ⟨ws, G, R, RX, rs, rh, t, _⟩ := h
    rw [rs.length]; exact len ws G R RX t
  · obtain ⟨ws, G, R, RX, rs, rh, t, kl, kx⟩ := h
    obtain ⟨T, hT, q⟩ := hbody cdv A outer s H E ws G R RX hgd hr kx t
    have kl := kl.fgt
    refine ⟨_, hT, startW N ws, G, _, ⟨.refl, ?_, rh⟩, q, ⟨fun S' G' σ' H' d sr f => kl _ _ _ _ d f .non sr.rh, fun w G' v H' d f rv rh' => kl _ _ _ _ d f rv rh', fun _ _ _ _ d => d.elim, fun _ _ _ _ d => d.elim⟩⟩
    unfold L2.start startW
    rw [← rs.length]
    exact Paired.app (startW_ok rs) (Paired.reps (fun w e => by cases e) _)
end
end WL
set_option Elab.async false
set_option linter.all false
set_option maxRecDepth 100000
set_option maxHeartbeats 4000000
/-! WL, part kd: dict comprehensions with tuple keys (the library's are of ints and texts: what follows its proof is turned to the other kind of dict); len of such dicts. -/
namespace WL
open PySem PySem.Spec PyProof.Rows L2 PySem.W
/-- a store into a dict with tuple keys, by a comprehension -/
theorem tupDict_store {X : Cx} {pins : List (Addr × Obj)} {σ : L2.St} {H : Hp} {s : Shared} {E : Value → Shared → Prop} {D b : Addr} {kvs : List (List Key × V)} {k : List Key} {v : V} {u r : Value} {Q : Unit → Shared → Prop} (hu : X.A.units < cLine) (I : Inv X pins σ H s) (hD : H D = some (.dT kvs)) (hz : kvs.length < sizeLine)
    (eb : H b = some (.tup (k.map kV))) (ry : RelV (.ref b) u) (rv : RelV v r) (h : ∀ s', Inv X pins σ (upd H D (.dT (putK kvs k v))) s' → Q () s') : wpAny (model X.prog X.w) X.A (dictSet D u r) Q E s := by
  cases (show u = Value.ref b from ry)
  obtain ⟨z, hd, xs, rel, dd⟩ := dt_of I.hok hD
  have hlen := Paired.length rel
  refine wpAny_dictSet_heap (hsz := by omega) (show X.A.units < cLine from hu) (key_of I.hok eb) dd fun h' dd' hs => h _ ?_
  obtain ⟨q, es, ep, hq, h2, h3, h4, _, h5⟩ := dd'
  have hl : (putK kvs k v).length ≤ sizeLine := by have := length_putK kvs k v; omega
  refine d_write I (by rw [hD]; exact True.intro) hs ⟨q, hq⟩ ⟨hl, hd, _, (rel.put k eb rv).keeps fun c ys ec => ?_, q, es, ep, hq, h2, h3, h4, h5⟩
  rw [upd_ne (ne_of ec hD (fun z => nomatch z))]
  exact ec
section
variable {X : Cx}
/-- {k: v for target in iter if ..}, keys tuples: D the new dict -/
def tTd (wi : TI) (g : TG) (tt : TT) (tk tv : TE) (vs : List Nat) : TE := fun σ H Q => wi σ H fun J H1 => ∀ D, H1 D = none → ∃ W : Nat → Nat → Hp → Prop, (∃ m, W 0 m (upd H1 D (.dT []))) ∧ ∀ i m H, W i m H →
  (J.stop i H ∧ Q (.ref D) H) ∨ (J.go i H ∧ ∃ Nx : Hp → Prop, (∀ H', Nx H' → ∃ m', m' < m ∧ W (i + 1) m' H') ∧ ∀ x H', J.yld i H x H' → g x (L2.wipe σ vs) H' fun σ2 H2 => L2.wipe σ2 vs = L2.wipe σ vs ∧ tt σ2 H2 fun b H3 =>
    if b = true then tk σ2 H3 fun y H4 => tv σ2 H4 fun z H5 => ∃ kvs k b, y = .ref b ∧ H5 b = some (.tup (k.map kV)) ∧ H5 D = some (.dT kvs) ∧ kvs.length < sizeLine ∧ Nx (upd H5 D (.dT (putK kvs k z))) else Nx H3)
theorem tupDict_core {pins : List (Addr × Obj)} {s : Shared} {σ : L2.St} {H : Hp} {Q : VK} {kx vx tg iter : Expr} {ifs : List Expr} {scope : Scope} {own : List (Str × Nat)} {pos pos' : Pos} {wi : TI} {g : TG} {tt : TT} {tk tv : TE} {use : Option (Value → Sem Unit)} {Qf : Value → Shared → Prop}
    (hu : X.A.units < cLine) (hc : X.calm = true) (hN : X.N.Nodup) (I : Inv X pins σ H s) (hi : PI X tg iter wi) (ok : BlkOk X.N X.env.scope scope own)
    (hg : ∀ (s : Shared) (H : Hp) (C : Addr) (cl : List (Str × Addr)) (fp : List Addr), PG (X.blk s H scope (compEnvC scope cl C X.env) fp) tg g) (ht : ∀ (s : Shared) (H : Hp) (C : Addr) (cl : List (Str × Addr)) (fp : List Addr), PTs (X.blk s H scope (compEnvC scope cl C X.env) fp) ifs tt)
    (hk : ∀ (s : Shared) (H : Hp) (C : Addr) (cl : List (Str × Addr)) (fp : List Addr), PE (X.blk s H scope (compEnvC scope cl C X.env) fp) kx tk)
    (he : ∀ (s : Shared) (H : Hp) (C : Addr) (cl : List (Str × Addr)) (fp : List Addr), PE (X.blk s H scope (compEnvC scope cl C X.env) fp) vx tv) (hs : ∀ x, foldedSetIterable iter X.env x = pure x)
    (h : tTd wi g tt tk tv (own.map (·.2)) σ H Q)
    (hRR : ∀ D C s' m H', Inv X pins σ H' s' → Q (.ref D) H' → s'.heap.Ns C m → FpOk X pins H' C → compPost (model X.prog X.w) X.A X.xe use Qf (.ref D) C (.ok .next) s') :
    wpAny (model X.prog X.w) X.A (comprehension (.DictComp kx vx [⟨tg, iter, ifs, 0⟩] scope pos) scope X.env pos' newDict false (eval iter X.env) use) Qf X.xe s := by
  have hfree : ∀ y ∈ scope.names, y.2 = .free → ∃ c, X.env.cells.lookup y.1 = some c := fun y hy e => by
    rcases ok.free y hy e with k | k
    · exact I.ok.has _ (.inl k)
    · exact I.ok.has _ (.inr k)
  refine wpAny_comprehension_free (use := use) rfl hs (closure_ok hfree) ok.kind (fun y hy e => by rw [ok.uniq y hy, e])
    (thn (hi.run pins s σ H _ I h) fun xv s1 hx => thn hx fun itv s2 h2 => ?_)
  obtain ⟨it, fp, tn, J, H2, e, I2, T, st2, f2, q⟩ := h2
  subst e
  refine wpAny_newObj_type (newEnv_comp ?_)
  generalize hD : s2.heap.objs.size = D
  have hDn : H2 D = none := I2.hok.fresh (Nat.le_of_eq hD)
  obtain ⟨W, ⟨m0, init0⟩, oneTurn⟩ := q D hDn
  -- the new list
  generalize hs3 : ({ s2 with heap := s2.heap.push { cls := .type "dict", data := .dict #[] } } : Shared) = s3
  have I3 : Inv X pins σ (upd H2 D (.dT [])) s3 := by
    rw [← hs3]
    refine I2.laid (t' := s2.toks) (fun b o e => Heap.get?_push_of_some _ e) (Nat.le_of_eq hD) ?_
    rw [← hD]
    exact dt_empty s2.heap I2.big
  have h3 : s3.heap = s2.heap.push { cls := .type "dict", data := .dict #[] } := by rw [← hs3]
  have sz : ∀ b ∈ fp, b < s2.heap.objs.size := fun b hb => by
    obtain ⟨o, e, _⟩ := T.obj _ _ st2 b hb
    exact Heap.lt_size e
  have f3 : ∀ b ∈ fp, FpOk X pins (upd H2 D (.dT [])) b ∧ b < s3.heap.objs.size := fun b hb => by
    have hlt := sz b hb
    refine ⟨⟨?_, (f2 b hb).2⟩, by rw [h3, Heap.size_push]; exact Nat.lt_succ_of_lt hlt⟩
    rw [upd_ne (by rw [← hD]; exact Nat.ne_of_lt hlt)]
    exact (f2 b hb).1
  have walk3 : tn 0 s3.heap := T.keep _ _ _ st2 fun b _ o e => by rw [h3]; exact Heap.get?_push_of_some _ e
  have I4 := block_start I3 ok hN f3
  have pg := hg s3 (upd H2 D (.dT [])) s3.heap.objs.size (cellsFrom (s3.heap.objs.size + 1) scope.names (cloFrom X.env.cells scope.names [])) fp
  have pt := ht s3 (upd H2 D (.dT [])) s3.heap.objs.size (cellsFrom (s3.heap.objs.size + 1) scope.names (cloFrom X.env.cells scope.names [])) fp
  have pk := hk s3 (upd H2 D (.dT [])) s3.heap.objs.size (cellsFrom (s3.heap.objs.size + 1) scope.names (cloFrom X.env.cells scope.names [])) fp
  have pe := he s3 (upd H2 D (.dT [])) s3.heap.objs.size (cellsFrom (s3.heap.objs.size + 1) scope.names (cloFrom X.env.cells scope.names [])) fp
  show codeAny _ _ (.compStart (.DictComp kx vx [⟨tg, iter, ifs, 0⟩] scope pos) 0 (.ref it) (.ref D) (compEnvC scope (cellsFrom (s3.heap.objs.size + 1) scope.names (cloFrom X.env.cells scope.names [])) s3.heap.objs.size X.env)) (compPost (model X.prog X.w) X.A X.xe use Qf (.ref D) s3.heap.objs.size) { s3 with heap := pushCells (s3.heap.push { cls := .type "dict", data := .dict #[] }) scope.names }
  have offIt : ∀ b ∈ fp, (upd H2 D (.dT [])) b = none := fun b hb => (f3 b hb).1.1
  generalize envEq : compEnvC scope (cellsFrom (s3.heap.objs.size + 1) scope.names (cloFrom X.env.cells scope.names [])) s3.heap.objs.size X.env = ce at I4 pg pt pk pe ⊢
  have locEq : ce.locals = s3.heap.objs.size := by subst envEq; rfl
  generalize hH3 : upd H2 D (.dT []) = H3 at I3 I4 pg pt pk pe init0 offIt f3
  generalize hs4 : ({ s3 with heap := pushCells (s3.heap.push { cls := .type "dict", data := .dict #[] }) scope.names } : Shared) = s4 at I4 ⊢
  have walk4 : tn 0 s4.heap := T.keep _ _ _ walk3 fun b _ o e => by rw [← hs4]; exact pushCells_keeps _ _ _ _ (Heap.get?_push_of_some _ e)
  have freshFp : ∀ {σ' : L2.St} {H' : Hp} {s' : Shared}, Inv (X.blk s3 H3 scope ce fp) [] σ' H' s' → (∀ b ∈ fp, H' b = none) → ∀ b ∈ fp, FpOk (X.blk s3 H3 scope ce fp) [] H' b := fun {σ' H' s'} I' hn b hb =>
    ⟨hn b hb, (I'.ok.exf b hb).1, I'.ok.exfs b hb, .inl hb, fun x c e => (I'.ok.exf b hb).2 x c e, fun p hp => absurd (show p ∈ ([] : List (Addr × Obj)) ++ [] from hp) (by simp)⟩
  have walkAll : codeAny (model X.prog X.w) X.A (.compLoop (.DictComp kx vx [⟨tg, iter, ifs, 0⟩] scope pos) 0 (.ref it) (.ref D) ce) (compPost (model X.prog X.w) X.A X.xe use Qf (.ref D) s3.heap.objs.size) s4 := by
    refine compLoop_anyD (fun n s' => ∃ i H', Inv (X.blk s3 H3 scope ce fp) [] (L2.wipe σ (own.map (·.2))) H' s' ∧ tn i s'.heap ∧ (∀ b ∈ fp, H' b = none) ∧ W i n H') ?_ m0 ⟨0, H3, I4, walk4, offIt, init0⟩
    rintro n s5 ⟨i, H5, J5, st5, n5, w5⟩
    rcases oneTurn i n H5 w5 with ⟨stop, qq⟩ | ⟨go, Nx, hNx, step⟩
    · have td := T.done (X.blk s3 H3 scope ce fp) rfl rfl rfl hc i [] s5 _ H5 (fun _ _ => False) J5 (freshFp J5 n5) st5 stop
      refine thnF td fun r s6 ⟨hr, J6⟩ => ?_
      subst hr
      -- back in the def's context
      have J7 : Inv X pins σ H5 s6 := I3.call' (ch := fp) J6.os J6.base J6.hok J6.bare fun b hb => ⟨(f3 b hb).1.2.2.2.1, (f3 b hb).1.2.1, (f3 b hb).1.2.2.2.2.1, (f3 b hb).1.2.2.2.2.2⟩
      have nC : H5 s3.heap.objs.size = none := by
        have z : H5 ce.locals = none := J6.free
        rw [locEq] at z
        exact z
      obtain ⟨m, hn, _⟩ := J6.loc
      have hn : s6.heap.Ns ce.locals m := hn
      rw [locEq] at hn
      exact hRR D s3.heap.objs.size s6 m H5 J7 qq hn (I3.fpOk (Nat.le_refl _) nC)
    · have ti := T.item (X.blk s3 H3 scope ce fp) rfl rfl rfl hc i [] s5 _ H5 (fun _ _ => False) J5 (freshFp J5 n5) st5 go
      refine thnF ti fun r s6 ⟨u, hr, h6⟩ => ?_
      subst hr
      refine thnF h6 fun _ s7 ⟨x, H7, J7, r7, y7, st7, n7⟩ => ?_
      have J7p := J7.pinned (freshFp J7 n7) (T.obj _ _ st7)
      refine thnF (pg.run _ s7 _ H7 x u _ J7p r7 (step x H7 y7)) fun _ s8 ⟨σ8, H8, J8, hw8, q8⟩ => ?_
      refine thnF (pt.run _ s8 σ8 H8 _ J8 q8) fun b s9 ⟨H9, J9, q9⟩ => ?_
      -- the turn's end
      have goOn : ∀ {s' : Shared} {H' : Hp}, Inv (X.blk s3 H3 scope ce fp) ([] ++ pinsAt fp s7.heap) σ8 H' s' → Nx H' → ∃ m, m < n ∧ ∃ i H', Inv (X.blk s3 H3 scope ce fp) [] (L2.wipe σ (own.map (·.2))) H' s' ∧ tn i s'.heap ∧ (∀ b ∈ fp, H' b = none) ∧ W i m H' := fun {s' H'} I' nx => by
        obtain ⟨m', hm, w'⟩ := hNx H' nx
        have pin' : ∀ b ∈ fp, ∀ o, s7.heap.get? b = some o → s'.heap.get? b = some o ∧ H' b = none := fun b hb o e =>
          let z := I'.pin (b, o) (List.mem_append_right _ (List.mem_append_right _ (mem_pinsAt hb e)))
          ⟨z.1, z.2.1⟩
        have hl : (L2.wipe σ (own.map (·.2))).length = σ8.length := by rw [← hw8, wipe_length]
        refine ⟨m', hm, i + 1, H', (I'.unpinned (pins := [])).weak hl (fun j v e => ?_), T.keep _ _ _ st7 fun b hb o e => (pin' b hb o e).1, fun b hb => ?_, w'⟩
        · rw [← hw8] at e
          exact (wipe_some e).1
        · obtain ⟨o, e, _⟩ := T.obj _ _ st7 b hb
          exact (pin' b hb o e).2
      cases b with
      | false =>
        simp only [Bool.false_eq_true, if_false] at q9 ⊢
        exact goOn J9 q9
      | true =>
        simp only [if_true] at q9 ⊢
        refine thnF (pk.run _ s9 σ8 H9 _ J9 q9) fun z s10 ⟨yk, H10, J10, r10, q10⟩ => ?_
        refine thnF (pe.run _ s10 σ8 H10 _ J10 q10) fun z2 s11 ⟨yv, H11, J11, r11, kvs, k, b, ek, hb11, hD11, hz11, nx⟩ => ?_
        subst ek
        exact tupDict_store (X := X.blk s3 H3 scope ce fp) hu J11 hD11 hz11 hb11 r10 r11 fun s12 J12 => goOn J12 nx
  exact codeAny_compStart_dict walkAll (T.self X.A 0 _ _ _ walk4 walkAll)
theorem pe_tupDict {kx vx tg iter : Expr} {ifs : List Expr} {scope : Scope} {own : List (Str × Nat)} {pos : Pos} {wi : TI} {g : TG} {tt : TT} {tk tv : TE} (hu : X.A.units < cLine) (hc : X.calm = true) (hN : X.N.Nodup) (hi : PI X tg iter wi) (ok : BlkOk X.N X.env.scope scope own)
    (hg : ∀ (s : Shared) (H : Hp) (C : Addr) (cl : List (Str × Addr)) (fp : List Addr), PG (X.blk s H scope (compEnvC scope cl C X.env) fp) tg g) (ht : ∀ (s : Shared) (H : Hp) (C : Addr) (cl : List (Str × Addr)) (fp : List Addr), PTs (X.blk s H scope (compEnvC scope cl C X.env) fp) ifs tt)
    (hk : ∀ (s : Shared) (H : Hp) (C : Addr) (cl : List (Str × Addr)) (fp : List Addr), PE (X.blk s H scope (compEnvC scope cl C X.env) fp) kx tk)
    (he : ∀ (s : Shared) (H : Hp) (C : Addr) (cl : List (Str × Addr)) (fp : List Addr), PE (X.blk s H scope (compEnvC scope cl C X.env) fp) vx tv) (hs : ∀ x, foldedSetIterable iter X.env x = pure x := by intro _; rfl) :
    PE X (.DictComp kx vx [⟨tg, iter, ifs, 0⟩] scope pos) (tTd wi g tt tk tv (own.map (·.2))) := by
  refine ⟨fun pins s σ H Q I h => ?_⟩
  rw [arm_eval_DictComp]
  refine tupDict_core hu hc hN I hi ok hg ht hk he hs h fun D C s' m H' I' q hn f => ⟨m, hn, fun h'' sb => ?_⟩
  obtain ⟨f0, f1, f2, f3, f4, f5⟩ := f
  exact ⟨.ref D, H', I'.turned (t' := s'.toks) (fun b o hb e => (sb.2 b hb).trans e) f0 f1 f3 f4 f5, rfl, q⟩
end
def tkey : W → Option (List Key)
  | .tup ks => keysOf ks
  | _ => none
theorem tkey_val {K : PySem.W.Frag} {H : Hp} {v : V} {w : W} {c : List Key} (r : RV K H v w) (h : tkey w = some c) : ∃ b, v = .ref b ∧ H b = some (.tup (c.map kV)) := by
  cases w with
  | tup ks =>
    cases r with
    | tup q rs =>
      have e1 := keys_of? h
      subst e1
      have e2 := RVs.keys rs
      subst e2
      exact ⟨_, rfl, q⟩
  | _ => cases h
def compT (Gd : GH → Prop) (g : TGW) (tt : TWT) (tk tv : TW) (S0 : WSt) (R : List (List Key × W) → GH → Prop) : List W → GH → List (List Key × W) → Prop
  | [], G, acc => Gd G ∧ R acc G
  | x :: xs, G, acc => Gd G ∧ g x S0 G fun S2 G2 => tt S2 G2 fun b G3 => if b = true then tk S2 G3 fun k G4 => tv S2 G4 fun v G5 => ∃ c, tkey k = some c ∧ acc.length < sizeLine ∧ compT Gd g tt tk tv S0 R xs G5 (putW acc c v) else compT Gd g tt tk tv S0 R xs G3 acc
def tDictT (ti : TIW) (g : TGW) (tt : TWT) (tk tv : TW) (vs : List Nat) : TW := fun S G R => ti S G fun items Gd G1 => compT Gd g tt tk tv (wipeW S vs) (fun acc G2 => ∀ D, G2 D = none → R (.ref D) (updG G2 D (.dT acc))) items G1 []
section
variable {X : Cx} {Z : GH × Hp} {pos : Pos}
theorem lfDictT {K : PySem.W.Frag} {ti : TIW} {gh : TG} {g : TGW} {tt : TWT} {tk tv : TW} {vs : List Nat} (gok : GOk K Z gh g vs) (σ : L2.St) (H : Hp) (Q : VK) (h : Lf K Z (tDictT ti g tt tk tv vs) σ H Q) : tTd (LfI K Z ti) gh (LfT K Z tt) (Lf K Z tk) (Lf K Z tv) vs σ H Q := by
  obtain ⟨S, G, R, sr, t, k⟩ := h
  refine ⟨S, G, _, sr, t, fun items Gd G1 J H1 t1 f1 h1 wi D hD => ?_⟩
  have hz : ∀ o, Z.2 D = some o → Z.1 D ≠ none := fun o e g => by
    have := ((sr.next f1 h1).tk D o e g).1
    rw [hD] at this; cases this
  have hz2 : ∀ o, H D = some o → G D ≠ none := fun o e g => by
    have := (f1 D o e g).1
    rw [hD] at this; cases this
  have gD : G1 D = none := h1.free hD
  refine ⟨fun i m H' => m = items.length - i ∧ i ≤ items.length ∧ ∃ G' acc kvs, H' D = some (.dT kvs) ∧ RKV K H' kvs acc ∧ G' D = none ∧ SR K Z (L2.wipe σ vs) H' (wipeW S vs) G' ∧ FR G1 H1 G' H' ∧ compT Gd g tt tk tv (wipeW S vs) (fun acc G2 => ∀ D, G2 D = none → R (.ref D) (updG G2 D (.dT acc))) (items.drop i) G' acc,
    ⟨items.length, by simp, Nat.zero_le _, G1, [], [], upd_same, .nil, gD, ((sr.next f1 h1).next (.new hD) (h1.new hD)).wipe vs, .new hD, t1⟩, ?_⟩
  rintro i m H2 ⟨rfl, hi, G2, acc, kvs, hd, rs, g2, sr2, f2, t2⟩
  by_cases hlt : i < items.length
  · rw [List.drop_eq_getElem_cons hlt] at t2
    obtain ⟨gd, t2⟩ := t2
    refine .inr ⟨wi.go i G2 H2 f2 sr2.rh gd hlt, fun H' => ∃ G' acc kvs, H' D = some (.dT kvs) ∧ RKV K H' kvs acc ∧ G' D = none ∧ SR K Z (L2.wipe σ vs) H' (wipeW S vs) G' ∧ FR G1 H1 G' H' ∧ compT Gd g tt tk tv (wipeW S vs) (fun acc G2 => ∀ D, G2 D = none → R (.ref D) (updG G2 D (.dT acc))) (items.drop (i + 1)) G' acc, ?_, fun x H3 y => ?_⟩
    · rintro H' ⟨G', acc', kvs', q⟩
      exact ⟨items.length - (i + 1), by omega, rfl, hlt, G', acc', kvs', q⟩
    · obtain ⟨f3, r3, h3⟩ := wi.yld i G2 H2 x H3 items[i] f2 sr2.rh gd (by simp [hlt]) y
      have sr3 := sr2.next f3 h3
      have kp := fun Q' => gok.keeps x (L2.wipe σ vs) H3 Q'
      simp only [wipe_wipe vs fun _ h => h] at kp
      refine kp _ (gok.lift _ _ _ _ (LfG.go r3 sr3 t2 fun S4 G4 σ4 H4 t4 sr4 f4 => ?_))
      refine LfT.go sr4 t4 fun b G5 H5 t5 f5 h5 => ?_
      have f25 : FR G2 H2 G5 H5 := f3.trans (f4.trans f5)
      have d5 := f25 D _ hd g2
      cases b with
      | false => exact iteF ⟨G5, acc, kvs, d5.1, RKV.mono f25 sr2.rh rs, d5.2, sr2.next f25 h5, f2.trans f25, t5⟩
      | true =>
        refine iteT (Lf.go (sr4.next f5 h5) t5 fun w6 G6 v6 H6 t6 f6 r6 h6 => ?_)
        refine Lf.go ((sr4.next f5 h5).next f6 h6) t6 fun w7 G7 v7 H7 t7 f7 r7 h7 => ?_
        have f27 := (f25.trans f6).trans f7
        have d7 := f27 D _ hd g2
        obtain ⟨c, hk, room, t7⟩ := t7
        obtain ⟨b6, rfl, hb6⟩ := tkey_val r6 hk
        refine ⟨kvs, c, b6, rfl, (f7.tup h6 hb6), d7.1, by rw [RKV.length rs]; exact room, G7, putW acc c w7, putK kvs c v7, upd_same, ?_, d7.2, (sr2.next f27 h7).poke d7.1 trivial d7.2 hz, (f2.trans f27).poke (fun o e => by rw [hD] at e; cases e), t7⟩
        exact RKV.put (RKV.poke d7.1 trivial (RKV.mono f27 sr2.rh rs)) (RV.poke d7.1 trivial r7)
  · have e : i = items.length := by omega
    subst e
    rw [List.drop_length] at t2
    refine .inl ⟨wi.stop G2 H2 f2 sr2.rh t2.1, k _ _ _ _ (t2.2 D g2) (fun a o e g => ?_) (.ref D) (fun a o e => ?_)⟩
    · have ne : a ≠ D := fun z => by subst z; exact hz2 o e g
      obtain ⟨q1, q2⟩ := (f1.trans f2) a o e g
      exact ⟨q1, by rw [updG_ne ne]; exact q2⟩
    · by_cases z : a = D
      · subst z; rw [updG_same] at e; cases e; exact ⟨kvs, hd, rs⟩
      · rw [updG_ne z] at e; exact sr2.rh a o e
theorem we_dictT {kx vx tg iter : Expr} {ifs : List Expr} {scope : Scope} {own : List (Str × Nat)} {ti : TIW} {gh : TG} {g : TGW} {tt : TWT} {tk tv : TW} (hu : X.A.units < cLine) (hc : X.calm = true) (hN : X.N.Nodup) (hi : WI X Z tg iter ti) (ok : BlkOk X.N X.env.scope scope own) (gok : GOk X.K Z gh g (own.map (·.2)))
    (hg : ∀ (s : Shared) (H : Hp) (C : Addr) (cl : List (Str × Addr)) (fp : List Addr), PG (X.blk s H scope (compEnvC scope cl C X.env) fp) tg gh) (ht : ∀ (s : Shared) (H : Hp) (C : Addr) (cl : List (Str × Addr)) (fp : List Addr), PTsW (X.blk s H scope (compEnvC scope cl C X.env) fp) Z ifs tt)
    (hk : ∀ (s : Shared) (H : Hp) (C : Addr) (cl : List (Str × Addr)) (fp : List Addr), WE (X.blk s H scope (compEnvC scope cl C X.env) fp) Z kx tk) (he : ∀ (s : Shared) (H : Hp) (C : Addr) (cl : List (Str × Addr)) (fp : List Addr), WE (X.blk s H scope (compEnvC scope cl C X.env) fp) Z vx tv)
    (hs : ∀ x, foldedSetIterable iter X.env x = pure x := by intro _; rfl) : WE X Z (.DictComp kx vx [⟨tg, iter, ifs, 0⟩] scope pos) (tDictT ti g tt tk tv (own.map (·.2))) :=
  (pe_tupDict (tt := LfT X.K Z tt) (tk := Lf X.K Z tk) (tv := Lf X.K Z tv) hu hc hN hi ok hg ht hk he hs).weak (lfDictT gok)
end
section
variable {X : Cx} {Z : GH × Hp}
/-- len, of dicts with tuple keys too, and of dicts that stay -/
def lenQ : CW := fun ws G R => match ws with
  | [.tup xs] => R (.int xs.length) G
  | [.kt xs] => R (.int xs.length) G
  | [.fl xs] => R (.int xs.length) G
  | [.str x] => x.length ≤ sizeLine ∧ R (.int x.length) G
  | [.ref p] => match G p with
    | some (.lst xs) => R (.int xs.length) G
    | some (.dK kws) => R (.int kws.length) G
    | some (.dT kws) => R (.int kws.length) G
    | _ => False
  | _ => False
theorem call_lenQ : CallW X (.builtin "len") lenQ := by
  intro pins s σ H xs us Q I r h
  obtain ⟨ws, G, R, rs, rh, t, k⟩ := h
  have old : lenW ws G R → wpAny (model X.prog X.w) X.A (call (.builtin "len") us) (EP X pins σ Q) X.xe s := fun t => call_lenW pins s σ H xs us Q I r ⟨ws, G, R, rs, rh, t, k⟩
  match ws, t, rs, old with
  | [.tup ys], t, rs, old => exact old t
  | [.kt ys], t, rs, old => exact old t
  | [.fl ys], t, rs, old => exact old t
  | [.str x], t, rs, old => exact old t
  | [.ref p], t, rs, old =>
    unfold lenQ at t
    unfold lenW at old
    dsimp only at t old
    split at t
    · rename_i e
      rw [e] at old
      exact old t
    · rename_i e
      rw [e] at old
      exact old t
    · rename_i kws e
      obtain ⟨v, rfl, rv⟩ := rs.one
      cases rv
      obtain ⟨kvs, h1, rr⟩ := rh _ _ e
      exact call_len_dT pins s σ H _ us Q I r ⟨p, kvs, rfl, h1, by rw [RKV.length rr]; exact k.here t (.int _) rh⟩
    · exact t.elim
end
end WL
set_option Elab.async false
set_option linter.all false
set_option maxRecDepth 100000
set_option maxHeartbeats 4000000
namespace WS
open PySem PySem.Spec PyProof.Rows L2 WL
/-- what a list of numbers may be as a script -/
structure NsOk (ns : List Int) : Prop where
  bits : ∀ z ∈ ns, Builtin.Int.intBits z ≤ 1048576
  len : ns.length ≤ 63
/-- a draw's state: [script, n] at d -/
structure Dr (ns : List Int) (d : Addr) (G : GH) : Prop where
  at_ : ∃ n : Int, G d = some (.lst [.fl (ns.map W.int), .int n]) ∧ 0 ≤ n
  ok : NsOk ns
theorem Dr.upd {ns : List Int} {G : GH} {d a : Addr} {o : GO} (s : Dr ns d G) (h1 : d ≠ a) : Dr ns d (updG G a o) := by
  obtain ⟨⟨n, h, h0⟩, r⟩ := s
  exact ⟨⟨n, by rw [updG_ne h1]; exact h, h0⟩, r⟩
theorem Dr.off {ns : List Int} {G : GH} {d a : Addr} (s : Dr ns d G) (h : G a = none) : d ≠ a := by
  obtain ⟨⟨n, hd, _⟩, r⟩ := s
  rintro rfl
  rw [hd] at h; cases h
theorem Dr.new {ns : List Int} {G : GH} {d a : Addr} {o : GO} (s : Dr ns d G) (h : G a = none) : Dr ns d (updG G a o) := s.upd (s.off h)
theorem Dr.ext {ns : List Int} {G G' : GH} {d : Addr} (s : Dr ns d G) (x : ExtG G G') : Dr ns d G' := by
  obtain ⟨⟨n, h, h0⟩, r⟩ := s
  exact ⟨⟨n, x _ _ h, h0⟩, r⟩
theorem Dr.ne {ns : List Int} {G : GH} {d a : Addr} {ws : List W} (s : Dr ns d G) (h : G a = some (.lst ws)) (hn : ∀ n, ws ≠ [.fl (ns.map W.int), .int n]) : a ≠ d := by
  rintro rfl
  obtain ⟨⟨n, hd, _⟩, _⟩ := s
  rw [h] at hd
  cases hd
  exact hn n rfl
theorem Dr.start {ns : List Int} {G : GH} {d : Addr} (O : NsOk ns) (h : G d = some (.lst [.fl (ns.map W.int), .int 0])) : Dr ns d G := ⟨⟨0, h, by decide⟩, O⟩
/-- a comprehension whose items draw -/
theorem compW_draw {α β : Type} {f : α → W} {g : β → W} {Pz : α → β → Prop} {Gd : GH → Prop} {gt : TGW} {te : TW} {S0 : WSt} {R : List W → GH → Prop} {ns : List Int} {d : Addr} {G : GH}
    (hg : ∀ G', KeepG d G G' → Gd G') : ∀ (xs : List α) (acc : List W) (G1 : GH), KeepG d G G1 → Dr ns d G1 → acc.length + xs.length ≤ sizeLine →
    (∀ x ∈ xs, ∀ (G2 : GH) (R' : KW), KeepG d G G2 → Dr ns d G2 → (∀ z G3, Pz x z → Dr ns d G3 → KeepG d G2 G3 → R' (g z) G3) → gt (f x) S0 G2 fun S2 G2 => te S2 G2 R') →
    (∀ zs G', Paired Pz xs zs → Dr ns d G' → KeepG d G G' → R (acc ++ zs.map g) G') → compW Gd gt tYesW te S0 R (xs.map f) G1 acc
  | [], acc, G1, k, D, _, _, r => ⟨hg _ k, by simpa using r [] G1 .nil D k⟩
  | x :: xs, acc, G1, k, D, hl, st, r => by
    rw [List.length_cons] at hl
    refine ⟨hg _ k, st x List.mem_cons_self G1 _ k D fun z G3 hz D3 k3 => ⟨by omega, ?_⟩⟩
    refine compW_draw hg xs (acc ++ [g z]) G3 (k.trans k3) D3 (by rw [List.length_append, List.length_singleton]; omega) (fun y hy => st y (List.mem_cons_of_mem _ hy)) fun zs G' hzs D' k' => ?_
    have := r (z :: zs) G' (.cons hz hzs) D' k'
    rw [List.map_cons] at this
    simpa using this
theorem Paired.all2 {α β : Type} {P : β → Prop} : ∀ {xs : List α} {zs : List β}, Paired (fun _ z => P z) xs zs → zs.length = xs.length ∧ ∀ z ∈ zs, P z
  | _, _, .nil => ⟨rfl, by simp⟩
  | _, _, .cons h t => by
    obtain ⟨h1, h2⟩ := Paired.all2 t
    refine ⟨by simp [h1], fun z hz => ?_⟩
    rcases List.mem_cons.mp hz with rfl | hz
    · exact h
    · exact h2 z hz
/-! ### _law_mixed -/
abbrev N__law_mixed : List Str := ["cell", "k", "mix"]
structure P__law_mixed (ws : List W) (G : GH) (R : KW) (RX : XW) : Prop where
  ex : ∃ (c k : Int), ws = [.int c, .int k] ∧ (Builtin.Int.intBits c ≤ 1048576) ∧ (0 ≤ k) ∧ (k ≤ 200) ∧ (∀ r, 0 ≤ r → r < 2147483399 → R (.int r) G)
theorem len__law_mixed : ∀ ws G R RX, P__law_mixed ws G R RX → ws.length = ["cell", "k"].length := by
  rintro ws G R RX ⟨⟨_, _, rfl, _, _, _, _⟩⟩; rfl
theorem p__law_mixed {c k : Int} {G : GH} {R : KW} {RX : XW} (hc : Builtin.Int.intBits c ≤ 1048576) (hk0 : 0 ≤ k) (hk : k ≤ 200) (q : ∀ r, 0 ≤ r → r < 2147483399 → R (.int r) G) : P__law_mixed [.int c, .int k] G R RX := ⟨c, k, rfl, hc, hk0, hk, q⟩
def T__law_mixed : TWS :=
  (sSeq (sSet 2 (tOpW modW (tOpW powW (tOpW modW (tOpW mulW (tOpW addW (tOpW addW (tOpW modW (tV 0) (tK (.int 2147483399))) (tOpW mulW (tK (.int 104729)) (tV 1))) (tK (.int 11))) (tK (.int 48271))) (tK (.int 2147483399))) (tK (.int 5))) (tK (.int 2147483399))))
    (sSeq (sIf (tTestW (tOpW ltW (tV 0) (tOpW powW (tK (.int 10)) (tK (.int 18))))) (sRet (tV 2)) sNext)
    (sRet (tOpW modW (tOpW addW (tV 2) (tOpW modW (tOpW fdivW (tV 0) (tOpW powW (tK (.int 10)) (tK (.int 18)))) (tOpW addW (tK (.int 1)) (tOpW mulW (tOpW addW (tV 1) (tK (.int 1))) (tK (.int 4014476939333036189094441199026045136645885247730)))))) (tK (.int 2147483399))))))
theorem pow18 : (10 : Int) ^ Int.toNat 18 = 1000000000000000000 := by decide
theorem cmul_r {a b : Int} (h1 : -(2 ^ 64) < b) (h2 : b < 2 ^ 64) : MulC a b := .inl (.inr ⟨h1, h2⟩)
theorem cmul_l {a b : Int} (h1 : -(2 ^ 64) < a) (h2 : a < 2 ^ 64) : MulC a b := .inl (.inl ⟨h1, h2⟩)
theorem rd__law_mixed (ws : List W) (G : GH) (R : KW) (RX : XW) (h : P__law_mixed ws G R RX) : T__law_mixed { nx := fun _ G' => fgt R .non G', rt := fgt R } (startW N__law_mixed ws) G := by
  obtain ⟨c, k, rfl, hc, hk0, hk, q⟩ := h
  have m1 := Int.emod_nonneg ((c % 2147483399 + 104729 * k + 11) * 48271) (show (2147483399 : Int) ≠ 0 by decide)
  have m2 := Int.emod_lt_of_pos ((c % 2147483399 + 104729 * k + 11) * 48271) (show (0 : Int) < 2147483399 by decide)
  conv => whnf
  refine ⟨(show (0 : Int) < 2147483399 by decide), ?_⟩
  conv => whnf
  refine ⟨cmul_l (by decide) (by decide), ?_⟩
  conv => whnf
  refine ⟨cmul_r (by decide) (by decide), ?_⟩
  conv => whnf
  refine ⟨(show (0 : Int) < 2147483399 by decide), ?_⟩
  conv => whnf
  refine ⟨⟨by decide, by decide, by omega⟩, ?_⟩
  conv => whnf
  refine ⟨(show (0 : Int) < 2147483399 by decide), ?_⟩
  conv => whnf
  refine ⟨⟨by decide, by decide, by decide⟩, ?_⟩
  conv => whnf
  by_cases hb : c < 10 ^ Int.toNat 18
  · rw [decide_eq_true hb]
    conv => whnf
    exact ret (q _ (Int.emod_nonneg _ (by decide)) (Int.emod_lt_of_pos _ (by decide)))
  · rw [decide_eq_false hb]
    conv => whnf
    refine ⟨⟨by decide, by decide, by decide⟩, ?_⟩
    conv => whnf
    refine ⟨?_, ?_⟩
    · rw [pow18]
      exact .inr ⟨by decide, by decide⟩
    conv => whnf
    refine ⟨cmul_l (by omega) (by omega), ?_⟩
    conv => whnf
    refine ⟨by omega, ?_⟩
    conv => whnf
    refine ⟨(show (0 : Int) < 2147483399 by decide), ?_⟩
    exact ret (q _ (Int.emod_nonneg _ (by decide)) (Int.emod_lt_of_pos _ (by decide)))
/-! ### _law_next -/
abbrev N__law_next : List Str := ["draw", "size", "at", "many", "cell"]
structure P__law_next (ws : List W) (G : GH) (R : KW) (RX : XW) : Prop where
  ex : ∃ (ns : List Int) (d : Addr) (size : Int), ws = [.ref d, .int size] ∧ (0 < size) ∧ (Dr ns d G) ∧ (∀ r G', 0 ≤ r → r < size → Dr ns d G' → KeepG d G G' → R (.int r) G')
theorem len__law_next : ∀ ws G R RX, P__law_next ws G R RX → ws.length = ["draw", "size"].length := by
  rintro ws G R RX ⟨⟨_, _, _, rfl, _, _, _⟩⟩; rfl
theorem p__law_next {ns : List Int} {d : Addr} {size : Int} {G : GH} {R : KW} {RX : XW} (hs : 0 < size) (D : Dr ns d G) (q : ∀ r G', 0 ≤ r → r < size → Dr ns d G' → KeepG d G G' → R (.int r) G') : P__law_next [.ref d, .int size] G R RX := ⟨ns, d, size, rfl, hs, D, q⟩
def T__law_next : TWS :=
  (sSeq (sSet 2 (tOpW ixW (tV 0) (tK (.int 1))))
    (sSeq (sAsg (tOpW addW (tV 2) (tK (.int 1))) (gSubW (tV 0) (tK (.int 1)) setQ))
    (sSeq (sSet 3 (tCW (mm2W fun i j => if j > i then j else i) (tCo (tK (.int 1)) (tCo (tCW lenQ (tCo (tOpW ixW (tV 0) (tK (.int 0))) tN)) tN))))
    (sSeq (sSet 4 (tK (.int 0)))
    (sSeq (sIf (tTestW (tOpW (eqQ true) (tOpW ixW (tV 0) (tK (.int 0))) (tFz (tLstW tN)))) (sSet 4 (tOpW ixW (tOpW ixW (tV 0) (tK (.int 0))) (tOpW modW (tV 2) (tV 3)))) sNext)
    (sRet (tOpW modW (tOpW fdivW (tCall0 P__law_mixed [] (tCo (tV 4) (tCo (tOpW modW (tOpW fdivW (tV 2) (tV 3)) (tK (.int 127))) tN))) (tK (.int 7))) (tV 1))))))))
theorem rd__law_next (ws : List W) (G : GH) (R : KW) (RX : XW) (h : P__law_next ws G R RX) : T__law_next { nx := fun _ G' => fgt R .non G', rt := fgt R } (startW N__law_next ws) G := by
  obtain ⟨ns, d, size, rfl, hs, D, q⟩ := h
  have O := D.ok
  obtain ⟨⟨n, hd, hn⟩, _⟩ := D
  have hmn : 0 ≤ n % (if (ns.length : Int) > 1 then (ns.length : Int) else 1) := Int.emod_nonneg _ (by split <;> omega)
  have hmm : ns ≠ [] → n % (if (ns.length : Int) > 1 then (ns.length : Int) else 1) < ns.length := fun h => by
    have := List.length_pos_iff.mpr h
    have e : (if (ns.length : Int) > 1 then (ns.length : Int) else 1) = ns.length := by split <;> omega
    rw [e]
    exact Int.emod_lt_of_pos _ (by omega)
  have hm0 : 0 < (if (ns.length : Int) > 1 then (ns.length : Int) else 1) := by split <;> omega
  have hml : (if (ns.length : Int) > 1 then (ns.length : Int) else 1) < 64 := by have := O.len; split <;> omega
  have h7 : DivC n (if (ns.length : Int) > 1 then (ns.length : Int) else 1) := .inl ⟨hm0, by omega⟩
  have hk0 := Int.emod_nonneg (n / (if (ns.length : Int) > 1 then (ns.length : Int) else 1)) (show (127 : Int) ≠ 0 by decide)
  have hk1 := Int.emod_lt_of_pos (n / (if (ns.length : Int) > 1 then (ns.length : Int) else 1)) (show (0 : Int) < 127 by decide)
  (try conv => whnf); (repeat (first | (rw [hd]; conv => whnf) | (rw [updG_same]; conv => whnf) | (rw [List.length_map]; conv => whnf) | (refine Exists.intro _ (And.intro rfl ?_); conv => whnf) | (refine And.intro rfl ?_; conv => whnf) | (refine frz_lst ?_; conv => whnf) | (refine frz_dK ?_; conv => whnf) | (refine frz_dT ?_; conv => whnf)))
  have D1 : Dr ns d (updG G d (.lst [(W.fl (ns.map W.int)), .int (n + 1)])) := ⟨⟨n + 1, updG_same, by omega⟩, O⟩
  have kp : KeepG d G (updG G d (.lst [(W.fl (ns.map W.int)), .int (n + 1)])) := KeepG.put
  refine ⟨Nat.zero_le _, frz_lst ?_⟩
  refine eqS_hd (n := true) (a := ns) (b := ([] : List Int)) hd_fl (hd_fl (xs := ([] : List Int))) (by decide) ?_
  conv => whnf
  by_cases hns : ns = []
  · rw [decide_eq_true hns]
    (try conv => whnf); (repeat (first | (rw [List.length_map]; conv => whnf) | (refine Exists.intro _ (And.intro rfl ?_); conv => whnf) | (refine And.intro rfl ?_; conv => whnf) | (refine frz_lst ?_; conv => whnf) | (refine frz_dK ?_; conv => whnf) | (refine frz_dT ?_; conv => whnf)))
    refine ⟨h7, (show (0 : Int) < 127 by decide), 0, _, rfl, by decide, hk0, by omega, fun r r0 r1 => ?_⟩
    conv => whnf
    exact ⟨.inl ⟨by decide, by decide⟩, hs, ret (q _ _ (Int.emod_nonneg _ (by omega)) (Int.emod_lt_of_pos _ hs) D1 kp)⟩
  · rw [decide_eq_false hns]
    obtain ⟨z, hz1, hz2, hz3⟩ := atI_map (f := W.int) hmn (hmm hns)
    (try conv => whnf); (repeat (first | (rw [List.length_map]; conv => whnf) | (rw [updG_same]; conv => whnf) | (rw [List.length_map]; conv => whnf) | (refine Exists.intro _ (And.intro rfl ?_); conv => whnf) | (refine And.intro rfl ?_; conv => whnf) | (refine frz_lst ?_; conv => whnf) | (refine frz_dK ?_; conv => whnf) | (refine frz_dT ?_; conv => whnf)))
    refine ⟨hm0, ?_⟩
    (try conv => whnf); (repeat (first | (rw [List.length_map]; conv => whnf) | (refine Exists.intro _ (And.intro rfl ?_); conv => whnf) | (refine And.intro rfl ?_; conv => whnf) | (refine frz_lst ?_; conv => whnf) | (refine frz_dK ?_; conv => whnf) | (refine frz_dT ?_; conv => whnf)))
    refine ⟨_, hz3, ?_⟩
    conv => whnf
    refine ⟨h7, (show (0 : Int) < 127 by decide), z, _, rfl, O.bits z hz2, hk0, by omega, fun r r0 r1 => ?_⟩
    conv => whnf
    exact ⟨.inl ⟨by decide, by decide⟩, hs, ret (q _ _ (Int.emod_nonneg _ (by omega)) (Int.emod_lt_of_pos _ hs) D1 kp)⟩
end WS
set_option Elab.async false
set_option linter.all false
set_option maxRecDepth 100000
set_option maxHeartbeats 4000000
/-! LM: turns, plainly: composition, the inverse, clauses and answers. -/
namespace WS
open PySem PySem.Spec PyProof.Rows L2 WL

theorem goI_neg {ls : List Int} {l : Int} (h : 1 ≤ absI l) : goI ls (-l) = -goI ls l := by
  unfold absI at h
  unfold goI
  by_cases c : l > 0
  · rw [if_pos c, if_neg (by omega), Int.neg_neg]
  · rw [if_neg c, if_pos (by split at h <;> omega), Int.neg_neg]
end WS
namespace WL
open PySem PySem.Spec PyProof.Rows L2
theorem LetOf.neg {many l : Int} (h : LetOf many l) : LetOf many (-l) := by unfold LetOf; rw [absI_neg]; exact h
theorem LetOf.ofPos {many k : Int} (h0 : 1 ≤ k) (h1 : k ≤ many) : LetOf many k := by
  unfold LetOf absI; rw [if_neg (by omega)]; omega
theorem LetOf.ne {many l : Int} (h : LetOf many l) : l ≠ 0 := by
  unfold LetOf absI at h
  split at h <;> omega
theorem LetOf.cases {many l : Int} (h : LetOf many l) : (1 ≤ l ∧ l ≤ many) ∨ ∃ k, l = -k ∧ 1 ≤ k ∧ k ≤ many := by
  unfold LetOf absI at h
  split at h
  · exact .inr ⟨-l, by omega, h.1, h.2⟩
  · exact .inl h
end WL
namespace WS
open PySem PySem.Spec PyProof.Rows L2 WL
theorem goI_pos {ls : List Int} {k : Int} (h : 1 ≤ k) : goI ls k = ls.getD (k - 1).toNat 0 := by unfold goI; rw [if_pos (by omega)]
theorem goI_nat {ls : List Int} {i : Nat} : goI ls ((i : Int) + 1) = ls.getD i 0 := by rw [goI_pos (by omega)]; congr 1; omega
theorem absI_eq {a b : Int} (h : absI a = absI b) : a = b ∨ a = -b := by unfold absI at h; split at h <;> split at h <;> omega
theorem goI_inj {many : Int} {ls : List Int} (t : TurnOf many ls) {a b : Int} (ha : LetOf many a) (hb : LetOf many b) (e : goI ls a = goI ls b) : a = b := by
  rcases absI_eq (t.inj ha hb (by rw [e])) with h | h
  · exact h
  · subst h
    rw [goI_neg hb.1] at e
    have := (t.go hb).ne
    omega
/-- a turn is known by where the truths go -/
theorem turn_ext {many : Int} {a b : List Int} (ta : TurnOf many a) (tb : TurnOf many b) (h : ∀ k, 1 ≤ k → k ≤ many → goI a k = goI b k) : a = b := by
  have la := ta.len
  have lb := tb.len
  refine List.ext_getElem (by omega) fun i h1 h2 => ?_
  have := h ((i : Int) + 1) (by omega) (by omega)
  rw [goI_nat, goI_nat, List.getD_eq_getElem?_getD, List.getD_eq_getElem?_getD, List.getElem?_eq_getElem h1, List.getElem?_eq_getElem h2] at this
  exact this
/-- what leads each letter to one, no two truths to one, is a turn -/
theorem turn_of_go {many : Int} {ls : List Int} (h0 : 1 ≤ many) (h4 : many ≤ 400) (hl : (ls.length : Int) = many) (hm : ∀ l ∈ ls, LetOf many l) (nd : (absL ls).Nodup) : TurnOf many ls := by
  refine ⟨?_, h0, h4⟩
  refine perm_of _ _ nd (fun a ha => ?_) ?_
  · obtain ⟨l, hl, rfl⟩ := List.mem_map.mp ha
    have := hm l hl
    exact rgI_mem.mpr ⟨this.1, by have := this.2; omega⟩
  · rw [rgI_length, List.length_map]; omega
/-! ### first one, then the other -/
def thenL (a b : List Int) : List Int := a.map (goI b)
theorem go_then {many : Int} {a b : List Int} (ta : TurnOf many a) {l : Int} (h : LetOf many l) : goI (thenL a b) l = goI b (goI a l) := by
  have la := ta.len
  have pos : ∀ k, 1 ≤ k → k ≤ many → goI (thenL a b) k = goI b (goI a k) := fun k h0 h1 => by
    rw [goI_pos h0, goI_pos h0]
    unfold thenL
    have : (k - 1).toNat < a.length := by omega
    rw [List.getD_eq_getElem?_getD, List.getD_eq_getElem?_getD, List.getElem?_map, List.getElem?_eq_getElem this]; rfl
  rcases h.cases with h | ⟨k, rfl, h0, h1⟩
  · exact pos _ h.1 h.2
  · have hk := LetOf.ofPos (many := many) h0 h1
    rw [goI_neg hk.1, goI_neg hk.1, pos _ h0 h1, goI_neg (ta.go hk).1]
theorem then_turn {many : Int} {a b : List Int} (ta : TurnOf many a) (tb : TurnOf many b) : TurnOf many (thenL a b) :=
  turn_of_go ta.h0 ta.h4 (by unfold thenL; rw [List.length_map]; exact ta.len) (fun l hl => by
    obtain ⟨x, hx, rfl⟩ := List.mem_map.mp hl
    exact tb.go (ta.mem hx)) (tb.go_nodup (fun p hp => ta.mem hp) ta.nodup)
theorem then_assoc {many : Int} {a b c : List Int} (ta : TurnOf many a) (tb : TurnOf many b) (tc : TurnOf many c) : thenL (thenL a b) c = thenL a (thenL b c) :=
  turn_ext (then_turn (then_turn ta tb) tc) (then_turn ta (then_turn tb tc)) fun k h0 h1 => by
    have hk := LetOf.ofPos h0 h1
    rw [go_then (then_turn ta tb) hk, go_then ta hk, go_then ta hk, go_then tb (ta.go hk)]
/-! ### what leaves all -/
def stillL (many : Int) : List Int := rgI 1 (many + 1)
theorem rgI_get {a b : Int} {i : Nat} (h : i < (b - a).toNat) : (rgI a b)[i]? = some (a + i) := by
  unfold rgI
  rw [List.getElem?_map, List.getElem?_range h]; rfl
theorem go_still {many l : Int} (h : LetOf many l) : goI (stillL many) l = l := by
  have pos : ∀ k, 1 ≤ k → k ≤ many → goI (stillL many) k = k := fun k h0 h1 => by
    rw [goI_pos h0]
    unfold stillL
    rw [List.getD_eq_getElem?_getD, rgI_get (by omega)]
    show (1 : Int) + ((k - 1).toNat : Int) = k
    omega
  rcases h.cases with h | ⟨k, rfl, h0, h1⟩
  · exact pos _ h.1 h.2
  · rw [goI_neg (LetOf.ofPos (many := many) h0 h1).1, pos _ h0 h1]
theorem still_turn {many : Int} (h0 : 1 ≤ many) (h4 : many ≤ 400) : TurnOf many (stillL many) := by
  refine ⟨?_, h0, h4⟩
  unfold stillL
  rw [absL_rgI]
theorem then_still {many : Int} {a : List Int} (ta : TurnOf many a) : thenL a (stillL many) = a :=
  turn_ext (then_turn ta (still_turn ta.h0 ta.h4)) ta fun k h0 h1 => by rw [go_then ta (LetOf.ofPos h0 h1), go_still (ta.go (LetOf.ofPos h0 h1))]
theorem still_then {many : Int} {a : List Int} (ta : TurnOf many a) : thenL (stillL many) a = a :=
  turn_ext (then_turn (still_turn ta.h0 ta.h4) ta) ta fun k h0 h1 => by rw [go_then (still_turn ta.h0 ta.h4) (LetOf.ofPos h0 h1), go_still (LetOf.ofPos h0 h1)]
/-! ### what leads back -/
def backAt : List Int → Int → Int → Int
  | [], _, _ => 0
  | l :: ls, i, k => if absI l = k then (if l > 0 then i else -i) else backAt ls (i + 1) k
def backL (ls : List Int) : List Int := (rgI 1 ((ls.length : Int) + 1)).map (backAt ls 1)
theorem backAt_spec : ∀ (ls : List Int) (i k : Int), k ∈ absL ls → ∃ j : Nat, j < ls.length ∧ ((backAt ls i k = i + j ∧ ls[j]? = some k) ∨ (backAt ls i k = -(i + j) ∧ ls[j]? = some (-k)))
  | [], _, _, h => by cases h
  | l :: ls, i, k, h => by
    unfold backAt
    by_cases c : absI l = k
    · rw [if_pos c]
      refine ⟨0, by simp, ?_⟩
      by_cases d : l > 0
      · rw [if_pos d]
        refine .inl ⟨by simp, ?_⟩
        rw [← c]; unfold absI; rw [if_neg (by omega)]; rfl
      · rw [if_neg d]
        refine .inr ⟨by simp, ?_⟩
        rw [← c]; unfold absI
        by_cases e : l < 0
        · rw [if_pos e, Int.neg_neg]; rfl
        · rw [if_neg e, show l = 0 by omega]; rfl
    · rw [if_neg c]
      rcases List.mem_cons.mp h with e | h
      · exact absurd e.symm c
      · obtain ⟨j, hj, e⟩ := backAt_spec ls (i + 1) k h
        refine ⟨j + 1, by simp; omega, ?_⟩
        rcases e with ⟨e1, e2⟩ | ⟨e1, e2⟩
        · exact .inl ⟨by rw [e1]; push_cast; omega, by simpa using e2⟩
        · exact .inr ⟨by rw [e1]; push_cast; omega, by simpa using e2⟩
theorem go_backAt {many : Int} {ls : List Int} (t : TurnOf many ls) {k : Int} (h0 : 1 ≤ k) (h1 : k ≤ many) : LetOf many (backAt ls 1 k) ∧ goI ls (backAt ls 1 k) = k := by
  have hl := t.len
  obtain ⟨j, hj, e⟩ := backAt_spec ls 1 k (t.pm.mem_iff.mpr (rgI_mem.mpr ⟨h0, by omega⟩))
  rcases e with ⟨e1, e2⟩ | ⟨e1, e2⟩
  · rw [e1]
    refine ⟨LetOf.ofPos (by omega) (by omega), ?_⟩
    rw [show (1 : Int) + j = (j : Int) + 1 by omega, goI_nat, List.getD_eq_getElem?_getD, e2]; rfl
  · rw [e1]
    refine ⟨(LetOf.ofPos (many := many) (by omega) (by omega)).neg, ?_⟩
    rw [goI_neg (LetOf.ofPos (many := many) (by omega) (by omega)).1, show (1 : Int) + j = (j : Int) + 1 by omega, goI_nat, List.getD_eq_getElem?_getD, e2]
    show - -k = k
    omega
theorem goI_back_pos {many : Int} {ls : List Int} (t : TurnOf many ls) {k : Int} (h0 : 1 ≤ k) (h1 : k ≤ many) : goI (backL ls) k = backAt ls 1 k := by
  have hl := t.len
  rw [goI_pos h0]
  unfold backL
  rw [List.getD_eq_getElem?_getD, List.getElem?_map, rgI_get (by omega)]
  show backAt ls 1 (1 + ((k - 1).toNat : Int)) = _
  congr 1; omega
theorem go_back {many : Int} {ls : List Int} (t : TurnOf many ls) {l : Int} (h : LetOf many l) : LetOf many (goI (backL ls) l) ∧ goI ls (goI (backL ls) l) = l := by
  rcases h.cases with h | ⟨k, rfl, h0, h1⟩
  · rw [goI_back_pos t h.1 h.2]
    exact go_backAt t h.1 h.2
  · obtain ⟨u1, u2⟩ := go_backAt t h0 h1
    rw [goI_neg (LetOf.ofPos (many := many) h0 h1).1, goI_back_pos t h0 h1]
    exact ⟨u1.neg, by rw [goI_neg u1.1, u2]⟩
theorem back_turn {many : Int} {ls : List Int} (t : TurnOf many ls) : TurnOf many (backL ls) := by
  have hl := t.len
  refine turn_of_go t.h0 t.h4 (by unfold backL; rw [List.length_map, rgI_length]; have := t.h0; omega) (fun l hm => ?_) ?_
  · obtain ⟨k, hk, rfl⟩ := List.mem_map.mp hm
    have := rgI_mem.mp hk
    exact (go_backAt t this.1 (by omega)).1
  · unfold absL backL
    rw [List.map_map, List.Nodup, List.pairwise_map]
    refine List.Pairwise.imp_of_mem ?_ (rgI_nodup 1 ((ls.length : Int) + 1))
    intro a b ha hb ne e
    have ha := rgI_mem.mp ha
    have hb := rgI_mem.mp hb
    obtain ⟨a1, a2⟩ := go_backAt t ha.1 (by omega)
    obtain ⟨b1, b2⟩ := go_backAt t hb.1 (by omega)
    have e : absI (backAt ls 1 a) = absI (backAt ls 1 b) := e
    rcases absI_eq e with e | e
    · rw [e, b2] at a2; exact ne a2.symm
    · rw [e, goI_neg b1.1, b2] at a2; omega
theorem back_go {many : Int} {ls : List Int} (t : TurnOf many ls) {l : Int} (h : LetOf many l) : goI (backL ls) (goI ls l) = l := by
  obtain ⟨h1, h2⟩ := go_back t (t.go h)
  exact goI_inj t h1 h h2
theorem then_back {many : Int} {ls : List Int} (t : TurnOf many ls) : thenL ls (backL ls) = stillL many :=
  turn_ext (then_turn t (back_turn t)) (still_turn t.h0 t.h4) fun k h0 h1 => by
    have hk := LetOf.ofPos h0 h1
    rw [go_then t hk, go_still hk, back_go t hk]
theorem back_then {many : Int} {ls : List Int} (t : TurnOf many ls) : thenL (backL ls) ls = stillL many :=
  turn_ext (then_turn (back_turn t) t) (still_turn t.h0 t.h4) fun k h0 h1 => by
    have hk := LetOf.ofPos h0 h1
    rw [go_then (back_turn t) hk, go_still hk, (go_back t hk).2]
theorem back_of_then {many : Int} {a b : List Int} (ta : TurnOf many a) (tb : TurnOf many b) : backL (thenL a b) = thenL (backL b) (backL a) :=
  turn_ext (back_turn (then_turn ta tb)) (then_turn (back_turn tb) (back_turn ta)) fun k h0 h1 => by
    have hk := LetOf.ofPos h0 h1
    obtain ⟨u1, u2⟩ := go_back tb hk
    obtain ⟨v1, v2⟩ := go_back ta u1
    obtain ⟨w1, w2⟩ := go_back (then_turn ta tb) hk
    refine goI_inj (then_turn ta tb) w1 (by rw [go_then (back_turn tb) hk]; exact v1) ?_
    rw [w2, go_then (back_turn tb) hk, go_then ta v1, v2, u2]
/-! ### clauses -/
def clauseL (t c : List Int) : List Int := byAbs (c.map (goI t))
theorem clause_len {t c : List Int} : (clauseL t c).length = c.length := by unfold clauseL; rw [byAbs_len, List.length_map]
theorem clause_mem {t c : List Int} {l : Int} : l ∈ clauseL t c ↔ ∃ x ∈ c, goI t x = l := by
  unfold clauseL
  rw [(byAbs_perm _).mem_iff, List.mem_map]
theorem clause_let {many : Int} {t c : List Int} (ht : TurnOf many t) (h : ∀ l ∈ c, LetOf many l) : ∀ l ∈ clauseL t c, LetOf many l := fun l hl => by
  obtain ⟨x, hx, rfl⟩ := clause_mem.mp hl
  exact ht.go (h x hx)
theorem clause_nodup {many : Int} {t c : List Int} (ht : TurnOf many t) (h : ∀ l ∈ c, LetOf many l) (nd : (absL c).Nodup) : (absL (clauseL t c)).Nodup := by
  unfold clauseL absL
  exact ((byAbs_perm _).map absI).nodup_iff.mpr (ht.go_nodup h nd)
theorem clause_then {many : Int} {a b c : List Int} (ta : TurnOf many a) (tb : TurnOf many b) (h : ∀ l ∈ c, LetOf many l) (nd : (absL c).Nodup) : clauseL (thenL a b) c = clauseL b (clauseL a c) := by
  unfold clauseL
  rw [byAbs_go tb (part := c.map (goI a)) (fun p hp => ?_) (ta.go_nodup h nd), List.map_map]
  · congr 1
    exact List.map_congr_left fun l hl => go_then ta (h l hl)
  · obtain ⟨x, hx, rfl⟩ := List.mem_map.mp hp
    exact ta.go (h x hx)
theorem clause_still {many : Int} {c : List Int} (h : ∀ l ∈ c, LetOf many l) : clauseL (stillL many) c = byAbs c := by
  unfold clauseL
  congr 1
  conv => rhs; rw [← List.map_id c]
  exact List.map_congr_left fun l hl => go_still (h l hl)
/-- a clause as it is told: its letters rising by truths -/
structure ClauseOf (many : Int) (c : List Int) : Prop where
  mem : ∀ l ∈ c, LetOf many l
  nd : (absL c).Nodup
  up : c.Pairwise fun a b => absI a ≤ absI b
theorem byAbs_self {c : List Int} (up : c.Pairwise fun a b => absI a ≤ absI b) (nd : (absL c).Nodup) : byAbs c = c := abs_uniq (byAbs_perm c) (byAbs_pw c) up nd
theorem ClauseOf.img {many : Int} {t c : List Int} (k : ClauseOf many c) (ht : TurnOf many t) : ClauseOf many (clauseL t c) := ⟨clause_let ht k.mem, clause_nodup ht k.mem k.nd, byAbs_pw _⟩
theorem clause_back {many : Int} {t c : List Int} (ht : TurnOf many t) (k : ClauseOf many c) : clauseL (backL t) (clauseL t c) = c := by
  rw [← clause_then ht (back_turn ht) k.mem k.nd, then_back ht, clause_still k.mem, byAbs_self k.up k.nd]
theorem nodup_sub_len {α : Type} [BEq α] [LawfulBEq α] : ∀ (A L : List α), A.Nodup → (∀ a ∈ A, a ∈ L) → A.length ≤ L.length
  | [], _, _, _ => Nat.zero_le _
  | a :: A, L, nd, h => by
    rw [List.nodup_cons] at nd
    have ha := h a List.mem_cons_self
    have := nodup_sub_len A (L.erase a) nd.2 fun x hx => (List.mem_erase_of_ne (by rintro rfl; exact nd.1 hx)).mpr (h x (List.mem_cons_of_mem _ hx))
    rw [List.length_erase_of_mem ha] at this
    have := List.length_pos_of_mem ha
    rw [List.length_cons]; omega
theorem len_le_of_abs {many : Int} (h0 : 0 ≤ many) {c : List Int} (h : ∀ l ∈ c, LetOf many l) (nd : (absL c).Nodup) : (c.length : Int) ≤ many := by
  have : (absL c).length ≤ (rgI 1 (many + 1)).length := by
    refine nodup_sub_len _ _ nd fun a ha => ?_
    obtain ⟨l, hl, rfl⟩ := List.mem_map.mp ha
    have := h l hl
    exact rgI_mem.mpr ⟨this.1, by have := this.2; omega⟩
  rw [List.length_map, rgI_length] at this
  omega
theorem ClauseOf.len {many : Int} {c : List Int} (k : ClauseOf many c) (h0 : 0 ≤ many) : (c.length : Int) ≤ many := len_le_of_abs h0 k.mem k.nd
/-! ### answers -/
/-- whether a letter holds -/
def holdB (bs : List Int) (l : Int) : Bool := decide (bs.getD (absI l - 1).toNat 0 = if l > 0 then 1 else 0)
def holdsB (c bs : List Int) : Bool := c.any (holdB bs)
structure BitsOf (many : Int) (bs : List Int) : Prop where
  len : (bs.length : Int) = many
  bit : ∀ b ∈ bs, b = 0 ∨ b = 1
theorem BitsOf.get {many : Int} {bs : List Int} (B : BitsOf many bs) {l : Int} (h : LetOf many l) : bs.getD (absI l - 1).toNat 0 ∈ bs ∧ atI (bs.map W.int) (absI l - 1) = some (.int (bs.getD (absI l - 1).toNat 0)) := by
  have := B.len
  have := h.1
  have := h.2
  obtain ⟨z, z1, z2, z3⟩ := atI_map (f := W.int) (xs := bs) (i := absI l - 1) (by omega) (by omega)
  rw [List.getD_eq_getElem?_getD, z1]
  exact ⟨z2, z3⟩
theorem holdB_neg {many : Int} {bs : List Int} (B : BitsOf many bs) {l : Int} (h : LetOf many l) : holdB bs (-l) = !holdB bs l := by
  have hb := B.bit _ (B.get h).1
  have hn := h.ne
  unfold holdB
  rw [absI_neg]
  rcases hb with e | e
  · rw [e]
    by_cases c : l > 0
    · rw [if_pos c, if_neg (by omega)]; rfl
    · rw [if_neg c, if_pos (by omega)]; rfl
  · rw [e]
    by_cases c : l > 0
    · rw [if_pos c, if_neg (by omega)]; rfl
    · rw [if_neg c, if_pos (by omega)]; rfl
theorem holdB_pos {bs : List Int} {k : Int} (h : 1 ≤ k) : holdB bs k = decide (bs.getD (k - 1).toNat 0 = 1) := by
  unfold holdB
  rw [if_pos (by omega), show absI k = k by unfold absI; rw [if_neg (by omega)]]
theorem bits_ext {many : Int} {as bs : List Int} (A : BitsOf many as) (B : BitsOf many bs) (h : ∀ k, 1 ≤ k → k ≤ many → holdB as k = holdB bs k) : as = bs := by
  have la := A.len
  have lb := B.len
  refine List.ext_getElem (by omega) fun i h1 h2 => ?_
  have := h ((i : Int) + 1) (by omega) (by omega)
  rw [holdB_pos (by omega), holdB_pos (by omega), show ((i : Int) + 1 - 1).toNat = i by omega, List.getD_eq_getElem?_getD, List.getD_eq_getElem?_getD, List.getElem?_eq_getElem h1, List.getElem?_eq_getElem h2] at this
  have this : decide (as[i] = 1) = decide (bs[i] = 1) := this
  rcases A.bit _ (List.getElem_mem h1) with e1 | e1 <;> rcases B.bit _ (List.getElem_mem h2) with e2 | e2 <;> rw [e1, e2] at this ⊢ <;> simp at this
/-- a turned answer -/
def ansL (t bs : List Int) : List Int := (rgI 1 ((t.length : Int) + 1)).map (bitAt t bs)
theorem bitAt_spec : ∀ (ls bs : List Int) (k : Int), ls.length = bs.length → k ∈ absL ls → ∃ (j : Nat) (b : Int), bs[j]? = some b ∧ ((bitAt ls bs k = b ∧ ls[j]? = some k ∧ 0 < k) ∨ (bitAt ls bs k = 1 - b ∧ ls[j]? = some (-k)))
  | [], _, _, _, h => by cases h
  | l :: ls, [], k, hl, _ => by cases hl
  | l :: ls, b :: bs, k, hl, h => by
    unfold bitAt
    by_cases c : absI l = k
    · rw [if_pos c]
      refine ⟨0, b, rfl, ?_⟩
      by_cases d : l > 0
      · rw [if_pos d]
        have : k = l := by rw [← c]; unfold absI; rw [if_neg (by omega)]
        exact .inl ⟨rfl, by rw [this]; rfl, by omega⟩
      · rw [if_neg d]
        refine .inr ⟨rfl, ?_⟩
        rw [← c]; unfold absI
        by_cases e : l < 0
        · rw [if_pos e, Int.neg_neg]; rfl
        · rw [if_neg e, show l = 0 by omega]; rfl
    · rw [if_neg c]
      rcases List.mem_cons.mp h with e | h
      · exact absurd e.symm c
      · obtain ⟨j, b', hb, e⟩ := bitAt_spec ls bs k (by simpa using hl) h
        exact ⟨j + 1, b', by simpa using hb, by simpa using e⟩
theorem ans_bits {many : Int} {t bs : List Int} (ht : TurnOf many t) (B : BitsOf many bs) : BitsOf many (ansL t bs) := by
  have hl := ht.len
  have hb := B.len
  refine ⟨by unfold ansL; rw [List.length_map, rgI_length]; have := ht.h0; omega, fun b hm => ?_⟩
  obtain ⟨k, hk, rfl⟩ := List.mem_map.mp hm
  have hk := rgI_mem.mp hk
  obtain ⟨j, b, h1, h2⟩ := bitAt_spec t bs k (by omega) (ht.pm.mem_iff.mpr (rgI_mem.mpr ⟨hk.1, by omega⟩))
  have := B.bit b (List.mem_of_getElem? h1)
  rcases h2 with ⟨e, _⟩ | ⟨e, _⟩ <;> rw [e] <;> omega
/-- a letter holds just where its image holds in the image -/
theorem hold_img {many : Int} {t bs : List Int} (ht : TurnOf many t) (B : BitsOf many bs) {l : Int} (h : LetOf many l) : holdB (ansL t bs) (goI t l) = holdB bs l := by
  have hl := ht.len
  have hb := B.len
  have BA := ans_bits ht B
  -- at a truth k
  have pos : ∀ k, 1 ≤ k → k ≤ many → holdB (ansL t bs) k = holdB bs (goI (backL t) k) := fun k h0 h1 => by
    obtain ⟨j, b, e1, e2⟩ := bitAt_spec t bs k (by omega) (ht.pm.mem_iff.mpr (rgI_mem.mpr ⟨h0, by omega⟩))
    have hjl : j < bs.length := (List.getElem?_eq_some_iff.mp e1).1
    have eb : bs.getD j 0 = b := by rw [List.getD_eq_getElem?_getD, e1]; rfl
    have ek : (ansL t bs).getD (k - 1).toNat 0 = bitAt t bs k := by
      unfold ansL
      rw [List.getD_eq_getElem?_getD, List.getElem?_map, rgI_get (by omega)]
      show bitAt t bs (1 + ((k - 1).toNat : Int)) = _
      congr 1; omega
    have hk := LetOf.ofPos (many := many) h0 h1
    have bit := B.bit b (List.mem_of_getElem? e1)
    have hjL := LetOf.ofPos (many := many) (k := (j : Int) + 1) (by omega) (by omega)
    rw [holdB_pos h0, ek]
    rcases e2 with ⟨e2, e3, _⟩ | ⟨e2, e3⟩
    · have : goI (backL t) k = (j : Int) + 1 := by
        refine goI_inj ht (go_back ht hk).1 hjL ?_
        rw [(go_back ht hk).2, goI_nat, List.getD_eq_getElem?_getD, e3]; rfl
      rw [this, holdB_pos (by omega), show ((j : Int) + 1 - 1).toNat = j by omega, eb, e2]
    · have : goI (backL t) k = -((j : Int) + 1) := by
        refine goI_inj ht (go_back ht hk).1 hjL.neg ?_
        rw [(go_back ht hk).2, goI_neg hjL.1, goI_nat, List.getD_eq_getElem?_getD, e3]
        show k = - -k
        omega
      rw [this, holdB_neg B hjL, holdB_pos (by omega), show ((j : Int) + 1 - 1).toNat = j by omega, eb, e2]
      rcases bit with e | e <;> rw [e] <;> rfl
  have hg := ht.go h
  by_cases c : goI t l > 0
  · rw [pos _ (by omega) (by have := hg.2; unfold absI at this; split at this <;> omega), back_go ht h]
  · have hn := hg.neg
    have c2 : 1 ≤ -goI t l := by have := hg.ne; omega
    have e := pos (-goI t l) c2 (by have := hn.2; unfold absI at this; split at this <;> omega)
    rw [holdB_neg BA hg, ← goI_neg h.1, back_go ht h.neg, holdB_neg B h] at e
    exact Bool.not_inj e
theorem holds_img {many : Int} {t bs c : List Int} (ht : TurnOf many t) (B : BitsOf many bs) (hc : ∀ l ∈ c, LetOf many l) : holdsB (clauseL t c) (ansL t bs) = holdsB c bs := by
  unfold holdsB
  rw [Bool.eq_iff_iff, List.any_eq_true, List.any_eq_true]
  constructor
  · rintro ⟨y, hy, e⟩
    obtain ⟨x, hx, rfl⟩ := clause_mem.mp hy
    exact ⟨x, hx, by rw [← hold_img ht B (hc x hx)]; exact e⟩
  · rintro ⟨x, hx, e⟩
    exact ⟨goI t x, clause_mem.mpr ⟨x, hx, rfl⟩, by rw [hold_img ht B (hc x hx)]; exact e⟩
/-- the image is known by its letters -/
theorem ans_uniq {many : Int} {t bs cs : List Int} (ht : TurnOf many t) (B : BitsOf many bs) (C : BitsOf many cs) (h : ∀ l, LetOf many l → holdB cs (goI t l) = holdB bs l) : cs = ansL t bs :=
  bits_ext C (ans_bits ht B) fun k h0 h1 => by
    have hk := LetOf.ofPos (many := many) h0 h1
    obtain ⟨u1, u2⟩ := go_back ht hk
    rw [← u2, h _ u1, hold_img ht B u1]
theorem ans_then {many : Int} {a b bs : List Int} (ta : TurnOf many a) (tb : TurnOf many b) (B : BitsOf many bs) : ansL (thenL a b) bs = ansL b (ansL a bs) :=
  (ans_uniq (then_turn ta tb) B (ans_bits tb (ans_bits ta B)) fun l hl => by rw [go_then ta hl, hold_img tb (ans_bits ta B) (ta.go hl), hold_img ta B hl]).symm
theorem ans_still {many : Int} {bs : List Int} (h0 : 1 ≤ many) (h4 : many ≤ 400) (B : BitsOf many bs) : ansL (stillL many) bs = bs :=
  (ans_uniq (still_turn h0 h4) B B fun l hl => by rw [go_still hl]).symm
theorem ans_back {many : Int} {t bs : List Int} (ht : TurnOf many t) (B : BitsOf many bs) : ansL (backL t) (ansL t bs) = bs := by
  rw [← ans_then ht (back_turn ht) B, then_back ht, ans_still ht.h0 ht.h4 B]
end WS
set_option Elab.async false
set_option linter.all false
set_option maxRecDepth 100000
set_option maxHeartbeats 4000000
namespace WS
open PySem PySem.Spec PyProof.Rows L2 WL
def isInt : W → Bool
  | .int _ => true
  | _ => false
def letterB (many : Int) : W → Bool
  | .int i => decide (1 ≤ (if i < 0 then -i else i)) && decide ((if i < 0 then -i else i) ≤ many)
  | _ => false
def absK : W → Key
  | .int i => .inl (if i < 0 then -i else i)
  | _ => .inl 0
def turnB (many : Int) : W → Bool
  | .tup xs => decide ((xs.length : Int) = many) && (decide (1 ≤ (xs.length : Int)) && decide ((xs.length : Int) ≤ 400)) && ((xs.all (letterB many)) && decide (((ded [] (xs.map absK)).length : Int) = many))
  | _ => false
/-- what may be asked: its type stands, and its items' -/
structure Ask (G : GH) (w : W) : Prop where
  ty : tyW w G ≠ none
  nk : ∀ xs, w ≠ .kt xs
  it : ∀ xs, w = .tup xs → xs.length ≤ 1000 ∧ ∀ x ∈ xs, Dat G x
theorem tyW_ne {w : W} {G G' : GH} (x : ExtG G G') (h : tyW w G ≠ none) : tyW w G' ≠ none := by
  cases e : tyW w G with
  | none => exact absurd e h
  | some t => rw [tyW_ext x e]; simp
theorem Ask.ext {G G' : GH} {w : W} (a : Ask G w) (x : ExtG G G') : Ask G' w := ⟨tyW_ne x a.ty, a.nk, fun xs e => ⟨(a.it xs e).1, fun y hy => ((a.it xs e).2 y hy).ext x⟩⟩
theorem isiW_of {T : Ty} {w : W} {G : GH} {t : Ty} {R : KW} (h : tyW w G = some t) (k : R (.bl (isaT t T)) G) : isiW T w G R := by
  unfold isiW
  rw [h]
  exact k
theorem turn_yes {many : Int} {ls : List Int} (t : TurnOf many ls) : turnB many (.tup (ls.map W.int)) = true := by
  have h0 := t.h0
  have h4 := t.h4
  have hl := t.len
  have e1 : (ls.map W.int).map absK = (absL ls).map Sum.inl := by unfold absL; rw [List.map_map, List.map_map]; rfl
  have e2 : (ls.map W.int).all (letterB many) = true := List.all_eq_true.mpr fun x hx => by
    obtain ⟨l, hl, rfl⟩ := List.mem_map.mp hx
    have := t.mem hl
    unfold absI at this
    unfold letterB
    dsimp only
    rw [decide_eq_true this.1, decide_eq_true this.2]; rfl
  have nk : ((absL ls).map Sum.inl : List Key).Nodup := by
    rw [List.Nodup, List.pairwise_map]
    exact t.nodup.imp fun hne e => hne (Sum.inl.inj e)
  have e3 := (ded_nodup _).mpr nk
  rw [List.length_map, List.length_map] at e3
  unfold turnB
  dsimp only
  rw [e1, e2, e3, List.length_map, hl, decide_eq_true rfl, decide_eq_true h0, decide_eq_true h4]; rfl
theorem ask_ints (ls : List Int) (G : GH) (h : ls.length ≤ 1000) : Ask G (.tup (ls.map W.int)) := ⟨by simp [tyW], fun ys z => (by cases z), fun ys z => (by
  cases z
  refine ⟨by simpa using h, fun x hx => ?_⟩
  obtain ⟨n, _, rfl⟩ := List.mem_map.mp hx
  exact dat_int n)⟩
theorem intsIn_fdK {kws : List (Key × W)} {G : GH} {ns : List Int} (e : intsOf (kws.map fun kw => kW kw.1) = some ns) : intsIn (.fdK kws) G = some ns := e
theorem paired_abs : ∀ {ls zs : List Int}, Paired (fun y z => absI z = absI y) ls zs → absL zs = absL ls
  | _, _, .nil => rfl
  | _, _, .cons h t => by
    unfold absL
    rw [List.map_cons, List.map_cons, h]
    congr 1
    exact paired_abs t
/-- each once, as it comes first -/
def dedA : List Int → List Int → List Int
  | acc, [] => acc
  | acc, n :: ns => dedA (if n ∈ acc then acc else acc ++ [n]) ns
def dedI (ns : List Int) : List Int := dedA [] ns
theorem dedA_mem : ∀ (ns acc : List Int) (x : Int), x ∈ dedA acc ns ↔ x ∈ acc ∨ x ∈ ns
  | [], acc, x => by simp [dedA]
  | n :: ns, acc, x => by
    unfold dedA
    rw [dedA_mem]
    by_cases h : n ∈ acc
    · rw [if_pos h]
      constructor
      · rintro (h | h)
        · exact .inl h
        · exact .inr (List.mem_cons_of_mem _ h)
      · rintro (h2 | h2)
        · exact .inl h2
        · rcases List.mem_cons.mp h2 with rfl | h2
          · exact .inl h
          · exact .inr h2
    · rw [if_neg h]
      simp only [List.mem_append, List.mem_singleton, List.mem_cons, List.not_mem_nil, or_false, or_assoc]
theorem dedA_nodup : ∀ (ns acc : List Int), acc.Nodup → (dedA acc ns).Nodup
  | [], acc, h => h
  | n :: ns, acc, h => by
    unfold dedA
    refine dedA_nodup ns _ ?_
    by_cases e : n ∈ acc
    · rw [if_pos e]; exact h
    · rw [if_neg e, List.nodup_append]
      exact ⟨h, by simp, fun a ha b hb => by rw [List.mem_singleton.mp hb]; rintro rfl; exact e ha⟩
theorem dedA_self : ∀ (ns acc : List Int), (acc ++ ns).Nodup → dedA acc ns = acc ++ ns
  | [], acc, _ => by simp [dedA]
  | n :: ns, acc, h => by
    unfold dedA
    rw [if_neg (fun e => (List.nodup_append.mp h).2.2 n e n List.mem_cons_self rfl), dedA_self ns _ (by simpa using h)]
    simp
theorem dedI_mem {ns : List Int} {x : Int} : x ∈ dedI ns ↔ x ∈ ns := by unfold dedI; rw [dedA_mem]; simp
theorem dedI_nodup (ns : List Int) : (dedI ns).Nodup := dedA_nodup ns [] .nil
theorem dedI_self {ns : List Int} (h : ns.Nodup) : dedI ns = ns := by unfold dedI; rw [dedA_self ns [] (by simpa using h)]; rfl
theorem dedA_len : ∀ (ns acc : List Int), (dedA acc ns).length ≤ acc.length + ns.length
  | [], acc => by simp [dedA]
  | n :: ns, acc => by
    unfold dedA
    have := dedA_len ns (if n ∈ acc then acc else acc ++ [n])
    have : (if n ∈ acc then acc else acc ++ [n]).length ≤ acc.length + 1 := by split <;> simp
    rw [List.length_cons]; omega
theorem dedI_len (ns : List Int) : (dedI ns).length ≤ ns.length := by show (dedA [] ns).length ≤ _; have := dedA_len ns []; simpa using this
theorem merge_dedA {c : W} : ∀ (ns acc : List Int), mergeW (acc.map fun n => ((Sum.inl n : Key), c)) (ns.map fun n => ((Sum.inl n : Key), c)) = (dedA acc ns).map fun n => ((Sum.inl n : Key), c)
  | [], acc => rfl
  | n :: ns, acc => by
    unfold dedA
    rw [List.map_cons]
    unfold mergeW
    have e : putW (acc.map fun n => ((Sum.inl n : Key), c)) (Sum.inl n) c = (if n ∈ acc then acc else acc ++ [n]).map fun n => ((Sum.inl n : Key), c) := by
      unfold putW
      have ea : ((acc.map fun n => ((Sum.inl n : Key), c)).any fun kv => decide (kv.1 = Sum.inl n)) = decide (n ∈ acc) := by
        rw [Bool.eq_iff_iff, List.any_eq_true, decide_eq_true_iff]
        constructor
        · rintro ⟨x, hx, e⟩
          obtain ⟨m, hm, rfl⟩ := List.mem_map.mp hx
          have := Sum.inl.inj (of_decide_eq_true e)
          exact this ▸ hm
        · intro h
          exact ⟨_, List.mem_map_of_mem h, decide_eq_true rfl⟩
      rw [ea]
      by_cases h : n ∈ acc
      · rw [decide_eq_true h, if_pos rfl, if_pos h]
        conv => rhs; rw [← List.map_id (List.map _ acc)]
        refine List.map_congr_left fun x hx => ?_
        obtain ⟨m, hm, rfl⟩ := List.mem_map.mp hx
        split
        · rename_i q; rw [Sum.inl.inj q]; rfl
        · rfl
      · rw [decide_eq_false h, if_neg (by decide), if_neg h, List.map_append]; rfl
    rw [e]
    exact merge_dedA ns _
theorem merge_dedI {c : W} (ns : List Int) : mergeW [] (ns.map fun n => ((Sum.inl n : Key), c)) = (dedI ns).map fun n => ((Sum.inl n : Key), c) := merge_dedA ns []
theorem enum_snd {α : Type} : ∀ (k : Int) (xs : List α), (enumI k xs).map (·.2) = xs
  | _, [] => rfl
  | k, x :: xs => by
    show x :: (enumI (k + 1) xs).map (·.2) = _
    rw [enum_snd]
theorem merge_enum {ls : List Int} {vf : Int × Int → W} {k : Int} (nd : (absL ls).Nodup) : mergeW [] ((enumI k ls).map fun p => ((Sum.inl (absI p.2) : Key), vf p)) = (enumI k ls).map fun p => ((Sum.inl (absI p.2) : Key), vf p) := by
  rw [mergeW_nodup _ _ ?_, List.nil_append]
  rw [List.map_nil, List.nil_append, List.map_map]
  have e : (enumI k ls).map ((·.1) ∘ fun p : Int × Int => ((Sum.inl (absI p.2) : Key), vf p)) = (absL ls).map Sum.inl := by
    conv => rhs; rw [← enum_snd k ls]
    unfold absL
    rw [List.map_map, List.map_map]; rfl
  rw [e, List.Nodup, List.pairwise_map]
  exact nd.imp fun hne e => hne (Sum.inl.inj e)
theorem val_backAt : ∀ (ls : List Int) (i k : Int), k ∈ absL ls → valW ((enumI i ls).map fun p => ((Sum.inl (absI p.2) : Key), W.int (if p.2 > 0 then p.1 else -p.1))) (Sum.inl k) = some (.int (backAt ls i k))
  | [], _, k, h => by cases h
  | l :: ls, i, k, h => by
    unfold backAt valW
    show (List.find? _ (((Sum.inl (absI l) : Key), W.int (if l > 0 then i else -i)) :: (enumI (i + 1) ls).map _)).map _ = _
    rw [List.find?_cons]
    by_cases c : absI l = k
    · rw [if_pos c]
      dsimp only
      rw [decide_eq_true (show (Sum.inl (absI l) : Key) = Sum.inl k by rw [c])]; rfl
    · rw [if_neg c]
      dsimp only
      rw [decide_eq_false (show ¬ (Sum.inl (absI l) : Key) = Sum.inl k from fun z => c (Sum.inl.inj z))]
      rcases List.mem_cons.mp h with e | h
      · exact absurd e.symm c
      · exact val_backAt ls (i + 1) k h
/-! ### is_number -/
abbrev N_is_number : List Str := ["thing"]
structure P_is_number (ws : List W) (G : GH) (R : KW) (RX : XW) : Prop where
  ex : ∃ (w : W), ws = [w] ∧ (tyW w G ≠ none) ∧ (R (.bl (isInt w)) G)
theorem len_is_number : ∀ ws G R RX, P_is_number ws G R RX → ws.length = ["thing"].length := by
  rintro ws G R RX ⟨⟨_, rfl, _, _⟩⟩; rfl
theorem p_is_number {w : W} {G : GH} {R : KW} {RX : XW} (ty : tyW w G ≠ none) (q : R (.bl (isInt w)) G) : P_is_number [w] G R RX := ⟨w, rfl, ty, q⟩
def T_is_number : TWS :=
  (sRet (tAndE (tCW (isiC .it) (tCo (tV 0) (tCo (tK (.ty "int")) tN))) (tNotE (tCW (isiC .bo) (tCo (tV 0) (tCo (tK (.ty "bool")) tN))))))
theorem rd_is_number (ws : List W) (G : GH) (R : KW) (RX : XW) (h : P_is_number ws G R RX) : T_is_number { nx := fun _ G' => fgt R .non G', rt := fgt R } (startW N_is_number ws) G := by
  obtain ⟨w, rfl, ty, q⟩ := h
  conv => whnf
  refine ⟨rfl, ?_⟩
  cases e : tyW w G with
  | none => exact absurd e ty
  | some t =>
    refine isiW_of e ?_
    cases w with
    | int i => cases e; (conv => whnf); exact ⟨rfl, ret q⟩
    | bl i => cases e; (conv => whnf); exact ⟨rfl, ret q⟩
    | ref p =>
      have ht : isaT t .it = false := by
        unfold tyW at e
        dsimp only at e
        split at e <;> cases e <;> rfl
      rw [ht]
      exact ret q
    | ty n => cases e
    | _ => cases e <;> exact ret q
/-! ### is_letter -/
abbrev N_is_letter : List Str := ["thing", "many"]
structure P_is_letter (ws : List W) (G : GH) (R : KW) (RX : XW) : Prop where
  ex : ∃ (w : W) (many : Int), ws = [w, .int many] ∧ (tyW w G ≠ none) ∧ (R (.bl (letterB many w)) G)
theorem len_is_letter : ∀ ws G R RX, P_is_letter ws G R RX → ws.length = ["thing", "many"].length := by
  rintro ws G R RX ⟨⟨_, _, rfl, _, _⟩⟩; rfl
theorem p_is_letter {w : W} {many : Int} {G : GH} {R : KW} {RX : XW} (ty : tyW w G ≠ none) (q : R (.bl (letterB many w)) G) : P_is_letter [w, .int many] G R RX := ⟨w, many, rfl, ty, q⟩
def T_is_letter : TWS :=
  (sRet (tAndE (tCall0 P_is_number [] (tCo (tV 0) tN)) (tChainW leW leW (tK (.int 1)) (tCW absW (tCo (tV 0) tN)) (tV 1))))
theorem rd_is_letter (ws : List W) (G : GH) (R : KW) (RX : XW) (h : P_is_letter ws G R RX) : T_is_letter { nx := fun _ G' => fgt R .non G', rt := fgt R } (startW N_is_letter ws) G := by
  obtain ⟨w, many, rfl, ty, q⟩ := h
  conv => whnf
  refine ⟨w, rfl, ty, ?_⟩
  cases w with
  | int i =>
    conv => whnf
    by_cases h1 : 1 ≤ (if i < 0 then -i else i)
    · rw [decide_eq_true h1]
      conv => whnf
      rw [show letterB many (.int i) = decide ((if i < 0 then -i else i) ≤ many) by unfold letterB; dsimp only; rw [decide_eq_true h1]; rfl] at q
      exact ret q
    · rw [decide_eq_false h1]
      conv => whnf
      rw [show letterB many (.int i) = false by unfold letterB; dsimp only; rw [decide_eq_false h1]; rfl] at q
      exact ret q
  | _ => exact ret q
/-! ### clause_of -/
abbrev N_clause_of : List Str := ["letters", "letter"]
structure P_clause_of (ws : List W) (G : GH) (R : KW) (RX : XW) : Prop where
  ex : ∃ (w : W) (ns : List Int), ws = [w] ∧ (itemsW w G = some (ns.map W.int)) ∧ (ns.length ≤ 2000) ∧ (R (.tup ((byAbs (dedI ns)).map W.int)) G)
theorem len_clause_of : ∀ ws G R RX, P_clause_of ws G R RX → ws.length = ["letters"].length := by
  rintro ws G R RX ⟨⟨_, _, rfl, _, _, _⟩⟩; rfl
theorem p_clause_of {w : W} {ns : List Int} {G : GH} {R : KW} {RX : XW} (hw : itemsW w G = some (ns.map W.int)) (hl : ns.length ≤ 2000) (q : R (.tup ((byAbs (dedI ns)).map W.int)) G) : P_clause_of [w] G R RX := ⟨w, ns, rfl, hw, hl, q⟩
def T_clause_of : TWS :=
  (sRet (tCW toTupW (tCo (tFz (tSortAbsW (tFz (tDictC (tISeq (tV 0)) (gN 1) tYesW (tV 1) (tK (.bl true)) [1])))) tN)))
theorem items_cases {w : W} {G : GH} {xs : List W} (h : itemsW w G = some xs) : w = .tup xs ∨ w = .kt xs ∨ w = .fl xs ∨ ∃ p, w = .ref p ∧ G p = some (.lst xs) := by
  unfold itemsW at h
  split at h
  · cases h; exact .inl rfl
  · cases h; exact .inr (.inl rfl)
  · cases h; exact .inr (.inr (.inl rfl))
  · split at h
    · rename_i e
      cases h; exact .inr (.inr (.inr ⟨_, rfl, e⟩))
    · cases h
  · cases h
theorem rd_clause_of (ws : List W) (G : GH) (R : KW) (RX : XW) (h : P_clause_of ws G R RX) : T_clause_of { nx := fun _ G' => fgt R .non G', rt := fgt R } (startW N_clause_of ws) G := by
  obtain ⟨w, ns, rfl, hw, hl, q⟩ := h
  rcases items_cases hw with rfl | rfl | rfl | ⟨p, rfl, hp⟩
  rotate_left 3
  · conv => whnf
    rw [hp]
    conv => whnf
    refine compD_pure (f := W.int) (kf := Sum.inl) (vf := fun _ => W.bl true) hp ns [] (by rw [sizeLine_eq]; simp; omega) (fun x _ R' q' => q' _ rfl) ?_
    rw [merge_dedI]
    (try conv => whnf); (repeat (first | (refine Exists.intro _ (And.intro rfl ?_); conv => whnf) | (refine And.intro rfl ?_; conv => whnf) | (refine frz_lst ?_; conv => whnf) | (refine frz_dK ?_; conv => whnf) | (refine frz_dT ?_; conv => whnf)))
    rw [intsIn_fdK (intsOf_keys (dedI ns) (fun _ => W.bl true))]
    (try conv => whnf); (repeat (first | (refine Exists.intro _ (And.intro rfl ?_); conv => whnf) | (refine And.intro rfl ?_; conv => whnf) | (refine frz_lst ?_; conv => whnf) | (refine frz_dK ?_; conv => whnf) | (refine frz_dT ?_; conv => whnf)))
    exact ret q
  all_goals
    conv => whnf
    refine compD_pure (f := W.int) (kf := Sum.inl) (vf := fun _ => W.bl true) trivial ns [] (by rw [sizeLine_eq]; simp; omega) (fun x _ R' q' => q' _ rfl) ?_
    rw [merge_dedI]
    (try conv => whnf); (repeat (first | (refine Exists.intro _ (And.intro rfl ?_); conv => whnf) | (refine And.intro rfl ?_; conv => whnf) | (refine frz_lst ?_; conv => whnf) | (refine frz_dK ?_; conv => whnf) | (refine frz_dT ?_; conv => whnf)))
    rw [intsIn_fdK (intsOf_keys (dedI ns) (fun _ => W.bl true))]
    (try conv => whnf); (repeat (first | (refine Exists.intro _ (And.intro rfl ?_); conv => whnf) | (refine And.intro rfl ?_; conv => whnf) | (refine frz_lst ?_; conv => whnf) | (refine frz_dK ?_; conv => whnf) | (refine frz_dT ?_; conv => whnf)))
    exact ret q
/-! ### is_turn -/
abbrev N_is_turn : List Str := ["thing", "many", "letter"]
structure P_is_turn (ws : List W) (G : GH) (R : KW) (RX : XW) : Prop where
  ex : ∃ (w : W) (many : Int), ws = [w, .int many] ∧ (Ask G w) ∧ (R (.bl (turnB many w)) G)
theorem len_is_turn : ∀ ws G R RX, P_is_turn ws G R RX → ws.length = ["thing", "many"].length := by
  rintro ws G R RX ⟨⟨_, _, rfl, _, _⟩⟩; rfl
theorem p_is_turn {w : W} {many : Int} {G : GH} {R : KW} {RX : XW} (ask : Ask G w) (q : R (.bl (turnB many w)) G) : P_is_turn [w, .int many] G R RX := ⟨w, many, rfl, ask, q⟩
def T_is_turn : TWS :=
  (sSeq (sIf (tOrW (tNotW (tTruW (tCW (isiC .tu) (tCo (tV 0) (tCo (tK (.ty "tuple")) tN))))) (tOrW (tTestW (tOpW (eqQ true) (tCW lenQ (tCo (tV 0) tN)) (tV 1))) (tNotW (tTestW (tChainW leW leW (tK (.int 1)) (tCW lenQ (tCo (tV 0) tN)) (tK (.int 400))))))) (sRet (tK (.bl false))) sNext)
    (sRet (tAndE (tCF (fBols fun bs => bs.all fun b => b) (tCompI (tISeq (tV 0)) (gN 2) tYesW (tCall0 P_is_letter [] (tCo (tV 2) (tCo (tV 1) tN))) [2])) (tOpW (eqQ false) (tLenSC (tISeq (tV 0)) (gN 2) tYesW (tCW absW (tCo (tV 2) tN)) [2]) (tV 1)))))
theorem notTup {w : W} {many : Int} (h : ∀ xs, w ≠ .tup xs) : turnB many w = false := by
  cases w with
  | tup xs => exact absurd rfl (h xs)
  | _ => rfl
theorem tyTup {w : W} {G : GH} {t : Ty} (e : tyW w G = some t) (nk : ∀ xs, w ≠ .kt xs) : isaT t .tu = true ↔ ∃ xs, w = .tup xs := by
  cases w with
  | tup xs => cases e; exact ⟨fun _ => ⟨_, rfl⟩, fun _ => rfl⟩
  | kt xs => exact absurd rfl (nk xs)
  | ref p =>
    have ht : isaT t .tu = false := by
      unfold tyW at e
      dsimp only at e
      split at e <;> cases e <;> rfl
    rw [ht]
    exact ⟨fun z => (by cases z), fun ⟨_, z⟩ => (by cases z)⟩
  | ty n => cases e
  | _ => cases e <;> exact ⟨fun z => (by cases z), fun ⟨_, z⟩ => (by cases z)⟩
theorem rd_is_turn (ws : List W) (G : GH) (R : KW) (RX : XW) (h : P_is_turn ws G R RX) : T_is_turn { nx := fun _ G' => fgt R .non G', rt := fgt R } (startW N_is_turn ws) G := by
  obtain ⟨w, many, rfl, ask, q⟩ := h
  conv => whnf
  refine ⟨rfl, ?_⟩
  cases e : tyW w G with
  | none => exact absurd e ask.ty
  | some t =>
    refine isiW_of e ?_
    by_cases ht : isaT t .tu = true
    · rw [ht]
      obtain ⟨xs, rfl⟩ := (tyTup e ask.nk).mp ht
      obtain ⟨hl, hx⟩ := ask.it xs rfl
      conv => whnf
      by_cases hlen : (xs.length : Int) = many
      · rw [decide_eq_true hlen]
        conv => whnf
        by_cases h1 : 1 ≤ (xs.length : Int)
        · rw [decide_eq_true h1]
          conv => whnf
          by_cases h4 : (xs.length : Int) ≤ 400
          · rw [decide_eq_true h4]
            conv => whnf
            have tb : turnB many (.tup xs) = ((xs.all (letterB many)) && decide (((ded [] (xs.map absK)).length : Int) = many)) := by
              unfold turnB; dsimp only; rw [decide_eq_true hlen, decide_eq_true h1, decide_eq_true h4]; rfl
            rw [tb] at q
            refine compW_pureW (v := fun x => W.bl (letterB many x)) trivial (by rw [sizeLine_eq]; omega) (fun x hm R' q' => ⟨x, many, rfl, let ⟨_, pd, _⟩ := hx x hm; pd.ty, q'⟩) ?_
            rw [show (xs.map fun x => W.bl (letterB many x)) = (xs.map (letterB many)).map W.bl by rw [List.map_map]; rfl]
            unfold fBols
            rw [blsOf_map]
            dsimp only
            rw [show ((xs.map (letterB many)).all fun b => b) = xs.all (letterB many) by rw [List.all_map]; rfl]
            by_cases hall : xs.all (letterB many) = true
            · rw [hall] at q ⊢
              conv => whnf
              refine compK_pureW (v := absK) trivial (by omega) (fun x hm R' q' => ?_) ?_
              · have hlx := List.all_eq_true.mp hall x hm
                cases x with
                | int i => exact q' _ rfl
                | _ => cases hlx
              · conv => whnf
                rw [Bool.true_and] at q
                have fb : ∀ b, (false != b) = b := fun b => by cases b <;> rfl
                rw [fb]
                exact ret q
            · rw [show xs.all (letterB many) = false by simpa using hall] at q ⊢
              exact ret q
          · rw [decide_eq_false h4]
            conv => whnf
            rw [show turnB many (.tup xs) = false by unfold turnB; dsimp only; rw [decide_eq_true hlen, decide_eq_true h1, decide_eq_false h4]; rfl] at q
            exact ret q
        · rw [decide_eq_false h1]
          conv => whnf
          rw [show turnB many (.tup xs) = false by unfold turnB; dsimp only; rw [decide_eq_true hlen, decide_eq_false h1]; rfl] at q
          exact ret q
      · rw [decide_eq_false hlen]
        conv => whnf
        rw [show turnB many (.tup xs) = false by unfold turnB; dsimp only; rw [decide_eq_false hlen]; rfl] at q
        exact ret q
    · rw [show isaT t .tu = false by simpa using ht]
      rw [notTup fun xs z => ht ((tyTup e ask.nk).mpr ⟨xs, z⟩)] at q
      exact ret q
/-! ### need_turn -/
abbrev N_need_turn : List Str := ["thing"]
structure P_need_turn (ws : List W) (G : GH) (R : KW) (RX : XW) : Prop where
  ex : ∃ (many : Int) (ls : List Int), ws = [.tup (ls.map W.int)] ∧ (TurnOf many ls) ∧ (R (.non) G)
theorem len_need_turn : ∀ ws G R RX, P_need_turn ws G R RX → ws.length = ["thing"].length := by
  rintro ws G R RX ⟨⟨_, _, rfl, _, _⟩⟩; rfl
theorem p_need_turn {many : Int} {ls : List Int} {G : GH} {R : KW} {RX : XW} (t : TurnOf many ls) (q : R (.non) G) : P_need_turn [.tup (ls.map W.int)] G R RX := ⟨many, ls, rfl, t, q⟩
def T_need_turn : TWS :=
  (sIf (tOrW (tNotW (tTruW (tCW (isiC .tu) (tCo (tV 0) (tCo (tK (.ty "tuple")) tN))))) (tNotW (tTruW (tCall0 P_is_turn [] (tCo (tV 0) (tCo (tCW lenQ (tCo (tV 0) tN)) tN)))))) sNever sNext)
theorem rd_need_turn (ws : List W) (G : GH) (R : KW) (RX : XW) (h : P_need_turn ws G R RX) : T_need_turn { nx := fun _ G' => fgt R .non G', rt := fgt R } (startW N_need_turn ws) G := by
  obtain ⟨many, ls, rfl, t, q⟩ := h
  have hl := t.len
  have h4 := t.h4
  (try conv => whnf); (repeat (first | (refine Exists.intro _ (And.intro rfl ?_); conv => whnf) | (refine And.intro rfl ?_; conv => whnf) | (refine frz_lst ?_; conv => whnf) | (refine frz_dK ?_; conv => whnf) | (refine frz_dT ?_; conv => whnf)))
  refine p_is_turn (ask_ints _ _ (by omega)) ?_
  rw [List.length_map, hl, turn_yes t]
  exact ret q
/-! ### still -/
abbrev N_still : List Str := ["many"]
structure P_still (ws : List W) (G : GH) (R : KW) (RX : XW) : Prop where
  ex : ∃ (many : Int), ws = [.int many] ∧ (0 ≤ many) ∧ (many ≤ 1000) ∧ (R (.tup ((stillL many).map W.int)) G)
theorem len_still : ∀ ws G R RX, P_still ws G R RX → ws.length = ["many"].length := by
  rintro ws G R RX ⟨⟨_, rfl, _, _, _⟩⟩; rfl
theorem p_still {many : Int} {G : GH} {R : KW} {RX : XW} (h0 : 0 ≤ many) (h1 : many ≤ 1000) (q : R (.tup ((stillL many).map W.int)) G) : P_still [.int many] G R RX := ⟨many, rfl, h0, h1, q⟩
def T_still : TWS :=
  (sRet (tTupleRg (tRg2W (tK (.int 1)) (tOpW addW (tV 0) (tK (.int 1))))))
theorem rd_still (ws : List W) (G : GH) (R : KW) (RX : XW) (h : P_still ws G R RX) : T_still { nx := fun _ G' => fgt R .non G', rt := fgt R } (startW N_still ws) G := by
  obtain ⟨many, rfl, h0, h1, q⟩ := h
  conv => whnf
  exact ⟨.of_le (by decide) (by omega) (by decide) (by omega), ret q⟩
/-! ### led -/
abbrev N_led : List Str := ["turn", "letter"]
structure P_led (ws : List W) (G : GH) (R : KW) (RX : XW) : Prop where
  ex : ∃ (many : Int) (ls : List Int) (l : Int), ws = [.tup (ls.map W.int), .int l] ∧ (TurnOf many ls) ∧ (LetOf many l) ∧ (R (.int (goI ls l)) G)
theorem len_led : ∀ ws G R RX, P_led ws G R RX → ws.length = ["turn", "letter"].length := by
  rintro ws G R RX ⟨⟨_, _, _, rfl, _, _, _⟩⟩; rfl
theorem p_led {many : Int} {ls : List Int} {l : Int} {G : GH} {R : KW} {RX : XW} (t : TurnOf many ls) (hl : LetOf many l) (q : R (.int (goI ls l)) G) : P_led [.tup (ls.map W.int), .int l] G R RX := ⟨many, ls, l, rfl, t, hl, q⟩
def T_led : TWS :=
  (sRet (tIfE (tTestW (tOpW gtW (tV 1) (tK (.int 0)))) (tOpW ixW (tV 0) (tOpW subW (tV 1) (tK (.int 1)))) (tNegW (tOpW ixW (tV 0) (tOpW subW (tNegW (tV 1)) (tK (.int 1)))))))
theorem rd_led (ws : List W) (G : GH) (R : KW) (RX : XW) (h : P_led ws G R RX) : T_led { nx := fun _ G' => fgt R .non G', rt := fgt R } (startW N_led ws) G := by
  obtain ⟨many, ls, l, rfl, t, hl, q⟩ := h
  unfold LetOf absI at hl
  unfold goI at q
  conv => whnf
  by_cases c : l > 0
  · rw [if_pos c] at q
    rw [if_neg (by omega)] at hl
    rw [decide_eq_true c]
    conv => whnf
    exact ⟨_, (t.get hl.1 hl.2).2, ret q⟩
  · rw [if_neg c] at q
    rw [if_pos (show l < 0 by split at hl <;> omega)] at hl
    rw [decide_eq_false c]
    conv => whnf
    exact ⟨_, (t.get hl.1 hl.2).2, ret q⟩
/-! ### of_letter -/
abbrev N_of_letter : List Str := ["turn", "letter"]
structure P_of_letter (ws : List W) (G : GH) (R : KW) (RX : XW) : Prop where
  ex : ∃ (many : Int) (ls : List Int) (l : Int), ws = [.tup (ls.map W.int), .int l] ∧ (TurnOf many ls) ∧ (LetOf many l) ∧ (R (.int (goI ls l)) G)
theorem len_of_letter : ∀ ws G R RX, P_of_letter ws G R RX → ws.length = ["turn", "letter"].length := by
  rintro ws G R RX ⟨⟨_, _, _, rfl, _, _, _⟩⟩; rfl
theorem p_of_letter {many : Int} {ls : List Int} {l : Int} {G : GH} {R : KW} {RX : XW} (t : TurnOf many ls) (hl : LetOf many l) (q : R (.int (goI ls l)) G) : P_of_letter [.tup (ls.map W.int), .int l] G R RX := ⟨many, ls, l, rfl, t, hl, q⟩
def T_of_letter : TWS :=
  (sSeq (sDrop (tCall0 P_need_turn [] (tCo (tV 0) tN)))
    (sRet (tCall0 P_led [] (tCo (tV 0) (tCo (tV 1) tN)))))
theorem rd_of_letter (ws : List W) (G : GH) (R : KW) (RX : XW) (h : P_of_letter ws G R RX) : T_of_letter { nx := fun _ G' => fgt R .non G', rt := fgt R } (startW N_of_letter ws) G := by
  obtain ⟨many, ls, l, rfl, t, hl, q⟩ := h
  conv => whnf
  refine p_need_turn t ?_
  conv => whnf
  exact p_led t hl (ret q)
/-! ### of_part -/
abbrev N_of_part : List Str := ["turn", "part", "letter"]
structure P_of_part (ws : List W) (G : GH) (R : KW) (RX : XW) : Prop where
  ex : ∃ (many : Int) (ls part : List Int), ws = [.tup (ls.map W.int), .tup (part.map W.int)] ∧ (TurnOf many ls) ∧ (part.length ≤ 2000) ∧ (∀ l ∈ part, LetOf many l) ∧ (R (.tup ((part.map (goI ls)).map W.int)) G)
theorem len_of_part : ∀ ws G R RX, P_of_part ws G R RX → ws.length = ["turn", "part"].length := by
  rintro ws G R RX ⟨⟨_, _, _, rfl, _, _, _, _⟩⟩; rfl
theorem p_of_part {many : Int} {ls part : List Int} {G : GH} {R : KW} {RX : XW} (t : TurnOf many ls) (hl : part.length ≤ 2000) (hp : ∀ l ∈ part, LetOf many l) (q : R (.tup ((part.map (goI ls)).map W.int)) G) : P_of_part [.tup (ls.map W.int), .tup (part.map W.int)] G R RX := ⟨many, ls, part, rfl, t, hl, hp, q⟩
def T_of_part : TWS :=
  (sSeq (sDrop (tCall0 P_need_turn [] (tCo (tV 0) tN)))
    (sRet (tCF fTup (tCompI (tISeq (tV 1)) (gN 2) tYesW (tCall0 P_led [] (tCo (tV 0) (tCo (tV 2) tN))) [2]))))
theorem rd_of_part (ws : List W) (G : GH) (R : KW) (RX : XW) (h : P_of_part ws G R RX) : T_of_part { nx := fun _ G' => fgt R .non G', rt := fgt R } (startW N_of_part ws) G := by
  obtain ⟨many, ls, part, rfl, t, hl, hp, q⟩ := h
  conv => whnf
  refine p_need_turn t ?_
  conv => whnf
  refine compW_pure (f := W.int) (v := fun l => W.int (goI ls l)) trivial part [] (by rw [sizeLine_eq]; simp; omega) (fun l hm R' q' => ?_) ?_
  · exact p_led t (hp l hm) q'
  · rw [List.nil_append, show (part.map fun l => W.int (goI ls l)) = (part.map (goI ls)).map W.int by rw [List.map_map]; rfl]
    exact ret q
/-! ### of_clause -/
abbrev N_of_clause : List Str := ["turn", "clause"]
structure P_of_clause (ws : List W) (G : GH) (R : KW) (RX : XW) : Prop where
  ex : ∃ (many : Int) (ls part : List Int), ws = [.tup (ls.map W.int), .tup (part.map W.int)] ∧ (TurnOf many ls) ∧ (∀ l ∈ part, LetOf many l) ∧ ((absL part).Nodup) ∧ (R (.tup ((clauseL ls part).map W.int)) G)
theorem len_of_clause : ∀ ws G R RX, P_of_clause ws G R RX → ws.length = ["turn", "clause"].length := by
  rintro ws G R RX ⟨⟨_, _, _, rfl, _, _, _, _⟩⟩; rfl
theorem p_of_clause {many : Int} {ls part : List Int} {G : GH} {R : KW} {RX : XW} (t : TurnOf many ls) (hp : ∀ l ∈ part, LetOf many l) (nd : (absL part).Nodup) (q : R (.tup ((clauseL ls part).map W.int)) G) : P_of_clause [.tup (ls.map W.int), .tup (part.map W.int)] G R RX := ⟨many, ls, part, rfl, t, hp, nd, q⟩
def T_of_clause : TWS :=
  (sRet (tCall0 P_clause_of [] (tCo (tCall0 P_of_part [] (tCo (tV 0) (tCo (tV 1) tN))) tN)))
theorem rd_of_clause (ws : List W) (G : GH) (R : KW) (RX : XW) (h : P_of_clause ws G R RX) : T_of_clause { nx := fun _ G' => fgt R .non G', rt := fgt R } (startW N_of_clause ws) G := by
  obtain ⟨many, ls, part, rfl, t, hp, nd, q⟩ := h
  have h4 := t.h4
  have hl := len_le_of_abs (by have := t.h0; omega) hp nd
  conv => whnf
  refine p_of_part t (by omega) hp ?_
  conv => whnf
  refine p_clause_of rfl (by rw [List.length_map]; omega) ?_
  rw [dedI_self (nodup_of_abs (t.go_nodup hp nd))]
  exact ret q
/-! ### of_answer -/
abbrev N_of_answer : List Str := ["turn", "answer", "bits", "to", "bit", "k"]
structure P_of_answer (ws : List W) (G : GH) (R : KW) (RX : XW) : Prop where
  ex : ∃ (many : Int) (ls bs : List Int), ws = [.tup (ls.map W.int), .tup (bs.map W.int)] ∧ (TurnOf many ls) ∧ ((bs.length : Int) = many) ∧ (R (.tup ((ansL ls bs).map W.int)) G)
theorem len_of_answer : ∀ ws G R RX, P_of_answer ws G R RX → ws.length = ["turn", "answer"].length := by
  rintro ws G R RX ⟨⟨_, _, _, rfl, _, _, _⟩⟩; rfl
theorem p_of_answer {many : Int} {ls bs : List Int} {G : GH} {R : KW} {RX : XW} (t : TurnOf many ls) (hb : (bs.length : Int) = many) (q : R (.tup ((ansL ls bs).map W.int)) G) : P_of_answer [.tup (ls.map W.int), .tup (bs.map W.int)] G R RX := ⟨many, ls, bs, rfl, t, hb, q⟩
def T_of_answer : TWS :=
  (sSeq (sDrop (tCall0 P_need_turn [] (tCo (tV 0) tN)))
    (sSeq (sIf (tTestW (tOpW (eqQ true) (tCW lenQ (tCo (tV 0) tN)) (tCW lenQ (tCo (tV 1) tN)))) sNever sNext)
    (sSeq (sSet 2 (tFz (tDictC (tIZip (tCo (tV 0) (tCo (tV 1) tN))) (gT 2 (gsC (gN 3) (gsC (gN 4) gsN))) tYesW (tCW absW (tCo (tV 3) tN)) (tIfE (tTestW (tOpW gtW (tV 3) (tK (.int 0)))) (tV 4) (tOpW subW (tK (.int 1)) (tV 4))) [3, 4])))
    (sRet (tCF fTup (tCompI (tISeq (tCall0 P_still [] (tCo (tCW lenQ (tCo (tV 0) tN)) tN))) (gN 5) tYesW (tOpW ixW (tV 2) (tV 5)) [5]))))))
theorem rd_of_answer (ws : List W) (G : GH) (R : KW) (RX : XW) (h : P_of_answer ws G R RX) : T_of_answer { nx := fun _ G' => fgt R .non G', rt := fgt R } (startW N_of_answer ws) G := by
  obtain ⟨many, ls, bs, rfl, t, hb, q⟩ := h
  have hL := t.len
  have h4 := t.h4
  have h0 := t.h0
  conv => whnf
  refine p_need_turn t ?_
  conv => whnf
  rw [decide_eq_true (show ((ls.map W.int).length : Int) = ((bs.map W.int).length : Int) by rw [List.length_map, List.length_map]; omega)]
  conv => whnf
  rw [zipP_map]
  refine compD_pure (f := fun p : Int × Int => W.tup [.int p.1, .int p.2]) (kf := fun p => Sum.inl (absI p.1)) (vf := fun p => W.int (if p.1 > 0 then p.2 else 1 - p.2)) trivial (ls.zip bs) [] (by rw [sizeLine_eq, List.length_zip]; simp; omega) (fun x _ R' q' => ?_) ?_
  · conv => whnf
    refine ⟨rfl, ?_⟩
    conv => whnf
    refine ⟨rfl, ?_⟩
    conv => whnf
    by_cases c : x.1 > 0
    · rw [decide_eq_true c]
      conv => whnf
      have := q' (.int (absI x.1)) rfl
      rw [if_pos c] at this
      exact this
    · rw [decide_eq_false c]
      conv => whnf
      have := q' (.int (absI x.1)) rfl
      rw [if_neg c] at this
      exact this
  have ek : ((ls.zip bs).map fun p => ((Sum.inl (absI p.1) : Key), W.int (if p.1 > 0 then p.2 else 1 - p.2))).map (·.1) = (absL ls).map Sum.inl := by
    rw [List.map_map]
    show (ls.zip bs).map (Sum.inl ∘ absI ∘ Prod.fst) = _
    rw [← List.map_map, ← List.map_map, List.map_fst_zip (by omega)]
  rw [mergeW_nodup _ _ (by
    rw [List.map_nil, List.nil_append, ek, List.Nodup, List.pairwise_map]
    exact t.nodup.imp fun hne e => hne (Sum.inl.inj e)), List.nil_append]
  (try conv => whnf); (repeat (first | (refine Exists.intro _ (And.intro rfl ?_); conv => whnf) | (refine And.intro rfl ?_; conv => whnf) | (refine frz_lst ?_; conv => whnf) | (refine frz_dK ?_; conv => whnf) | (refine frz_dT ?_; conv => whnf)))
  rw [List.length_map]
  refine p_still (many := (ls.length : Int)) (by omega) (by omega) ?_
  refine compW_pure (f := W.int) (v := fun k => W.int (bitAt ls bs k)) trivial (stillL ls.length) [] (by unfold stillL; rw [sizeLine_eq, rgI_length]; simp; omega) (fun k hk R' q' => ?_) ?_
  · conv => whnf
    refine ⟨_, congrArg some (val_bitAt ls bs k (by omega) (t.pm.mem_iff.mpr ?_)), q'⟩
    unfold stillL at hk
    rw [hL] at hk
    exact hk
  · rw [List.nil_append, show ((stillL ls.length).map fun k => W.int (bitAt ls bs k)) = (ansL ls bs).map W.int by unfold ansL stillL; rw [List.map_map]; rfl]
    exact ret q
/-! ### then -/
abbrev N_then : List Str := ["one", "other", "letter"]
structure P_then (ws : List W) (G : GH) (R : KW) (RX : XW) : Prop where
  ex : ∃ (many : Int) (a c : List Int), ws = [.tup (a.map W.int), .tup (c.map W.int)] ∧ (TurnOf many a) ∧ (TurnOf many c) ∧ (R (.tup ((thenL a c).map W.int)) G)
theorem len_then : ∀ ws G R RX, P_then ws G R RX → ws.length = ["one", "other"].length := by
  rintro ws G R RX ⟨⟨_, _, _, rfl, _, _, _⟩⟩; rfl
theorem p_then {many : Int} {a c : List Int} {G : GH} {R : KW} {RX : XW} (ta : TurnOf many a) (tc : TurnOf many c) (q : R (.tup ((thenL a c).map W.int)) G) : P_then [.tup (a.map W.int), .tup (c.map W.int)] G R RX := ⟨many, a, c, rfl, ta, tc, q⟩
def T_then : TWS :=
  (sSeq (sDrop (tCall0 P_need_turn [] (tCo (tV 0) tN)))
    (sSeq (sDrop (tCall0 P_need_turn [] (tCo (tV 1) tN)))
    (sSeq (sIf (tTestW (tOpW (eqQ true) (tCW lenQ (tCo (tV 0) tN)) (tCW lenQ (tCo (tV 1) tN)))) sNever sNext)
    (sRet (tCF fTup (tCompI (tISeq (tV 0)) (gN 2) tYesW (tCall0 P_led [] (tCo (tV 1) (tCo (tV 2) tN))) [2]))))))
theorem rd_then (ws : List W) (G : GH) (R : KW) (RX : XW) (h : P_then ws G R RX) : T_then { nx := fun _ G' => fgt R .non G', rt := fgt R } (startW N_then ws) G := by
  obtain ⟨many, a, c, rfl, ta, tc, q⟩ := h
  have la := ta.len
  have lc := tc.len
  have h4 := ta.h4
  conv => whnf
  refine p_need_turn ta ?_
  conv => whnf
  refine p_need_turn tc ?_
  conv => whnf
  rw [decide_eq_true (show ((a.map W.int).length : Int) = ((c.map W.int).length : Int) by rw [List.length_map, List.length_map]; omega)]
  conv => whnf
  refine compW_pure (f := W.int) (v := fun l => W.int (goI c l)) trivial a [] (by rw [sizeLine_eq]; simp; omega) (fun l hm R' q' => ?_) ?_
  · exact p_led tc (ta.mem hm) q'
  · rw [List.nil_append, show (a.map fun l => W.int (goI c l)) = (thenL a c).map W.int by unfold thenL; rw [List.map_map]; rfl]
    exact ret q
/-! ### back -/
abbrev N_back : List Str := ["turn", "froms", "k", "to"]
structure P_back (ws : List W) (G : GH) (R : KW) (RX : XW) : Prop where
  ex : ∃ (many : Int) (ls : List Int), ws = [.tup (ls.map W.int)] ∧ (TurnOf many ls) ∧ (R (.tup ((backL ls).map W.int)) G)
theorem len_back : ∀ ws G R RX, P_back ws G R RX → ws.length = ["turn"].length := by
  rintro ws G R RX ⟨⟨_, _, rfl, _, _⟩⟩; rfl
theorem p_back {many : Int} {ls : List Int} {G : GH} {R : KW} {RX : XW} (t : TurnOf many ls) (q : R (.tup ((backL ls).map W.int)) G) : P_back [.tup (ls.map W.int)] G R RX := ⟨many, ls, rfl, t, q⟩
def T_back : TWS :=
  (sSeq (sDrop (tCall0 P_need_turn [] (tCo (tV 0) tN)))
    (sSeq (sSet 1 (tFz (tDictC (tIEnumK (tV 0) (tK (.int 1))) (gT 2 (gsC (gN 2) (gsC (gN 3) gsN))) tYesW (tCW absW (tCo (tV 3) tN)) (tIfE (tTestW (tOpW gtW (tV 3) (tK (.int 0)))) (tV 2) (tNegW (tV 2))) [2, 3])))
    (sRet (tCF fTup (tCompI (tISeq (tCall0 P_still [] (tCo (tCW lenQ (tCo (tV 0) tN)) tN))) (gN 2) tYesW (tOpW ixW (tV 1) (tV 2)) [2])))))
theorem rd_back (ws : List W) (G : GH) (R : KW) (RX : XW) (h : P_back ws G R RX) : T_back { nx := fun _ G' => fgt R .non G', rt := fgt R } (startW N_back ws) G := by
  obtain ⟨many, ls, rfl, t, q⟩ := h
  have hL := t.len
  have h4 := t.h4
  have h0 := t.h0
  conv => whnf
  refine p_need_turn t ?_
  conv => whnf
  refine ⟨by decide, by decide, ?_⟩
  unfold enumW
  conv => whnf
  rw [enumP_map]
  refine compD_pure (f := fun p : Int × Int => W.tup [.int p.1, .int p.2]) (kf := fun p => Sum.inl (absI p.2)) (vf := fun p => W.int (if p.2 > 0 then p.1 else -p.1)) trivial (enumI 1 ls) [] (by rw [sizeLine_eq, enumI_len]; simp; omega) (fun x _ R' q' => ?_) ?_
  · conv => whnf
    refine ⟨rfl, ?_⟩
    conv => whnf
    refine ⟨rfl, ?_⟩
    conv => whnf
    by_cases c : x.2 > 0
    · rw [decide_eq_true c]
      conv => whnf
      have := q' (.int (absI x.2)) rfl
      rw [if_pos c] at this
      exact this
    · rw [decide_eq_false c]
      conv => whnf
      have := q' (.int (absI x.2)) rfl
      rw [if_neg c] at this
      exact this
  rw [merge_enum t.nodup]
  (try conv => whnf); (repeat (first | (refine Exists.intro _ (And.intro rfl ?_); conv => whnf) | (refine And.intro rfl ?_; conv => whnf) | (refine frz_lst ?_; conv => whnf) | (refine frz_dK ?_; conv => whnf) | (refine frz_dT ?_; conv => whnf)))
  rw [List.length_map]
  refine p_still (many := (ls.length : Int)) (by omega) (by omega) ?_
  refine compW_pure (f := W.int) (v := fun k => W.int (backAt ls 1 k)) trivial (stillL ls.length) [] (by unfold stillL; rw [sizeLine_eq, rgI_length]; simp; omega) (fun k hk R' q' => ?_) ?_
  · conv => whnf
    refine ⟨_, congrArg some (val_backAt ls 1 k (t.pm.mem_iff.mpr ?_)), q'⟩
    unfold stillL at hk
    rw [hL] at hk
    exact hk
  · rw [List.nil_append, show ((stillL ls.length).map fun k => W.int (backAt ls 1 k)) = (backL ls).map W.int by unfold backL stillL; rw [List.map_map]; rfl]
    exact ret q
/-! ### _law_turn -/
abbrev N__law_turn : List Str := ["draw", "many", "sort", "one", "other", "found", "pool", "k", "truth"]
structure P__law_turn (ws : List W) (G : GH) (R : KW) (RX : XW) : Prop where
  ex : ∃ (ns : List Int) (d : Addr) (many : Int), ws = [.ref d, .int many] ∧ (1 ≤ many) ∧ (many ≤ 400) ∧ (Dr ns d G) ∧ (∀ (ls : List Int) G', TurnOf many ls → Dr ns d G' → KeepG d G G' → R (.tup (ls.map W.int)) G')
theorem len__law_turn : ∀ ws G R RX, P__law_turn ws G R RX → ws.length = ["draw", "many"].length := by
  rintro ws G R RX ⟨⟨_, _, _, rfl, _, _, _, _⟩⟩; rfl
theorem p__law_turn {ns : List Int} {d : Addr} {many : Int} {G : GH} {R : KW} {RX : XW} (h0 : 1 ≤ many) (h1 : many ≤ 400) (D : Dr ns d G) (q : ∀ (ls : List Int) G', TurnOf many ls → Dr ns d G' → KeepG d G G' → R (.tup (ls.map W.int)) G') : P__law_turn [.ref d, .int many] G R RX := ⟨ns, d, many, rfl, h0, h1, D, q⟩
def T__law_turn : TWS :=
  (sSeq (sPar3 2 3 4 (tCo (tCall0 P__law_next [] (tCo (tV 0) (tCo (tK (.int 5)) tN))) (tCo (tCall0 P__law_next [] (tCo (tV 0) (tCo (tV 1) tN))) (tCo (tCall0 P__law_next [] (tCo (tV 0) (tCo (tV 1) tN))) tN))))
    (sSeq (sSet 5 (tListRg (tRg2W (tK (.int 1)) (tOpW addW (tV 1) (tK (.int 1))))))
    (sSeq (sIf (tTestW (tOpW (eqQ false) (tV 2) (tK (.int 0)))) (sAsg (tTupW (tCo (tOpW ixW (tV 5) (tV 4)) (tCo (tOpW ixW (tV 5) (tV 3)) tN))) (gU 2 (gsC (gSubW (tV 5) (tV 3) setQ) (gsC (gSubW (tV 5) (tV 4) setQ) gsN)))) (sIf (tTestW (tOpW (eqQ false) (tV 2) (tK (.int 1)))) (sAsg (tNegW (tOpW ixW (tV 5) (tV 3))) (gSubW (tV 5) (tV 3) setQ)) (sIf (tTestW (tOpW (eqQ false) (tV 2) (tK (.int 2)))) (sAsg (tTupW (tCo (tNegW (tOpW ixW (tV 5) (tV 4))) (tCo (tNegW (tOpW ixW (tV 5) (tV 3))) tN))) (gU 2 (gsC (gSubW (tV 5) (tV 3) setQ) (gsC (gSubW (tV 5) (tV 4) setQ) gsN)))) (sIf (tTestW (tOpW (eqQ false) (tV 2) (tK (.int 3)))) (sSet 5 (tOpW addW (tFz (tSliceW (tV 5) (tP (tV 3)) tNoP)) (tFz (tSliceW (tV 5) tNoP (tP (tV 3)))))) (sSeq (sSet 6 (tCW toListDW (tCo (tV 5) tN)))
    (sSeq (sSet 5 (tComp (tIRng1 (tCo (tV 1) tN)) (gN 7) tYesW (tMetL popW (tV 6) (tCo (tCall0 P__law_next [] (tCo (tV 0) (tCo (tCW lenQ (tCo (tV 6) tN)) tN))) tN)) [7]))
    (sSet 5 (tComp (tISeq (tV 5)) (gN 8) tYesW (tOpW ixW (tFz (tLstW (tCo (tV 8) (tCo (tNegW (tV 8)) tN)))) (tCall0 P__law_next [] (tCo (tV 0) (tCo (tK (.int 2)) tN)))) [8]))))))))
    (sRet (tCW toTupW (tCo (tV 5) tN))))))
theorem rd__law_turn (ws : List W) (G : GH) (R : KW) (RX : XW) (h : P__law_turn ws G R RX) : T__law_turn { nx := fun _ G' => fgt R .non G', rt := fgt R } (startW N__law_turn ws) G := by
  obtain ⟨ns, d, many, rfl, h0, h1, D, q⟩ := h
  conv => whnf
  refine p__law_next (by decide) D fun sort G1 s0 s1 D1 k1 => ?_
  conv => whnf
  refine p__law_next (by omega) D1 fun one G2 o0 o1 D2 k2 => ?_
  conv => whnf
  refine p__law_next (by omega) D2 fun other G3 t0 t1 D3 k3 => ?_
  conv => whnf
  refine ⟨.of_le (by decide) (by omega) (by decide) (by omega), fun f hf => ?_⟩
  have df := (D3.off hf).symm
  have D4 := D3.new (o := .lst ((rgI 1 (many + 1)).map W.int)) hf
  have k4 : KeepG d G _ := ((k1.trans k2).trans k3).trans (ExtG.new (o := .lst ((rgI 1 (many + 1)).map W.int)) hf).keep
  have hlR : (rgI 1 (many + 1)).length = many.toNat := by rw [rgI_length]; congr 1; omega
  have hpR : (absL (rgI 1 (many + 1))).Perm (rgI 1 (many + 1)) := by rw [absL_rgI]
  generalize hL : rgI 1 (many + 1) = L at D4 k4 hlR hpR
  have lenL : (L.length : Int) = many := by omega
  obtain ⟨zo, go, zom, hzo⟩ := atI_map (f := W.int) (xs := L) o0 (by omega)
  obtain ⟨zt, gt, ztm, hzt⟩ := atI_map (f := W.int) (xs := L) t0 (by omega)
  have io : ixN (L.map W.int).length one = some one.toNat := by rw [List.length_map]; exact ixN_nat o0 (by omega)
  have two : ∀ (a b : Int) (i j : Nat), ((L.map W.int).set i (.int a)).set j (.int b) = ((L.set i a).set j b).map W.int := fun a b i j => by rw [List.map_set, List.map_set]
  have fin : ∀ (ls : List Int) (G' : GH), (absL ls).Perm L → Dr ns d G' → KeepG d G G' → R (.tup (ls.map W.int)) G' := fun ls G' e1 e3 e4 => q ls G' ⟨by rw [hL]; exact e1, h0, h1⟩ e3 e4
  have ret_fin : ∀ (ls : List Int) (G' : GH), (absL ls).Perm L → Dr ns d G' → KeepG d G G' → fgt R (.tup (ls.map W.int)) G' := fun ls G' e1 e3 e4 => ret (fin ls G' e1 e3 e4)
  have one1 : ∀ (a : Int) (i : Nat), (L.map W.int).set i (.int a) = (L.set i a).map W.int := fun a i => by rw [List.map_set]
  have hG : G f = none := by
    cases e : G f with
    | none => rfl
    | some o => have := ((k1.trans k2).trans k3) f o df e; rw [this] at hf; cases hf
  conv => whnf
  by_cases c0 : sort = 0
  · rw [decide_eq_true c0]
    (try conv => whnf); (repeat (first | (rw [updG_same]; conv => whnf) | (refine Exists.intro _ (And.intro rfl ?_); conv => whnf) | (refine And.intro rfl ?_; conv => whnf) | (refine frz_lst ?_; conv => whnf) | (refine frz_dK ?_; conv => whnf) | (refine frz_dT ?_; conv => whnf)))
    refine ⟨_, hzt, ?_⟩
    (try conv => whnf); (repeat (first | (rw [updG_same]; conv => whnf) | (refine Exists.intro _ (And.intro rfl ?_); conv => whnf) | (refine And.intro rfl ?_; conv => whnf) | (refine frz_lst ?_; conv => whnf) | (refine frz_dK ?_; conv => whnf) | (refine frz_dT ?_; conv => whnf)))
    refine ⟨_, hzo, ?_⟩
    conv => whnf
    refine ⟨by simp [sizeLine_eq], ?_⟩
    (try conv => whnf); (repeat (first | (rw [updG_same]; conv => whnf) | (refine Exists.intro _ (And.intro rfl ?_); conv => whnf) | (refine And.intro rfl ?_; conv => whnf) | (refine frz_lst ?_; conv => whnf) | (refine frz_dK ?_; conv => whnf) | (refine frz_dT ?_; conv => whnf)))
    refine ⟨_, io, ?_⟩
    (try conv => whnf); (repeat (first | (rw [updG_same]; conv => whnf) | (refine Exists.intro _ (And.intro rfl ?_); conv => whnf) | (refine And.intro rfl ?_; conv => whnf) | (refine frz_lst ?_; conv => whnf) | (refine frz_dK ?_; conv => whnf) | (refine frz_dT ?_; conv => whnf)))
    refine ⟨other.toNat, by rw [List.length_set, List.length_map]; exact ixN_nat t0 (by omega), ?_⟩
    (try conv => whnf); (repeat (first | (rw [updG_same]; conv => whnf) | (refine Exists.intro _ (And.intro rfl ?_); conv => whnf) | (refine And.intro rfl ?_; conv => whnf) | (refine frz_lst ?_; conv => whnf) | (refine frz_dK ?_; conv => whnf) | (refine frz_dT ?_; conv => whnf)))
    rw [two]
    refine ret_fin _ _ ((absL_two go gt rfl rfl).trans hpR) ?_ ?_
    · exact (D4.upd df.symm).upd df.symm
    · exact (k4.putNew hG).putNew hG
  · rw [decide_eq_false c0]
    conv => whnf
    by_cases c1 : sort = 1
    · rw [decide_eq_true c1]
      (try conv => whnf); (repeat (first | (rw [updG_same]; conv => whnf) | (refine Exists.intro _ (And.intro rfl ?_); conv => whnf) | (refine And.intro rfl ?_; conv => whnf) | (refine frz_lst ?_; conv => whnf) | (refine frz_dK ?_; conv => whnf) | (refine frz_dT ?_; conv => whnf)))
      refine ⟨_, hzo, ?_⟩
      (try conv => whnf); (repeat (first | (rw [updG_same]; conv => whnf) | (refine Exists.intro _ (And.intro rfl ?_); conv => whnf) | (refine And.intro rfl ?_; conv => whnf) | (refine frz_lst ?_; conv => whnf) | (refine frz_dK ?_; conv => whnf) | (refine frz_dT ?_; conv => whnf)))
      refine ⟨_, io, ?_⟩
      (try conv => whnf); (repeat (first | (rw [updG_same]; conv => whnf) | (refine Exists.intro _ (And.intro rfl ?_); conv => whnf) | (refine And.intro rfl ?_; conv => whnf) | (refine frz_lst ?_; conv => whnf) | (refine frz_dK ?_; conv => whnf) | (refine frz_dT ?_; conv => whnf)))
      rw [one1]
      exact ret_fin _ _ (by rw [absL_one go (absI_neg zo)]; exact hpR) (D4.upd df.symm) (k4.putNew hG)
    · rw [decide_eq_false c1]
      conv => whnf
      by_cases c2 : sort = 2
      · rw [decide_eq_true c2]
        (try conv => whnf); (repeat (first | (rw [updG_same]; conv => whnf) | (refine Exists.intro _ (And.intro rfl ?_); conv => whnf) | (refine And.intro rfl ?_; conv => whnf) | (refine frz_lst ?_; conv => whnf) | (refine frz_dK ?_; conv => whnf) | (refine frz_dT ?_; conv => whnf)))
        refine ⟨_, hzt, ?_⟩
        (try conv => whnf); (repeat (first | (rw [updG_same]; conv => whnf) | (refine Exists.intro _ (And.intro rfl ?_); conv => whnf) | (refine And.intro rfl ?_; conv => whnf) | (refine frz_lst ?_; conv => whnf) | (refine frz_dK ?_; conv => whnf) | (refine frz_dT ?_; conv => whnf)))
        refine ⟨_, hzo, ?_⟩
        conv => whnf
        refine ⟨by simp [sizeLine_eq], ?_⟩
        (try conv => whnf); (repeat (first | (rw [updG_same]; conv => whnf) | (refine Exists.intro _ (And.intro rfl ?_); conv => whnf) | (refine And.intro rfl ?_; conv => whnf) | (refine frz_lst ?_; conv => whnf) | (refine frz_dK ?_; conv => whnf) | (refine frz_dT ?_; conv => whnf)))
        refine ⟨_, io, ?_⟩
        (try conv => whnf); (repeat (first | (rw [updG_same]; conv => whnf) | (refine Exists.intro _ (And.intro rfl ?_); conv => whnf) | (refine And.intro rfl ?_; conv => whnf) | (refine frz_lst ?_; conv => whnf) | (refine frz_dK ?_; conv => whnf) | (refine frz_dT ?_; conv => whnf)))
        refine ⟨other.toNat, by rw [List.length_set, List.length_map]; exact ixN_nat t0 (by omega), ?_⟩
        (try conv => whnf); (repeat (first | (rw [updG_same]; conv => whnf) | (refine Exists.intro _ (And.intro rfl ?_); conv => whnf) | (refine And.intro rfl ?_; conv => whnf) | (refine frz_lst ?_; conv => whnf) | (refine frz_dK ?_; conv => whnf) | (refine frz_dT ?_; conv => whnf)))
        rw [two]
        exact ret_fin _ _ ((absL_two go gt (absI_neg _) (absI_neg _)).trans hpR) ((D4.upd df.symm).upd df.symm) ((k4.putNew hG).putNew hG)
      · rw [decide_eq_false c2]
        conv => whnf
        by_cases c3 : sort = 3
        · rw [decide_eq_true c3]
          (try conv => whnf); (repeat (first | (rw [updG_same]; conv => whnf) | (refine Exists.intro _ (And.intro rfl ?_); conv => whnf) | (refine And.intro rfl ?_; conv => whnf) | (refine frz_lst ?_; conv => whnf) | (refine frz_dK ?_; conv => whnf) | (refine frz_dT ?_; conv => whnf)))
          rw [cutG_lo o0 (by omega), cutG_hi o0 (by omega)]
          refine ⟨by rw [List.length_map, List.length_map, List.length_drop, List.length_take, sizeLine_eq]; omega, fun p3 hp3 => ?_⟩
          have e3 := ExtG.new (o := .lst ((L.drop one.toNat).map W.int ++ (L.take one.toNat).map W.int)) hp3
          (try conv => whnf); (repeat (first | (rw [updG_same]; conv => whnf) | (refine Exists.intro _ (And.intro rfl ?_); conv => whnf) | (refine And.intro rfl ?_; conv => whnf) | (refine frz_lst ?_; conv => whnf) | (refine frz_dK ?_; conv => whnf) | (refine frz_dT ?_; conv => whnf)))
          rw [← List.map_append] at e3 ⊢
          exact ret_fin _ _ (((rot_perm L one.toNat).map absI).trans hpR) (D4.ext e3) (k4.ext e3)
        · rw [decide_eq_false c3]
          (try conv => whnf); (repeat (first | (rw [keysIn_lst updG_same]; conv => whnf) | (rw [itemsW_lst updG_same]; conv => whnf) | (refine Exists.intro _ (And.intro rfl ?_); conv => whnf) | (refine And.intro rfl ?_; conv => whnf) | (refine frz_lst ?_; conv => whnf) | (refine frz_dK ?_; conv => whnf) | (refine frz_dT ?_; conv => whnf)))
          intro p hp
          have e1 := ExtG.new (o := .lst (L.map W.int)) hp
          have D5 := D4.new (o := .lst (L.map W.int)) hp
          have dp := (D4.off hp).symm
          have hGp : G p = none := by
            cases e : G p with
            | none => rfl
            | some o => have := k4 p o dp e; rw [this] at hp; cases hp
          conv => whnf
          refine ⟨by omega, by omega, ?_⟩
          refine compW_map (f := fun i : Nat => W.int (0 + (i : Int))) (I := fun xs G' acc => ∃ ps ls : List Int, acc = ls.map W.int ∧ G' p = some (.lst (ps.map W.int)) ∧ (ls ++ ps).Perm L ∧ ps.length = xs.length ∧ Dr ns d G' ∧ KeepG d G G') ?_ ?_ _ _ _ ?_
          · rintro y ys G6 acc ⟨ps, ls, rfl, gp, e5, e6, D6, k6⟩ N' hN'
            rw [List.length_cons] at e6
            have e5l := e5.length_eq
            rw [List.length_append] at e5l
            refine ⟨trivial, ?_⟩
            conv => whnf
            refine ⟨recL_lst gp, ?_⟩
            conv => whnf
            rw [gp]
            conv => whnf
            rw [List.length_map]
            refine p__law_next (by omega) D6 fun r G7 r0 r1 D7 k7 => ?_
            have gp7 := k7 _ _ dp gp
            conv => whnf
            rw [gp7]
            conv => whnf
            have hk : r.toNat < ps.length := by omega
            refine ⟨by omega, by omega, r.toNat, .int ps[r.toNat], by rw [List.length_map]; exact seqIndex_nat r0 r1, by simp [hk], ?_⟩
            have er : (ps.map W.int).eraseIdx r.toNat = (ps.eraseIdx r.toNat).map W.int := erase_map _ _
            rw [er]
            refine ⟨by rw [List.length_map, sizeLine_eq]; omega, ?_⟩
            refine hN' _ _ ⟨ps.eraseIdx r.toNat, ls ++ [ps[r.toNat]], by rw [List.map_append]; rfl, updG_same, pool_perm hk e5, ?_, D7.upd dp.symm, (k6.trans k7).putNew hGp⟩
            · rw [List.length_eraseIdx_of_lt hk]; omega
          · rintro G6 acc ⟨ps, ls, rfl, gp, e5, e6, D6, k6⟩
            have e6 : ps = [] := List.length_eq_zero_iff.mp e6
            subst e6
            rw [List.append_nil] at e5
            have e5l := e5.length_eq
            refine ⟨trivial, fun c hc => ?_⟩
            have D7 := D6.new (o := .lst (ls.map W.int)) hc
            have dc := (D6.off hc).symm
            have k7 := k6.ext (ExtG.new (o := .lst (ls.map W.int)) hc)
            conv => whnf
            rw [updG_same]
            conv => whnf
            refine compW_draw (f := W.int) (g := W.int) (Pz := fun y z => absI z = absI y) (fun G' k => k _ _ dc updG_same) ls [] _ (.refl) D7 (by rw [sizeLine_eq]; simp; omega) (fun y hy G8 R' k8 D8 q' => ?_) fun zs G8 hz D8 k8 => ?_
            · conv => whnf
              refine ⟨by simp [sizeLine_eq], frz_lst ?_⟩
              conv => whnf
              refine p__law_next (by decide) D8 fun r8 G9 r80 r81 D9 k9 => ?_
              rcases (show r8 = 0 ∨ r8 = 1 by omega) with rfl | rfl
              · exact ⟨_, rfl, q' y G9 rfl D9 k9⟩
              · exact ⟨_, rfl, q' (-y) G9 (absI_neg y) D9 k9⟩
            · intro c2 hc2
              (try conv => whnf); (repeat (first | (rw [updG_same]; conv => whnf) | (refine Exists.intro _ (And.intro rfl ?_); conv => whnf) | (refine And.intro rfl ?_; conv => whnf) | (refine frz_lst ?_; conv => whnf) | (refine frz_dK ?_; conv => whnf) | (refine frz_dT ?_; conv => whnf)))
              exact ret_fin _ _ (by rw [paired_abs hz]; exact (e5.map absI).trans hpR) (D8.new hc2) ((k7.trans k8).ext (ExtG.new hc2))
          · exact ⟨L, [], rfl, updG_same, .refl _, by rw [List.length_range]; exact hlR, D5, k4.ext e1⟩
/-! ### _law_goes -/
abbrev N__law_goes : List Str := ["turn", "letter"]
structure P__law_goes (ws : List W) (G : GH) (R : KW) (RX : XW) : Prop where
  ex : ∃ (many : Int) (ls : List Int) (l : Int), ws = [.tup (ls.map W.int), .int l] ∧ (TurnOf many ls) ∧ (LetOf many l) ∧ (R (.int (goI ls l)) G)
theorem len__law_goes : ∀ ws G R RX, P__law_goes ws G R RX → ws.length = ["turn", "letter"].length := by
  rintro ws G R RX ⟨⟨_, _, _, rfl, _, _, _⟩⟩; rfl
theorem p__law_goes {many : Int} {ls : List Int} {l : Int} {G : GH} {R : KW} {RX : XW} (t : TurnOf many ls) (hl : LetOf many l) (q : R (.int (goI ls l)) G) : P__law_goes [.tup (ls.map W.int), .int l] G R RX := ⟨many, ls, l, rfl, t, hl, q⟩
def T__law_goes : TWS :=
  (sRet (tIfE (tTestW (tOpW gtW (tV 1) (tK (.int 0)))) (tOpW ixW (tV 0) (tOpW subW (tV 1) (tK (.int 1)))) (tNegW (tOpW ixW (tV 0) (tOpW subW (tNegW (tV 1)) (tK (.int 1)))))))
theorem rd__law_goes (ws : List W) (G : GH) (R : KW) (RX : XW) (h : P__law_goes ws G R RX) : T__law_goes { nx := fun _ G' => fgt R .non G', rt := fgt R } (startW N__law_goes ws) G := by
  obtain ⟨many, ls, l, rfl, t, hl, q⟩ := h
  unfold LetOf absI at hl
  unfold goI at q
  conv => whnf
  by_cases c : l > 0
  · rw [if_pos c] at q
    rw [if_neg (by omega)] at hl
    rw [decide_eq_true c]
    conv => whnf
    exact ⟨_, (t.get hl.1 hl.2).2, ret q⟩
  · rw [if_neg c] at q
    rw [if_pos (show l < 0 by split at hl <;> omega)] at hl
    rw [decide_eq_false c]
    conv => whnf
    exact ⟨_, (t.get hl.1 hl.2).2, ret q⟩
end WS
set_option Elab.async false
set_option linter.all false
set_option maxRecDepth 100000
set_option maxHeartbeats 4000000
namespace WS
open PySem PySem.Spec PyProof.Rows L2 WL
theorem turn_small {many : Int} {t : List Int} (h : TurnOf many t) : ∀ l ∈ t, l.natAbs < 10 ^ 9 := fun l hl => by have := h.bound l hl; omega
/-- a thing drawn out of a pool: pool.pop(next(draw, len(pool))) -/
theorem pool_pop {i j : Nat} {S : WSt} {d p : Addr} {ns ps : List Int} {G G2 : GH} {R' : KW} (h0 : S[j]? = some (some (.ref d))) (hi : S[i]? = some (some (.ref p))) (gp : G2 p = some (.lst (ps.map W.int))) (ne : 0 < ps.length) (hl : ps.length ≤ 1000000)
    (D : Dr ns d G2) (hG : G p = none) (k : KeepG d G G2) (q : ∀ (r : Nat) (hr : r < ps.length) G3, G3 p = some (.lst ((ps.eraseIdx r).map W.int)) → Dr ns d G3 → KeepG d G G3 → R' (.int ps[r]) G3) :
    tMetL popW (tV i) (tCo (tCall0 P__law_next [] (tCo (tV j) (tCo (tCW lenQ (tCo (tV i) tN)) tN))) tN) S G2 R' := by
  have dp : p ≠ d := D.ne gp fun n e => by
    have := congrArg (List.map fun w : W => w.isN) e
    cases ps with
    | nil => simp at ne
    | cons a ps => cases e
  simp only [tMetL, tV, tCo, tCall0, tCW, tN, h0, hi, lenQ, gp, List.append_nil, List.length_map]
  refine ⟨recL_lst gp, ?_⟩
  refine p__law_next (by omega) D fun r G3 r0 r1 D3 k3 => ?_
  have gp3 := k3 _ _ dp gp
  unfold popW
  dsimp only
  rw [gp3]
  have hk : r.toNat < ps.length := by omega
  refine ⟨by omega, by omega, r.toNat, .int ps[r.toNat], by rw [List.length_map]; exact seqIndex_nat r0 (by omega), by simp [hk], ?_⟩
  have er : (ps.map W.int).eraseIdx r.toNat = (ps.eraseIdx r.toNat).map W.int := erase_map _ _
  rw [er]
  exact q r.toNat hk _ updG_same (D3.upd dp.symm) ((k.trans k3).putNew hG)
/-- [pool.pop(next(draw, len(pool))) for .. in xs] -/
theorem comp_pool {α : Type} {f : α → W} {Gd : GH → Prop} {i j m : Nat} {S0 : WSt} {R : List W → GH → Prop} {d p : Addr} {ns : List Int} {G : GH} (hG : G p = none) (hg : ∀ G', Gd G') (h0 : S0[j]? = some (some (.ref d))) (hi : S0[i]? = some (some (.ref p))) (mj : m ≠ j) (mi : m ≠ i) :
    ∀ (xs : List α) (ls ps : List Int) (G1 : GH), G1 p = some (.lst (ps.map W.int)) → KeepG d G G1 → Dr ns d G1 → xs.length ≤ ps.length → ls.length + ps.length ≤ 1000000 →
    (∀ (ls' ps' : List Int) G', (ls' ++ ps').Perm (ls ++ ps) → ls'.length = ls.length + xs.length → G' p = some (.lst (ps'.map W.int)) → Dr ns d G' → KeepG d G G' → R (ls'.map W.int) G') →
    compW Gd (gN m) tYesW (tMetL popW (tV i) (tCo (tCall0 P__law_next [] (tCo (tV j) (tCo (tCW lenQ (tCo (tV i) tN)) tN))) tN)) S0 R (xs.map f) G1 (ls.map W.int)
  | [], ls, ps, G1, gp, k, D, _, _, q => ⟨hg _, q ls ps G1 (.refl _) (by simp) gp D k⟩
  | x :: xs, ls, ps, G1, gp, k, D, hx, hl, q => by
    rw [List.length_cons] at hx
    refine ⟨hg _, ?_⟩
    refine pool_pop (S := S0.set m (some (f x))) (by rw [List.getElem?_set_ne mj]; exact h0) (by rw [List.getElem?_set_ne mi]; exact hi) gp (by omega) (by omega) D hG k fun r hr G3 gp3 D3 k3 => ?_
    refine ⟨by rw [List.length_map, sizeLine_eq]; omega, ?_⟩
    have e : ls.map W.int ++ [.int ps[r]] = (ls ++ [ps[r]]).map W.int := by rw [List.map_append]; rfl
    rw [e]
    refine comp_pool hG hg h0 hi mj mi xs _ _ G3 gp3 k3 D3 (by rw [List.length_eraseIdx_of_lt hr]; omega) (by rw [List.length_eraseIdx_of_lt hr, List.length_append, List.length_singleton]; omega) fun ls' ps' G' pm hl' g' D' k' => ?_
    refine q ls' ps' G' (pm.trans ?_) (by rw [hl', List.length_append, List.length_singleton, List.length_cons]; omega) g' D' k'
    exact pool_perm hr (.refl _)
/-- a sign drawn: [x, -x][next(draw, 2)] -/
theorem sign_draw {i j : Nat} {S : WSt} {d : Addr} {ns : List Int} {y : Int} {G2 : GH} {R' : KW} (h0 : S[j]? = some (some (.ref d))) (hi : S[i]? = some (some (.int y))) (D : Dr ns d G2) (q : ∀ z G3, absI z = absI y → Dr ns d G3 → KeepG d G2 G3 → R' (.int z) G3) :
    tOpW ixW (tFz (tLstW (tCo (tV i) (tCo (tNegW (tV i)) tN)))) (tCall0 P__law_next [] (tCo (tV j) (tCo (tK (.int 2)) tN))) S G2 R' := by
  simp only [tOpW, tFz, tLstW, tCo, tV, hi, h0, tNegW, negW, tN, tCall0, tK, List.append_nil]
  refine ⟨by simp [sizeLine_eq], frz_lst ?_⟩
  refine p__law_next (by decide) D fun r8 G9 r80 r81 D9 k9 => ?_
  rcases (show r8 = 0 ∨ r8 = 1 by omega) with rfl | rfl
  · exact ⟨_, rfl, q y G9 rfl D9 k9⟩
  · exact ⟨_, rfl, q (-y) G9 (absI_neg y) D9 k9⟩
/-- [[x, -x][next(draw, 2)] for x in ls] -/
theorem comp_signs {Gd : GH → Prop} {i j : Nat} {S0 : WSt} {R : List W → GH → Prop} {d : Addr} {ns : List Int} {G : GH} (hg : ∀ G', KeepG d G G' → Gd G') (h0 : S0[j]? = some (some (.ref d))) (ij : i ≠ j) (hi : S0[i]?.isSome = true) {ls : List Int} (D : Dr ns d G) (hl : ls.length ≤ 1000000)
    (q : ∀ zs G', absL zs = absL ls → Dr ns d G' → KeepG d G G' → R (zs.map W.int) G') :
    compW Gd (gN i) tYesW (tOpW ixW (tFz (tLstW (tCo (tV i) (tCo (tNegW (tV i)) tN)))) (tCall0 P__law_next [] (tCo (tV j) (tCo (tK (.int 2)) tN)))) S0 R (ls.map W.int) G [] :=
  compW_draw (f := W.int) (g := W.int) (Pz := fun y z => absI z = absI y) hg ls [] G .refl D (by rw [sizeLine_eq]; simp; omega)
    (fun y _ G2 R' k2 D2 q' => sign_draw (S := S0.set i (some (.int y))) (by rw [List.getElem?_set_ne ij]; exact h0) (List.getElem?_set_self (by rw [Option.isSome_iff_exists] at hi; obtain ⟨_, e⟩ := hi; exact (List.getElem?_eq_some_iff.mp e).1)) D2 q')
    fun zs G' hz D' k' => q zs G' (paired_abs hz) D' k'
/-- [next(draw, n) for .. in xs] -/
theorem comp_next {α : Type} {f : α → W} {Gd : GH → Prop} {i j : Nat} {S0 : WSt} {R : List W → GH → Prop} {d : Addr} {ns : List Int} {G : GH} {n : Int} (hg : ∀ G', KeepG d G G' → Gd G') (h0 : S0[j]? = some (some (.ref d))) (ij : i ≠ j) (hn : 0 < n) {xs : List α} (D : Dr ns d G) (hl : xs.length ≤ 1000000)
    (q : ∀ (zs : List Int) G', zs.length = xs.length → (∀ z ∈ zs, 0 ≤ z ∧ z < n) → Dr ns d G' → KeepG d G G' → R (zs.map W.int) G') :
    compW Gd (gN i) tYesW (tCall0 P__law_next [] (tCo (tV j) (tCo (tK (.int n)) tN))) S0 R (xs.map f) G [] :=
  compW_draw (f := f) (g := W.int) (Pz := fun _ z => 0 ≤ z ∧ z < n) hg xs [] G .refl D (by rw [sizeLine_eq]; simp; omega)
    (fun y _ G2 R' k2 D2 q' => by
      show tCall0 P__law_next [] (tCo (tV j) (tCo (tK (.int n)) tN)) (S0.set i (some (f y))) G2 R'
      have e : (S0.set i (some (f y)))[j]? = some (some (.ref d)) := by rw [List.getElem?_set_ne ij]; exact h0
      simp only [tCall0, tCo, tV, e, tK, tN, List.append_nil]
      exact p__law_next hn D2 fun r G3 r0 r1 D3 k3 => q' r G3 ⟨r0, r1⟩ D3 k3)
    fun zs G' hz D' k' => q zs G' (Paired.all2 hz).1 (Paired.all2 hz).2 D' k'
/-! ### _law_joined -/
abbrev N__law_joined : List Str := ["one", "other", "letter"]
structure P__law_joined (ws : List W) (G : GH) (R : KW) (RX : XW) : Prop where
  ex : ∃ (many : Int) (a c : List Int), ws = [.tup (a.map W.int), .tup (c.map W.int)] ∧ (TurnOf many a) ∧ (TurnOf many c) ∧ (R (.tup ((thenL a c).map W.int)) G)
theorem len__law_joined : ∀ ws G R RX, P__law_joined ws G R RX → ws.length = ["one", "other"].length := by
  rintro ws G R RX ⟨⟨_, _, _, rfl, _, _, _⟩⟩; rfl
theorem p__law_joined {many : Int} {a c : List Int} {G : GH} {R : KW} {RX : XW} (ta : TurnOf many a) (tc : TurnOf many c) (q : R (.tup ((thenL a c).map W.int)) G) : P__law_joined [.tup (a.map W.int), .tup (c.map W.int)] G R RX := ⟨many, a, c, rfl, ta, tc, q⟩
def T__law_joined : TWS :=
  (sRet (tCF fTup (tCompI (tISeq (tV 0)) (gN 2) tYesW (tCall0 P__law_goes [] (tCo (tV 1) (tCo (tV 2) tN))) [2])))
theorem rd__law_joined (ws : List W) (G : GH) (R : KW) (RX : XW) (h : P__law_joined ws G R RX) : T__law_joined { nx := fun _ G' => fgt R .non G', rt := fgt R } (startW N__law_joined ws) G := by
  obtain ⟨many, a, c, rfl, ta, tc, q⟩ := h
  have la := ta.len
  have h4 := ta.h4
  conv => whnf
  refine compW_pure (f := W.int) (v := fun l => W.int (goI c l)) trivial a [] (by rw [sizeLine_eq]; simp; omega) (fun l hm R' q' => ?_) ?_
  · exact p__law_goes tc (ta.mem hm) q'
  · rw [List.nil_append, show (a.map fun l => W.int (goI c l)) = (thenL a c).map W.int by unfold thenL; rw [List.map_map]; rfl]
    exact ret q
/-! ### _law_clause -/
abbrev N__law_clause : List Str := ["draw", "many", "top", "pool", "size", "truths", "k", "truth"]
structure P__law_clause (ws : List W) (G : GH) (R : KW) (RX : XW) : Prop where
  ex : ∃ (ns : List Int) (d : Addr) (many top : Int), ws = [.ref d, .int many, .int top] ∧ (1 ≤ many) ∧ (many ≤ 400) ∧ (0 ≤ top) ∧ (top ≤ 1000) ∧ (Dr ns d G) ∧ (∀ (c : List Int) G', ClauseOf many c → (c.length : Int) ≤ (if 1 < top then top else 1) → Dr ns d G' → KeepG d G G' → R (.tup (c.map W.int)) G')
theorem len__law_clause : ∀ ws G R RX, P__law_clause ws G R RX → ws.length = ["draw", "many", "top"].length := by
  rintro ws G R RX ⟨⟨_, _, _, _, rfl, _, _, _, _, _, _⟩⟩; rfl
theorem p__law_clause {ns : List Int} {d : Addr} {many top : Int} {G : GH} {R : KW} {RX : XW} (h0 : 1 ≤ many) (h1 : many ≤ 400) (ht : 0 ≤ top) (ht1 : top ≤ 1000) (D : Dr ns d G) (q : ∀ (c : List Int) G', ClauseOf many c → (c.length : Int) ≤ (if 1 < top then top else 1) → Dr ns d G' → KeepG d G G' → R (.tup (c.map W.int)) G') : P__law_clause [.ref d, .int many, .int top] G R RX := ⟨ns, d, many, top, rfl, h0, h1, ht, ht1, D, q⟩
def T__law_clause : TWS :=
  (sSeq (sSet 3 (tListRg (tRg2W (tK (.int 1)) (tOpW addW (tV 1) (tK (.int 1))))))
    (sSeq (sSet 4 (tCW (mm2W fun i j => if j > i then j else i) (tCo (tCW toIntW (tCo (tOpW gtW (tCall0 P__law_next [] (tCo (tV 0) (tCo (tK (.int 3)) tN))) (tK (.int 0))) tN)) (tCo (tCall0 P__law_next [] (tCo (tV 0) (tCo (tOpW addW (tV 2) (tK (.int 1))) tN))) tN))))
    (sSeq (sSet 5 (tFz (tCF fSorted (tCompI (tIRng1 (tCo (tCW (mm2W fun i j => if j < i then j else i) (tCo (tV 1) (tCo (tV 4) tN))) tN)) (gN 6) tYesW (tMetL popW (tV 3) (tCo (tCall0 P__law_next [] (tCo (tV 0) (tCo (tCW lenQ (tCo (tV 3) tN)) tN))) tN)) [6]))))
    (sRet (tCF fTup (tCompI (tISeq (tV 5)) (gN 7) tYesW (tOpW ixW (tFz (tLstW (tCo (tV 7) (tCo (tNegW (tV 7)) tN)))) (tCall0 P__law_next [] (tCo (tV 0) (tCo (tK (.int 2)) tN)))) [7]))))))
theorem rd__law_clause (ws : List W) (G : GH) (R : KW) (RX : XW) (h : P__law_clause ws G R RX) : T__law_clause { nx := fun _ G' => fgt R .non G', rt := fgt R } (startW N__law_clause ws) G := by
  obtain ⟨ns, d, many, top, rfl, h0, h1, ht, ht1, D, q⟩ := h
  conv => whnf
  refine ⟨.of_le (by decide) (by omega) (by decide) (by omega), ?_⟩
  (intro p hp); (generalize eG1 : updG G p _ = G1); (have xG1 : ExtG G G1 := eG1 ▸ ExtG.new hp); (have gG1 := (congrFun eG1 p).symm); (rw [updG_same] at gG1); (clear eG1)
  have D1 := D.ext xG1
  have dp := (D.off hp).symm
  have hGp : G p = none := hp
  conv => whnf
  refine p__law_next (by decide) D1 fun n3 G2 a0 a1 D2 k2 => ?_
  conv => whnf
  refine p__law_next (by omega) D2 fun n4 G3 b0 b1 D3 k3 => ?_
  conv => whnf
  have gp3 := k3 _ _ dp (k2 _ _ dp gG1)
  have K3 : KeepG d G G3 := (xG1.keep.trans k2).trans k3
  have hm : ∃ m : Int, (if (if n4 > (if decide (0 < n3) = true then 1 else 0) then n4 else (if decide (0 < n3) = true then 1 else 0)) < many then (if n4 > (if decide (0 < n3) = true then 1 else 0) then n4 else (if decide (0 < n3) = true then 1 else 0)) else many) = m ∧ 0 ≤ m ∧ m ≤ many ∧ m ≤ (if 1 < top then top else 1) := by
    refine ⟨_, rfl, ?_, ?_, ?_⟩ <;> (repeat' split) <;> omega
  obtain ⟨m, em, m0, m1, m2⟩ := hm
  dsimp only
  rw [em]
  refine ⟨by omega, by omega, ?_⟩
  have hlR : (rgI 1 (many + 1)).length = many.toNat := by rw [rgI_length]; congr 1; omega
  refine comp_pool (j := 0) (i := 3) hGp (fun _ => trivial) rfl rfl (by decide) (by decide) _ [] (rgI 1 (many + 1)) G3 gp3 K3 D3 (by rw [List.length_range, hlR]; omega) (by rw [hlR, List.length_nil]; omega) fun ls ps G4 pm hls gp4 D4 k4 => ?_
  unfold fSorted
  rw [intsOf_map]
  intro ms pms srt
  refine frz_lst ?_
  conv => whnf
  rw [List.nil_append] at pm
  have nd : (ls ++ ps).Nodup := pm.nodup_iff.mpr (rgI_nodup _ _)
  have ndm : ms.Nodup := pms.nodup_iff.mpr (List.nodup_append.mp nd).1
  have bm : ∀ x ∈ ms, 1 ≤ x ∧ x ≤ many := fun x hx => by
    have := rgI_mem.mp (pm.mem_iff.mp (List.mem_append_left _ (pms.mem_iff.mp hx)))
    omega
  have am : absL ms = ms := by
    conv => rhs; rw [← List.map_id ms]
    exact List.map_congr_left fun x hx => by have := bm x hx; unfold absI; rw [if_neg (by omega)]; rfl
  have lm : ms.length = m.toNat := by rw [pms.length_eq, hls, List.length_range]; simp
  refine comp_signs (j := 0) (fun _ _ => trivial) rfl (by decide) rfl D4 (by omega) fun zs G5 az D5 k5 => ?_
  have lz : zs.length = ms.length := by have := congrArg List.length az; rw [List.length_map, List.length_map] at this; exact this
  refine ret (q zs G5 ⟨fun l hl => ?_, by rw [az, am]; exact ndm, ?_⟩ (by rw [lz, lm]; omega) D5 (k4.trans k5))
  · have : absI l ∈ absL ms := az ▸ List.mem_map_of_mem hl
    rw [am] at this
    exact bm _ this
  · have : (absL zs).Pairwise (· ≤ ·) := by rw [az, am]; exact srt
    unfold absL at this
    rw [List.pairwise_map] at this
    exact this
/-! ### _law_holds -/
abbrev N__law_holds : List Str := ["clause", "answer", "letter"]
structure P__law_holds (ws : List W) (G : GH) (R : KW) (RX : XW) : Prop where
  ex : ∃ (many : Int) (c bs : List Int), ws = [.tup (c.map W.int), .tup (bs.map W.int)] ∧ (∀ l ∈ c, LetOf many l) ∧ (c.length ≤ 1000) ∧ (BitsOf many bs) ∧ (R (.bl (holdsB c bs)) G)
theorem len__law_holds : ∀ ws G R RX, P__law_holds ws G R RX → ws.length = ["clause", "answer"].length := by
  rintro ws G R RX ⟨⟨_, _, _, rfl, _, _, _, _⟩⟩; rfl
theorem p__law_holds {many : Int} {c bs : List Int} {G : GH} {R : KW} {RX : XW} (hc : ∀ l ∈ c, LetOf many l) (hl : c.length ≤ 1000) (B : BitsOf many bs) (q : R (.bl (holdsB c bs)) G) : P__law_holds [.tup (c.map W.int), .tup (bs.map W.int)] G R RX := ⟨many, c, bs, rfl, hc, hl, B, q⟩
def T__law_holds : TWS :=
  (sRet (tCF (fBols fun bs => bs.any fun b => b) (tCompI (tISeq (tV 0)) (gN 2) tYesW (tOpW (eqQ false) (tOpW ixW (tV 1) (tOpW subW (tCW absW (tCo (tV 2) tN)) (tK (.int 1)))) (tCW toIntW (tCo (tOpW gtW (tV 2) (tK (.int 0))) tN))) [2])))
theorem rd__law_holds (ws : List W) (G : GH) (R : KW) (RX : XW) (h : P__law_holds ws G R RX) : T__law_holds { nx := fun _ G' => fgt R .non G', rt := fgt R } (startW N__law_holds ws) G := by
  obtain ⟨many, c, bs, rfl, hc, hl, B, q⟩ := h
  conv => whnf
  refine compW_pure (f := W.int) (v := fun l => W.bl (holdB bs l)) trivial c [] (by rw [sizeLine_eq]; simp; omega) (fun l hm R' q' => ?_) ?_
  · have h := hc l hm
    conv => whnf
    refine ⟨_, (B.get h).2, ?_⟩
    conv => whnf
    unfold holdB at q'
    by_cases c0 : l > 0
    · rw [decide_eq_true c0]
      rw [if_pos c0] at q'
      conv => whnf
      rw [fbne, if_pos rfl]
      exact q'
    · rw [decide_eq_false c0]
      rw [if_neg c0] at q'
      conv => whnf
      rw [fbne, if_neg (by decide)]
      exact q'
  · rw [List.nil_append, show (c.map fun l => W.bl (holdB bs l)) = (c.map (holdB bs)).map W.bl by rw [List.map_map]; rfl]
    unfold fBols
    rw [blsOf_map]
    dsimp only
    rw [show ((c.map (holdB bs)).any fun b => b) = holdsB c bs by rw [List.any_map]; rfl]
    exact ret q
end WS
set_option Elab.async false
set_option linter.all false
set_option maxRecDepth 100000
set_option maxHeartbeats 4000000
/-! WL, part ke: list comprehensions with two clauses. -/
namespace WL
open PySem PySem.Spec PyProof.Rows L2 PySem.W
def addLW (D : Addr) (w : W) (G : GH) (R : GH → Prop) : Prop := match G D with
  | some (.lst acc) => acc.length < sizeLine ∧ R (updG G D (.lst (acc ++ [w])))
  | _ => False
def compD1 (Gd : GH → Prop) (g : TGW) (tt : TWT) (te : TW) (S0 : WSt) (D : Addr) (R : GH → Prop) : List W → GH → Prop
  | [], G => Gd G ∧ R G
  | x :: xs, G => Gd G ∧ g x S0 G fun S2 G2 => tt S2 G2 fun b G3 => if b = true then te S2 G3 fun w G4 => addLW D w G4 fun G5 => compD1 Gd g tt te S0 D R xs G5 else compD1 Gd g tt te S0 D R xs G3
def compD2 (Gd : GH → Prop) (g : TGW) (tt : TWT) (ti1 : TIW) (g1 : TGW) (tt1 : TWT) (te : TW) (S0 : WSt) (vs1 : List Nat) (D : Addr) (R : GH → Prop) : List W → GH → Prop
  | [], G => Gd G ∧ R G
  | x :: xs, G => Gd G ∧ g x S0 G fun S2 G2 => tt S2 G2 fun b G3 =>
    if b = true then ti1 S2 G3 fun items1 Gd1 G4 => compD1 Gd1 g1 tt1 te (wipeW S2 vs1) D (fun G5 => compD2 Gd g tt ti1 g1 tt1 te S0 vs1 D R xs G5) items1 G4
    else compD2 Gd g tt ti1 g1 tt1 te S0 vs1 D R xs G3
def tComp2 (ti : TIW) (g : TGW) (tt : TWT) (ti1 : TIW) (g1 : TGW) (tt1 : TWT) (te : TW) (vs vs1 : List Nat) : TW := fun S G R =>
  ti S G fun items Gd G1 => ∀ D, G1 D = none → compD2 Gd g tt ti1 g1 tt1 te (wipeW S vs) vs1 D (fun G2 => R (.ref D) G2) items (updG G1 D (.lst []))
section
variable {X : Cx} {Z : GH × Hp} {pos : Pos}
theorem lfComp2 {K : PySem.W.Frag} {ti ti1 : TIW} {gh gh1 : TG} {g g1 : TGW} {tt tt1 : TWT} {te : TW} {vs vs1 : List Nat} (gok : GOk K Z gh g vs) (gok1 : GOk K Z gh1 g1 vs1) (σ : L2.St) (H : Hp) (Q : VK) (h : Lf K Z (tComp2 ti g tt ti1 g1 tt1 te vs vs1) σ H Q) :
    tLc2 (LfI K Z ti) gh (LfT K Z tt) (LfI K Z ti1) gh1 (LfT K Z tt1) (Lf K Z te) vs vs1 σ H Q := by
  obtain ⟨S, G, R, sr, t, k⟩ := h
  refine ⟨S, G, _, sr, t, fun items Gd G1 J H1 t1 f1 h1 wi D hD => ?_⟩
  have gD : G1 D = none := h1.free hD
  have t1 := t1 D gD
  have fnew : FR G1 H1 (updG G1 D (.lst [])) (upd H1 D (.lst [])) := .newG hD
  have hnew : RH K (upd H1 D (.lst [])) (updG G1 D (.lst [])) := by
    intro a o e
    by_cases z : a = D
    · subst z; rw [updG_same] at e; cases e; exact ⟨[], upd_same, .nil⟩
    · rw [updG_ne z] at e; exact h1.new hD a o e
  -- what stands between two turns
  let St : Nat → Hp → Prop := fun i H' => ∃ G', SR K Z (L2.wipe σ vs) H' (wipeW S vs) G' ∧ FR G1 H1 G' H' ∧ compD2 Gd g tt ti1 g1 tt1 te (wipeW S vs) vs1 D (fun G2 => R (.ref D) G2) (items.drop i) G'
  refine ⟨fun i m H' => m = items.length - i ∧ i ≤ items.length ∧ St i H', ⟨items.length, by simp, Nat.zero_le _, _, ((sr.next f1 h1).next fnew hnew).wipe vs, fnew, t1⟩, ?_⟩
  rintro i m H2 ⟨rfl, hi, G2, sr2, f2, t2⟩
  by_cases hlt : i < items.length
  · rw [List.drop_eq_getElem_cons hlt] at t2
    obtain ⟨gd, t2⟩ := t2
    refine .inr ⟨wi.go i G2 H2 f2 sr2.rh gd hlt, St (i + 1), fun H' q => ⟨items.length - (i + 1), by omega, rfl, hlt, q⟩, fun x H3 y => ?_⟩
    obtain ⟨f3, r3, h3⟩ := wi.yld i G2 H2 x H3 items[i] f2 sr2.rh gd (by simp [hlt]) y
    have sr3 := sr2.next f3 h3
    have kp := fun Q' => gok.keeps x (L2.wipe σ vs) H3 Q'
    simp only [wipe_wipe vs fun _ h => h] at kp
    refine kp _ (gok.lift _ _ _ _ (LfG.go r3 sr3 t2 fun S4 G4 σ4 H4 t4 sr4 f4 => ?_))
    refine LfT.go sr4 t4 fun b G5 H5 t5 f5 h5 => ?_
    have f25 : FR G2 H2 G5 H5 := f3.trans (f4.trans f5)
    have sr5 := sr4.next f5 h5
    cases b with
    | false => exact iteF ⟨G5, sr2.next f25 h5, f2.trans f25, t5⟩
    | true =>
      refine iteT ⟨S4, G5, _, sr5, t5, fun its1 Gd1 G6 J1 H6 t6 f6 h6 wi1 => ?_⟩
      have f26 := f25.trans f6
      have sr6 := sr5.next f6 h6
      let St1 : Nat → Hp → Prop := fun j H' => ∃ G', SR K Z (L2.wipe σ4 vs1) H' (wipeW S4 vs1) G' ∧ SR K Z (L2.wipe σ vs) H' (wipeW S vs) G' ∧ FR G1 H1 G' H' ∧ FR G6 H6 G' H' ∧
        compD1 Gd1 g1 tt1 te (wipeW S4 vs1) D (fun G5 => compD2 Gd g tt ti1 g1 tt1 te (wipeW S vs) vs1 D (fun G2 => R (.ref D) G2) (items.drop (i + 1)) G5) (its1.drop j) G'
      refine ⟨fun j m H' => m = its1.length - j ∧ j ≤ its1.length ∧ St1 j H', ⟨its1.length, by simp, Nat.zero_le _, G6, sr6.wipe vs1, sr2.next f26 h6, f2.trans f26, .refl, t6⟩, ?_⟩
      rintro j mm H7 ⟨rfl, hj, G7, sr7, sq7, f7, ff7, t7⟩
      by_cases hlt1 : j < its1.length
      · rw [List.drop_eq_getElem_cons hlt1] at t7
        obtain ⟨gd1, t7⟩ := t7
        refine .inr ⟨wi1.go j G7 H7 ff7 sr7.rh gd1 hlt1, St1 (j + 1), fun H' q => ⟨its1.length - (j + 1), by omega, rfl, hlt1, q⟩, fun x1 H8 y1 => ?_⟩
        obtain ⟨f8, r8, h8⟩ := wi1.yld j G7 H7 x1 H8 its1[j] ff7 sr7.rh gd1 (by simp [hlt1]) y1
        have sr8 := sr7.next f8 h8
        have kp1 := fun Q' => gok1.keeps x1 (L2.wipe σ4 vs1) H8 Q'
        simp only [wipe_wipe vs1 fun _ h => h] at kp1
        refine kp1 _ (gok1.lift _ _ _ _ (LfG.go r8 sr8 t7 fun S9 G9 σ9 H9 t9 sr9 f9 => ?_))
        refine LfT.go sr9 t9 fun b1 Ga Ha ta fa ha => ?_
        have f7a : FR G7 H7 Ga Ha := f8.trans (f9.trans fa)
        cases b1 with
        | false => exact iteF ⟨Ga, sr7.next f7a ha, sq7.next f7a ha, f7.trans f7a, ff7.trans f7a, ta⟩
        | true =>
          refine iteT (Lf.go (sr9.next fa ha) ta fun wb Gb vb Hb tb fb rb hb => ?_)
          have f7b := f7a.trans fb
          unfold addLW at tb
          split at tb
          · rename_i acc eD
            obtain ⟨us, hd, rs⟩ := hb D _ eD
            have ff : FR Gb Hb (updG Gb D (.lst (acc ++ [wb]))) (upd Hb D (.lst (us ++ [vb]))) := .put eD
            have hh : RH K (upd Hb D (.lst (us ++ [vb]))) (updG Gb D (.lst (acc ++ [wb]))) :=
              hb.put eD (show RO K _ D (.lst (acc ++ [wb])) from ⟨_, upd_same, RVs.append (rs.mono (FR.put (o := .lst []) eD) hb) (.cons (rb.mono (FR.put (o := .lst []) eD) hb) .nil)⟩)
            have f7c := f7b.trans ff
            exact ⟨us, hd, by rw [rs.length]; exact tb.1, _, sr7.next f7c hh, sq7.next f7c hh, f7.trans f7c, ff7.trans f7c, tb.2⟩
          · exact tb.elim
      · have e : j = its1.length := by omega
        subst e
        rw [List.drop_length] at t7
        exact .inl ⟨wi1.stop G7 H7 ff7 sr7.rh t7.1, G7, sq7, f7, t7.2⟩
  · have e : i = items.length := by omega
    subst e
    rw [List.drop_length] at t2
    obtain ⟨q1, q2⟩ := t2
    exact .inl ⟨wi.stop G2 H2 f2 sr2.rh q1, k _ _ _ _ q2 (f1.trans f2) (.ref D) sr2.rh⟩
theorem we_comp2 {elt tg iter tg1 iter1 : Expr} {ifs ifs1 : List Expr} {scope : Scope} {own own1 : List (Str × Nat)} {ti ti1 : TIW} {gh gh1 : TG} {g g1 : TGW} {tt tt1 : TWT} {te : TW} (hc : X.calm = true) (hN : X.N.Nodup) (hi : WI X Z tg iter ti) (ok : BlkOk X.N X.env.scope scope own) (hv : ∀ i ∈ own1.map (·.2), i ∈ own.map (·.2))
    (gok : GOk X.K Z gh g (own.map (·.2))) (gok1 : GOk X.K Z gh1 g1 (own1.map (·.2)))
    (hg : ∀ (s : Shared) (H : Hp) (C : Addr) (cl : List (Str × Addr)) (fp : List Addr), PG (X.blk s H scope (compEnvC scope cl C X.env) fp) tg gh) (ht : ∀ (s : Shared) (H : Hp) (C : Addr) (cl : List (Str × Addr)) (fp : List Addr), PTsW (X.blk s H scope (compEnvC scope cl C X.env) fp) Z ifs tt)
    (hi1 : ∀ (s : Shared) (H : Hp) (C : Addr) (cl : List (Str × Addr)) (fp : List Addr), WI (X.blk s H scope (compEnvC scope cl C X.env) fp) Z tg1 iter1 ti1)
    (hg1 : ∀ (s : Shared) (H : Hp) (C : Addr) (cl : List (Str × Addr)) (fp : List Addr), PG (X.blk s H scope (compEnvC scope cl C X.env) fp) tg1 gh1) (ht1 : ∀ (s : Shared) (H : Hp) (C : Addr) (cl : List (Str × Addr)) (fp : List Addr), PTsW (X.blk s H scope (compEnvC scope cl C X.env) fp) Z ifs1 tt1)
    (he : ∀ (s : Shared) (H : Hp) (C : Addr) (cl : List (Str × Addr)) (fp : List Addr), WE (X.blk s H scope (compEnvC scope cl C X.env) fp) Z elt te) (hs : ∀ x, foldedSetIterable iter X.env x = pure x := by intro _; rfl) (hs1 : ∀ env x, foldedSetIterable iter1 env x = pure x := by intro _ _; rfl) :
    WE X Z (.ListComp elt [⟨tg, iter, ifs, 0⟩, ⟨tg1, iter1, ifs1, 0⟩] scope pos) (tComp2 ti g tt ti1 g1 tt1 te (own.map (·.2)) (own1.map (·.2))) :=
  (pe_lc2 (wi1 := LfI X.K Z ti1) (tt := LfT X.K Z tt) (tt1 := LfT X.K Z tt1) (te := Lf X.K Z te) hc hN hi ok hv hg ht hi1 hg1 ht1 he hs hs1).weak (lfComp2 gok gok1)
theorem ws_setC2 {i : Nat} {y : Str} {py spos : Pos} {elt tg iter tg1 iter1 : Expr} {ifs ifs1 : List Expr} {scope : Scope} {own own1 : List (Str × Nat)} {ti ti1 : TIW} {gh gh1 : TG} {g g1 : TGW} {tt tt1 : TWT} {te : TW} (hc : X.calm = true) (hN : X.N.Nodup) (hy : X.N[i]? = some y) (hyl : X.env.scope.names.lookup y = some .local) (hsw : swapsWith (.ListComp elt [⟨tg, iter, ifs, 0⟩, ⟨tg1, iter1, ifs1, 0⟩] scope pos) (some (.Name y py)) spos.line X.env = pure true) (hi : WI X Z tg iter ti) (ok : BlkOk X.N X.env.scope scope own) (hv : ∀ i ∈ own1.map (·.2), i ∈ own.map (·.2))
    (gok : GOk X.K Z gh g (own.map (·.2))) (gok1 : GOk X.K Z gh1 g1 (own1.map (·.2)))
    (hg : ∀ (s : Shared) (H : Hp) (C : Addr) (cl : List (Str × Addr)) (fp : List Addr), PG (X.blk s H scope (compEnvC scope cl C X.env) fp) tg gh) (ht : ∀ (s : Shared) (H : Hp) (C : Addr) (cl : List (Str × Addr)) (fp : List Addr), PTsW (X.blk s H scope (compEnvC scope cl C X.env) fp) Z ifs tt)
    (hi1 : ∀ (s : Shared) (H : Hp) (C : Addr) (cl : List (Str × Addr)) (fp : List Addr), WI (X.blk s H scope (compEnvC scope cl C X.env) fp) Z tg1 iter1 ti1)
    (hg1 : ∀ (s : Shared) (H : Hp) (C : Addr) (cl : List (Str × Addr)) (fp : List Addr), PG (X.blk s H scope (compEnvC scope cl C X.env) fp) tg1 gh1) (ht1 : ∀ (s : Shared) (H : Hp) (C : Addr) (cl : List (Str × Addr)) (fp : List Addr), PTsW (X.blk s H scope (compEnvC scope cl C X.env) fp) Z ifs1 tt1)
    (he : ∀ (s : Shared) (H : Hp) (C : Addr) (cl : List (Str × Addr)) (fp : List Addr), WE (X.blk s H scope (compEnvC scope cl C X.env) fp) Z elt te) (hs : ∀ x, foldedSetIterable iter X.env x = pure x := by intro _; rfl) (hs1 : ∀ env x, foldedSetIterable iter1 env x = pure x := by intro _ _; rfl) :
    WS X Z (.Assign [.Name y py] (.ListComp elt [⟨tg, iter, ifs, 0⟩, ⟨tg1, iter1, ifs1, 0⟩] scope pos) spos) (sSet i (tComp2 ti g tt ti1 g1 tt1 te (own.map (·.2)) (own1.map (·.2)))) :=
  (ps_setLc2 (wi1 := LfI X.K Z ti1) (tt := LfT X.K Z tt) (tt1 := LfT X.K Z tt1) (te := Lf X.K Z te) hc hN hy hyl hsw hi ok hv hg ht hi1 hg1 ht1 he hs hs1).weak fun D σ H h => by
  obtain ⟨S, G, DW, sr, t, l⟩ := h
  refine lfComp2 gok gok1 σ H _ (Lf.go sr t fun w G1 v H1 t1 f1 r1 h1 => ?_)
  exact l.nx _ _ _ _ t1 ((sr.next f1 h1).set r1) f1
theorem ws_setC2F {i : Nat} {y : Str} {py spos : Pos} {elt tg iter tg1 iter1 : Expr} {ifs ifs1 : List Expr} {scope : Scope} {own own1 : List (Str × Nat)} {ti ti1 : TIW} {gh gh1 : TG} {g g1 : TGW} {tt tt1 : TWT} {te : TW} (hc : X.calm = true) (hN : X.N.Nodup) (hy : X.N[i]? = some y) (hyl : X.env.scope.names.lookup y = some .local) (hsw : swapsWith (.ListComp elt [⟨tg, iter, ifs, 0⟩, ⟨tg1, iter1, ifs1, 0⟩] scope pos) (some (.Name y py)) spos.line X.env = pure true) (hi : WI X Z tg iter ti) (ok : BlkOk X.N X.env.scope scope own) (hv : ∀ i ∈ own1.map (·.2), i ∈ own.map (·.2))
    (gok : GOk X.K Z gh g (own.map (·.2))) (gok1 : GOk X.K Z gh1 g1 (own1.map (·.2)))
    (hg : ∀ (s : Shared) (H : Hp) (C : Addr) (cl : List (Str × Addr)) (fp : List Addr), PG (X.blk s H scope (compEnvC scope cl C X.env) fp) tg gh) (ht : ∀ (s : Shared) (H : Hp) (C : Addr) (cl : List (Str × Addr)) (fp : List Addr), PTsW (X.blk s H scope (compEnvC scope cl C X.env) fp) Z ifs tt)
    (hi1 : ∀ (s : Shared) (H : Hp) (C : Addr) (cl : List (Str × Addr)) (fp : List Addr), WI (X.blk s H scope (compEnvC scope cl C X.env) fp) Z tg1 iter1 ti1)
    (hg1 : ∀ (s : Shared) (H : Hp) (C : Addr) (cl : List (Str × Addr)) (fp : List Addr), PG (X.blk s H scope (compEnvC scope cl C X.env) fp) tg1 gh1) (ht1 : ∀ (s : Shared) (H : Hp) (C : Addr) (cl : List (Str × Addr)) (fp : List Addr), PTsW (X.blk s H scope (compEnvC scope cl C X.env) fp) Z ifs1 tt1)
    (he : ∀ (s : Shared) (H : Hp) (C : Addr) (cl : List (Str × Addr)) (fp : List Addr), WE (X.blk s H scope (compEnvC scope cl C X.env) fp) Z elt te) (hs : ∀ x, foldedSetIterable iter X.env x = pure x := by intro _; rfl) (hs1 : ∀ env x, foldedSetIterable iter1 env x = pure x := by intro _ _; rfl) :
    WS X Z (.Assign [.Name y py] (.ListComp elt [⟨tg, iter, ifs, 0⟩, ⟨tg1, iter1, ifs1, 0⟩] scope pos) spos) (sSet i (tFz (tComp2 ti g tt ti1 g1 tt1 te (own.map (·.2)) (own1.map (·.2))))) :=
  (ps_lock (ps_setLc2 (wi1 := LfI X.K Z ti1) (tt := LfT X.K Z tt) (tt1 := LfT X.K Z tt1) (te := Lf X.K Z te) hc hN hy hyl hsw hi ok hv hg ht hi1 hg1 ht1 he hs hs1)).weak fun D σ H h => by
  obtain ⟨S, G, DW, sr, t, l⟩ := h
  refine lfComp2 gok gok1 σ H _ (Lf.go sr t fun w G1 v H1 q f1 r1 h1 => ?_)
  exact frz_step (Q := fun v H => D.nx (σ.set i (some v)) H) q r1 h1 fun w' G' H' q' f' r' h' => l.nx _ _ _ _ q' ((sr.next (f1.trans f') h').set r') (f1.trans f')
theorem updG_upd {G : GH} {D : Addr} {a b : GO} : updG (updG G D a) D b = updG G D b := by
  funext x
  by_cases e : x = D
  · subst e; rw [updG_same, updG_same]
  · rw [updG_ne e, updG_ne e, updG_ne e]
theorem updG_self {G : GH} {D : Addr} {a : GO} (h : G D = some a) : updG G D a = G := by
  funext x
  by_cases e : x = D
  · subst e; rw [updG_same, h]
  · rw [updG_ne e]
/-- what two clauses bring, where only the list itself changes -/
theorem compD2_app {Gd : GH → Prop} {g : TGW} {tt : TWT} {ti1 : TIW} {g1 : TGW} {tt1 : TWT} {te : TW} {S0 : WSt} {vs1 : List Nat} {D : Addr} {R : GH → Prop} {G0 : GH} {α : Type} {e : α → W} (f : α → List W) :
    ∀ (xs : List α) (acc : List W), acc.length + (xs.flatMap f).length ≤ sizeLine → (∀ a, Gd (updG G0 D (.lst a))) →
    (∀ x ∈ xs, ∀ (acc : List W) (R' : GH → Prop), acc.length + (f x).length ≤ sizeLine → R' (updG G0 D (.lst (acc ++ f x))) → g (e x) S0 (updG G0 D (.lst acc)) fun S2 G2 => tt S2 G2 fun b G3 =>
      if b = true then ti1 S2 G3 fun items1 Gd1 G4 => compD1 Gd1 g1 tt1 te (wipeW S2 vs1) D R' items1 G4 else R' G3) →
    R (updG G0 D (.lst (acc ++ xs.flatMap f))) → compD2 Gd g tt ti1 g1 tt1 te S0 vs1 D R (xs.map e) (updG G0 D (.lst acc))
  | [], acc, _, hG, _, r => ⟨hG _, by simpa using r⟩
  | x :: xs, acc, hl, hG, st, r => by
    rw [List.flatMap_cons, List.length_append] at hl
    exact ⟨hG _, st x List.mem_cons_self acc _ (by omega) (compD2_app f xs _ (by rw [List.length_append]; omega) hG (fun y hy => st y (List.mem_cons_of_mem _ hy)) (by simpa using r))⟩
end
end WL
set_option Elab.async false
set_option linter.all false
set_option maxRecDepth 100000
set_option maxHeartbeats 4000000
/-! WL, part kf: sorted(..) of tuples of ints. -/
namespace WL
open PySem PySem.Spec PyProof PyProof.Rows L2 PySem.W
def tupKey (b : List Int) : PyData := .tuple (b.map .int)
def byTup (bs : List (List Int)) : List (List Int) := bs.mergeSort (dataLe false tupKey)
theorem byTup_perm (bs : List (List Int)) : (byTup bs).Perm bs := List.mergeSort_perm bs _
section
variable {prog : Program} {w : World} {A : Around} {E : Value → Shared → Prop} {s : Shared}
/-- the firsts of tuples, none of those without items -/
def FstsO (h : Heap) : List Value → List (Option Value) → Prop
  | [], [] => True
  | v :: vs, f :: fs => (∃ a o xs n, v = .ref a ∧ h.get? a = some o ∧ o.cls = .type "tuple" ∧ o.data = .seq xs n ∧ xs[0]? = f) ∧ FstsO h vs fs
  | _, _ => False
theorem fsts_run {M : Model} : ∀ (vs : List Value) (fs : List (Option Value)) {Q : List (Option Value) → Shared → Prop}, FstsO s.heap vs fs → Q fs s → wpAny M A (vs.mapM firstOfTuple') Q E s
  | [], [], _, _, h => by rw [List.mapM_nil]; exact wpAny_pure h
  | [], _ :: _, _, t, _ => t.elim
  | _ :: _, [], _, t, _ => t.elim
  | v :: vs, f :: fs, Q, t, h => by
    obtain ⟨⟨a, o, xs, n, rfl, ho, hc, hd, hf⟩, t⟩ := t
    rw [List.mapM_cons]
    refine wpAny_bind ?_
    rw [kas_first_eq]
    refine wpAny_bind (Looks.here (show Looks M s.heap (typeOf (.ref a)) o.cls from (Looks.ld ho).andThen .now) ?_)
    rw [hc, if_neg (by first | decide | simp)]
    refine wpAny_bind (listItems_at ho hd (wpAny_pure ?_))
    rw [hf]
    exact wpAny_bind (fsts_run vs fs (Q := fun bs s' => wpAny M A (pure (f :: bs)) Q E s') t (wpAny_pure h))
theorem fsts_of {h : Heap} : ∀ {vs : List Value} {ds : List PyData}, EachIs (fun v d => ∃ as, Reads h v d as) vs ds → (∀ d ∈ ds, ∃ xs, d = .tuple xs) → ∃ fs, FstsO h vs fs ∧ ((∃ d ∈ ds, d = .tuple []) → fs.toArray.all (fun x => x.isSome) = false)
  | _, _, .nil, _ => ⟨[], trivial, fun ⟨d, hd, _⟩ => absurd hd (by simp)⟩
  | _, _, .cons (b := d) ⟨as, r⟩ t, ht => by
    obtain ⟨fs, h1, h2⟩ := fsts_of t fun d hd => ht d (List.mem_cons_of_mem _ hd)
    obtain ⟨ys, rfl⟩ := ht d List.mem_cons_self
    cases r with
    | @tuple a o xs n _ _ ho hc hd hr =>
      refine ⟨xs[0]? :: fs, ⟨⟨a, o, xs, n, rfl, ho, hc, hd, rfl⟩, h1⟩, fun ⟨d', hd', e'⟩ => ?_⟩
      simp only [List.all_toArray, List.all_cons] at h2 ⊢
      rcases List.mem_cons.mp hd' with rfl | hd'
      · injection e' with e'
        subst e'
        have e0 : xs.toList = [] := by
          generalize xs.toList = l at hr
          cases hr; rfl
        have : xs[0]? = none := by rw [← Array.getElem?_toList, e0]; rfl
        rw [this]; rfl
      · rw [h2 ⟨d', hd', e'⟩, Bool.and_false]
theorem call_tuple_lt {Q : Value → Shared → Prop} {l b : Addr} {items items2 : Array Value} {e r : Nat → Bool} (hl : s.heap.IsTuple l items) (hb : s.heap.IsTuple b items2)
    (he : ∀ j (h1 : j < items.size) (h2 : j < items2.size), SeqAt.EqAt A.in1 s items[j] items2[j] (e j)) (hr : ∀ j (h1 : j < items.size) (h2 : j < items2.size), e j = false → SeqAt.RcLt A.in1 s items[j] items2[j] (r j))
    (h : Q (.bool (SeqAt.firstLt e r (decide (items.size < items2.size)) (List.range (min items.size items2.size)))) s) : wpAny (model prog w) A (call (.builtin "tuple.__lt__") [.ref l, .ref b]) Q E s := by
  obtain ⟨⟨cls, dd, data, sl⟩, ho, hc, n, hd⟩ := id hl
  obtain ⟨⟨cls2, dd2, data2, sl2⟩, ho2, hc2, n2, hd2⟩ := id hb
  simp only at hc hd hc2 hd2
  subst hc hd hc2 hd2
  exact call_meets F.slot_tuple_lt ⟨_, ho, rfl⟩ F.entry_tuple_lt (F.args_tuple_lt_2 _ _) (SeqAt.tuple_ltAt l b items items2 n n2 dd dd2 sl sl2 e r) ⟨ho, ho2, he, hr, h⟩
theorem oneLt_tups {f : Bool} {xs ys : List PyData} {a b : Value} {as bs : List Addr} {Q : Bool → Shared → Prop} (ra : Reads s.heap a (.tuple xs) as) (rb : Reads s.heap b (.tuple ys) bs) (h : alike (.tuple xs) (.tuple ys) = true)
    (hu : A.units + min (PyData.tuple xs).depth (PyData.tuple ys).depth < cLine) (hq : Q (dataLt (.tuple xs) (.tuple ys)) s) : wpAny (model prog w) A (oneLt' f a b) Q E s := by
  cases f with
  | false => exact oneLt_alike (fun z => absurd z (by decide)) ra rb h (by simp) hu hq
  | true =>
    have hal : alikeAll xs ys = true := by simpa [alike] using h
    cases ra with
    | @tuple l o vs n _ as₁ h1 h2 h3 h4 =>
      cases rb with
      | @tuple l' o' vs' n' _ bs₁ k1 k2 k3 k4 =>
        have n1 : vs.size = xs.length := by simpa using SeqAt.ReadsAll.length _ _ _ h4
        have n2 : vs'.size = ys.length := by simpa using SeqAt.ReadsAll.length _ _ _ k4
        rw [dataLt_tuple, ← firstLt_toks xs ys hal, ← n1, ← n2] at hq
        rw [oneLt'_eq]
        simp only [if_true]
        refine wpAny_bind (wpAny_cRoomFor (SeqAt.room_here hu) ?_)
        refine wpAny_bind (wpAny_callSpecialIfBound?_slot (T := "tuple") ⟨_, h1, h2⟩ F.slot_tuple_lt (call_tuple_lt (e := SeqAt.pairEq xs ys) (r := fun j => dataLt (xs.getD j .none) (ys.getD j .none)) ⟨_, h1, h2, _, h3⟩ ⟨_, k1, k2, _, k3⟩ (fun j j1 j2 => ?_) (fun j j1 j2 hj => ?_) ?_))
        · have := eqAt_alikeAll xs ys A.in1 s vs.toList vs'.toList _ _ h4 k4 hal (SeqAt.room_in hu) j (by simpa using j1) (by simpa using j2)
          simpa using this
        · have := rcLt_alikeAll xs ys A.in1 s vs.toList vs'.toList _ _ h4 k4 hal (SeqAt.room_in hu) j (by simpa using j1) (by simpa using j2) hj
          simpa using this
        · exact wpAny_truthy_bool hq
/-- tuples, some of them without items, can be sorted, too -/
theorem sorts_tups {vs : List Value} {ds : List PyData} (e : EachIs (fun v d => ∃ as, Reads s.heap v d as) vs ds) (hal : AllAlike ds) (ht : ∀ d ∈ ds, ∃ xs, d = .tuple xs) (hu : ∀ d, d ∈ ds → A.units + d.depth < cLine) : SortsAt prog w A s (dataKind s.heap ds) vs := by
  by_cases hn : ∃ d ∈ ds, d = .tuple []
  · have room : ∀ {d d' : PyData}, d ∈ ds → A.units + min d.depth d'.depth < cLine := fun {d d'} hd => Nat.lt_of_le_of_lt (Nat.add_le_add_left (Nat.min_le_left _ _) _) (hu d hd)
    refine ⟨fun v hv => ?_, ?_⟩
    · obtain ⟨d, hd, as, r⟩ := e.left v hv
      exact ⟨_, dataKind_some hal hd r⟩
    obtain ⟨fs, t1, t2⟩ := fsts_of e ht
    have lt : ∀ f : Bool, ∀ (E : Value → Shared → Prop) (x y : Value) (a b : _) (Q : Bool → Shared → Prop), (dataKind s.heap ds).keyOf x = some a → (dataKind s.heap ds).keyOf y = some b → Q ((dataKind s.heap ds).blt a b) s → wpAny (model prog w) A (oneLt' f x y) Q E s := by
      intro f E x y a b Q ha hb hq
      obtain ⟨d, as, hd, ra, rfl⟩ := dataKind_inv ha
      obtain ⟨d', as', hd', rb, rfl⟩ := dataKind_inv hb
      obtain ⟨x1, rfl⟩ := ht d hd
      obtain ⟨x2, rfl⟩ := ht d' hd'
      exact oneLt_tups ra rb (hal _ hd _ hd') (room hd) hq
    by_cases hf : ((fs.toArray[0]?).bind id).isSome = true
    · refine ⟨general', fun E x y a b Q ha hb hq => lt false E x y a b Q ha hb hq, fun h2 E Q hq => ?_⟩
      rw [kat_kind_eq, List.mapM_toArray, map_eq_pure_bind]
      refine wpAny_bind (wpAny_bind (fsts_run vs _ t1 (wpAny_pure ?_)))
      rw [if_neg (by rw [t2 hn]; simp), if_pos hf]
      exact wpAny_pure hq
    · refine ⟨oneType', fun E x y a b Q ha hb hq => lt true E x y a b Q ha hb hq, fun h2 E Q hq => ?_⟩
      rw [kat_kind_eq, List.mapM_toArray, map_eq_pure_bind]
      refine wpAny_bind (wpAny_bind (fsts_run vs _ t1 (wpAny_pure ?_)))
      rw [if_neg (by rw [t2 hn]; simp), if_neg hf]
      rw [oneTypeOnly'_eq, List.mapM_toArray, map_eq_pure_bind]
      refine wpAny_bind (wpAny_bind (wpAny_bind (kas_mapM (r := Value.type "tuple") _ (fun v hv Q' hq => (?_ : wpAny _ _ _ _ _ _)) (wpAny_pure ?_))))
      · obtain ⟨d, hd, as, r⟩ := e.left v hv
        obtain ⟨ys, rfl⟩ := ht d hd
        exact (looks_reads r).here hq
      · have hall : ((List.map (fun _ => Value.type "tuple") vs).toArray.all fun x => x == Value.type "tuple") = true := by
          simp only [List.all_toArray, List.all_map, List.all_eq_true]
          intro _ _; rfl
        have h0 : (List.map (fun _ => Value.type "tuple") vs).toArray[0]? = some (Value.type "tuple") := by
          cases vs with
          | nil => simp at h2
          | cons v vs => simp
        rw [h0]
        simp only [hall, if_true]
        exact wpAny_pure (wpAny_pure hq)
  · refine SortsAt.data e hal (.inl fun d hd => ?_) hu
    obtain ⟨xs, rfl⟩ := ht d hd
    cases xs with
    | nil => exact absurd ⟨_, hd, rfl⟩ hn
    | cons x r => exact ⟨x, r, rfl⟩
theorem list_sort_tupsD {β : Type} {R : Value → β → Prop} {enc : β → PyData} {bs : List β} {a : Addr} {vs : List Value} {n : Nat} {Q : Value → Shared → Prop} (ho : s.heap.get? a = some (seqObj "list" vs.toArray n)) (e : EachIs R vs bs) (er : EachIs (fun v b => ∃ as, Reads s.heap v (enc b) as ∧ a ∉ as) vs bs) (hal : AllAlike (bs.map enc)) (ht : ∀ b, ∃ xs, enc b = .tuple xs) (hL : bs.length ≤ sizeLine)
    (hu : ∀ b, b ∈ bs → A.units + 1 + (enc b).depth < cLine) (h : ∀ out, out.length = bs.length → EachIs R out (bs.mergeSort (dataLe false enc)) → Q .none { s with heap := sortedHeap s.heap a vs (List.toArray out) }) :
    wpAny (model prog w) A (call (.builtin "list.sort") [.ref a]) Q E s := by
  have er' : EachIs (fun v b => ∃ as, Reads (sortingHeap s.heap a vs) v (enc b) as) vs bs := each_keepBut (h' := sortingHeap s.heap a vs) (fun _ _ hb q => sortingHeap_old hb q) (fun o q => by rw [ho] at q; rw [← Option.some.inj q]) hal er
  refine wpAny_call_entry slot_list_sort ⟨_, ho, rfl⟩ entry_list_sort (list_sort_vals (κ := dataKind (sortingHeap s.heap a vs) (bs.map enc)) ho (sorts_tups (s := { s with heap := sortingHeap s.heap a vs }) (each_map (R := fun v d => ∃ as, Reads (sortingHeap s.heap a vs) v d as) enc er') hal (fun d hd => by obtain ⟨b, _, rfl⟩ := List.mem_map.mp hd; exact ht b) (bound_map hu)) (by rw [e.length]; exact hL) ⟨.none, rfl, ?_⟩) (args_list_sort _)
  exact h _ (by rw [sortVals_length false rfl]; exact e.length) (sortVals_data false e er' hal)
end
section
variable {X : Cx}
def rSortT (K : PySem.W.Frag) : List V → Hp → VK → Prop := fun vs H Q => ∃ a bs, vs = [.ref a] ∧ TupsAt K H a bs ∧ (∀ b ∈ bs, b.length ≤ sizeLine) ∧
  ∀ q ps, H q = none → Paired (TupAt H) ps (byTup bs) → Q (.ref q) (upd H q (.lst (ps.map V.ref)))
theorem tup_reads {P : Program} {w : World} {H : Hp} {h : Heap} {p : Addr} {b : List Int} (hok : HOk P w H h) (hp : TupAt H p b) : Reads h (.ref p) (tupKey b) [] := by
  obtain ⟨zb, its, rv, ist⟩ := hok p _ hp
  obtain ⟨o4, g4, c4, n4, d4⟩ := ist
  refine .tuple g4 c4 d4 ?_
  have : ∀ {vs : List Int} {us : List Value}, Vals (vs.map V.int) us → ReadsAll h us (vs.map .int) [] := by
    intro vs
    induction vs with
    | nil => intro us r; cases r; exact .nil
    | cons x vs ih =>
      intro us r
      cases r with
      | cons r rs =>
        obtain ⟨t, rfl⟩ := r
        exact .cons (as := []) (.int x t) (ih rs)
  simpa using this rv
theorem cr_sortedT (hc : X.calm = true) (hu : X.A.units + 20 < cLine) : CallR X (.builtin "sorted") (rSortT X.K) := by
  intro pins s σ H xs us Q I r h
  obtain ⟨a, bs, rfl, hi, hbl, q⟩ := h
  obtain rfl := Vals.ref1 r
  obtain ⟨hz, coll⟩ := tups_collect I (I.ok.hd hc) hi
  refine Calls.call_function_entry kind_sorted plain_sorted entry_sorted (args_sorted1 _) ?_
  unfold Builtin.«sorted»
  refine wpAny_bind (m := checkCount "sorted" 1 1 _) (wpAny_pure ?_)
  refine wpAny_bind (coll _ fun us g1 tk kp hei => ?_)
  have hul : us.length ≤ sizeLine := by rw [hei.length]; exact hz
  have J1 : Inv X pins σ H { s with heap := g1, toks := tk } := I.kept kp
  refine wpAny_bind (wpAny_newList ?_ hul)
  refine wpAny_bind (wpAny_holding ?_)
  have hok2 : HOk X.prog X.w H (g1.push { cls := .type "list", data := .seq us.toArray }) := J1.hok.kept fun b o e => Heap.get?_push_of_some _ e
  refine list_sort_tupsD (β := List Int) (enc := tupKey) (Heap.get?_push_size _ rfl) hei (hei.mono fun v b ⟨p, ev, hp⟩ => ⟨[], by subst ev; exact tup_reads hok2 hp, by simp⟩) (AllAlike.of fun a b => by unfold tupKey; simp only [alike, alike_ints]) (fun b => ⟨_, rfl⟩) hz (fun b hb => ?_) fun out len each => ?_
  · have : (tupKey b).depth ≤ 1 := by
      unfold tupKey
      rw [PyData.depth]
      simp only [WL.depthAll_ints]
      omega
    show X.A.units + 1 + 1 + _ < cLine
    omega
  · obtain ⟨ps, hv, hp⟩ := refs_each each
    refine wpAny_pure ?_
    obtain ⟨c, hat⟩ := sortedHeap_at (h := g1.push { cls := .type "list", data := .seq us.toArray }) (a := g1.objs.size) (vs := us) (n := 0) (out := out.toArray) (Heap.get?_push_size _ rfl)
    have k2 : ∀ b o, g1.get? b = some o → (sortedHeap (g1.push { cls := .type "list", data := .seq us.toArray }) g1.objs.size us out.toArray).get? b = some o := fun b o e => by
      rw [sortedHeap_old (Nat.ne_of_lt (Heap.lt_size e)) (Heap.lt_size (Heap.get?_push_of_some _ e))]
      exact Heap.get?_push_of_some _ e
    have hl : (ps.map V.ref).length ≤ sizeLine := by
      rw [List.length_map, Paired.length hp]
      show (byTup bs).length ≤ sizeLine
      rw [(byTup_perm bs).length_eq]; exact hz
    exact ⟨_, rfl, .ref g1.objs.size, upd H g1.objs.size (.lst (ps.map V.ref)), J1.laid (t' := tk) k2 (Nat.le_refl _) ⟨hl, out, c, hv, hat⟩, rfl, q _ ps (J1.hok.fresh (Nat.le_refl _)) hp⟩
/-! ### as readings -/
def sortedT : CW := fun ws G R => match ws with
  | [w] => match tupsIn w G with
    | some bs => (∀ b ∈ bs, b.length ≤ sizeLine) ∧ ∀ p, G p = none → R (.ref p) (updG G p (.lst ((byTup bs).map fun b => .tup (b.map W.int))))
    | none => False
  | _ => False
def fSortedT : CF := fun ws G R => match tupsOf ws with
  | some bs => (∀ b ∈ bs, b.length ≤ sizeLine) ∧ ∀ p, G p = none → R (.ref p) (updG G p (.lst ((byTup bs).map fun b => .tup (b.map W.int))))
  | none => False
theorem call_sortedT (hc : X.calm = true) (hu : X.A.units + 20 < cLine) : CallW X (.builtin "sorted") sortedT := by
  intro pins s σ H xs us Q I r h
  obtain ⟨ws, G, R, rs, rh, t, k⟩ := h
  unfold sortedT at t
  split at t
  · split at t
    · rename_i w bs e
      obtain ⟨v, rfl, rv⟩ := rs.one
      obtain ⟨a, rfl, hi⟩ := tups_at e rv rh
      exact cr_sortedT hc hu pins s σ H _ us Q I r ⟨a, bs, rfl, hi, t.1, fun q ps hq hp => k _ _ _ _ (t.2 q (rh.free hq)) (.newG hq) (.ref _) (rh.newG hq ⟨_, upd_same, (tups_rvs hp).mono (.new hq) rh⟩)⟩
    · exact t.elim
  · exact t.elim
theorem tmp_sortedT (hc : X.calm = true) (hu : X.A.units + 20 < cLine) : CallR X (.builtin "sorted") (tmpR X.K fSortedT) := by
  intro pins s σ H xs us Q I r h
  obtain ⟨D, vs, ws, G, R, rfl, hd, rs, rh, gd, t, k⟩ := h
  unfold fSortedT at t
  split at t
  · rename_i bs e
    have e := tups_of e; subst e
    obtain ⟨as, rfl, p⟩ := rvs_tups rs
    exact cr_sortedT hc hu pins s σ H _ us Q I r ⟨D, bs, rfl, .inl ⟨as, .inl (SqL.of hd), p⟩, t.1, fun q ps hq hp => k _ _ _ _ (t.2 q (rh.free hq)) (.newG hq) (.ref _) (rh.newG hq ⟨_, upd_same, (tups_rvs hp).mono (.new hq) rh⟩)⟩
  · exact t.elim
end
end WL
set_option Elab.async false
set_option linter.all false
set_option maxRecDepth 100000
set_option maxHeartbeats 4000000
/-! WL, part kg: dict(..) of pairs, list(..) of dicts, where the keys are tuples. -/
namespace WL
open PySem PySem.Spec PyProof PyProof.Rows L2 PySem.W
def mergeT (acc : List (List Key × W)) : List (List Key × W) → List (List Key × W)
  | [] => acc
  | kv :: r => mergeT (putW acc kv.1 kv.2) r
def mergeKT (acc : List (List Key × V)) : List (List Key × V) → List (List Key × V)
  | [] => acc
  | kv :: r => mergeKT (putK acc kv.1 kv.2) r
theorem mergeKT_rkv {K : PySem.W.Frag} {H : Hp} : ∀ {kvs : List (List Key × V)} {kws : List (List Key × W)} {av : List (List Key × V)} {aw : List (List Key × W)}, RKV K H kvs kws → RKV K H av aw → RKV K H (mergeKT av kvs) (mergeT aw kws)
  | _, _, _, _, .nil, r => r
  | (c, v) :: kvs, (c', w) :: kws, av, aw, .cons ⟨e, q⟩ t, r => by
    have e' : c = c' := e
    subst e'
    show RKV K H (mergeKT (putK av c v) kvs) (mergeT (putW aw c w) kws)
    exact mergeKT_rkv t (RKV.put r q)
theorem KT_all {H : Hp} : ∀ {kvs : List (List Key × V)} {xs : List (List Key × Addr × Value)} {av : List (List Key × V)} {ax : List (List Key × Addr × Value)}, KT H kvs xs → KT H av ax → KT H (mergeKT av kvs) (storedAllH ax xs)
  | _, _, _, _, .nil, r => r
  | (c, v) :: kvs, (c', b, u) :: xs, av, ax, .cons ⟨e1, e2, e3⟩ t, r => by
    have e' : c = c' := e1
    subst e'
    show KT H (mergeKT (putK av c v) kvs) (storedAllH (storedH ax c b u) xs)
    exact KT_all t (KT.put r c e2 e3)
theorem mergeKT_len : ∀ (kvs av : List (List Key × V)), (mergeKT av kvs).length ≤ av.length + kvs.length
  | [], av => by simp [mergeKT]
  | kv :: kvs, av => by
    have := mergeKT_len kvs (putK av kv.1 kv.2)
    have := length_putK av kv.1 kv.2
    unfold mergeKT
    rw [List.length_cons]; omega
/-- a pair (a tuple, a value) -/
def PairT (H : Hp) (p : Addr) (kv : List Key × V) : Prop := ∃ b, H p = some (.tup [.ref b, kv.2]) ∧ H b = some (.tup (kv.1.map kV))
section
variable {X : Cx}
theorem pairsT_of {pins : List (Addr × Obj)} {σ : L2.St} {H : Hp} {s : Shared} (I : Inv X pins σ H s) : ∀ {ps : List Addr} {kvs : List (List Key × V)}, Paired (PairT H) ps kvs →
    ∃ xs : List (List Key × Addr × Value), KT H kvs xs ∧ xs.length = ps.length ∧ ∀ (j : Nat) (x : List Key × Addr × Value), xs[j]? = some x → ∃ b : Addr, ps[j]? = some b ∧ PairAt s.heap b (.ref x.2.1) x.2.2 ∧ ∀ h', (∀ a o, s.heap.get? a = some o → h'.get? a = some o) → (tupleKind (mixKind X.prog X.w)).is h' x.1 x.2.1
  | _, _, .nil => ⟨[], .nil, rfl, fun j x e => by simp at e⟩
  | _, _, .cons (a := p) (b := kv) ⟨b, h1, h2⟩ t => by
    obtain ⟨xs, r, hl, hp⟩ := pairsT_of I t
    obtain ⟨zb, its, rv, ist⟩ := I.hok p _ h1
    obtain ⟨u, y, rfl, ru, ry⟩ := vals2 rv
    cases (show u = Value.ref b from ru)
    refine ⟨(kv.1, b, y) :: xs, .cons ⟨rfl, h2, ry⟩ r, by rw [List.length_cons, List.length_cons, hl], fun j x e => ?_⟩
    cases j with
    | zero =>
      have e' : (kv.1, b, y) = x := Option.some.inj e
      subst e'
      obtain ⟨o, ho, hc, hn, hd⟩ := ist
      exact ⟨p, rfl, .inl ⟨o, ho, hc, _, hd⟩, fun h' k => key_of (I.hok.kept k) h2⟩
    | succ j =>
      obtain ⟨b', e1, e2⟩ := hp j x (by simpa using e)
      exact ⟨b', by simpa using e1, e2⟩
theorem call_dictPT (hcalm : X.calm = true) (hu : X.A.units + 4 < cLine) : CallR X (.type "dict") (fun xs H Q => ∃ (a : Addr) (ps : List Addr) (kvs : List (List Key × V)), xs = [.ref a] ∧ SqL X.K H a (ps.map V.ref) ∧ Paired (PairT H) ps kvs ∧
    ∀ p, H p = none → Q (.ref p) (upd H p (.dT (mergeKT [] kvs)))) := by
  intro pins s σ H xs us Q I r q
  obtain ⟨a, ps, kvs, rfl, hq, hp, q⟩ := q
  obtain rfl := Vals.ref1 r
  obtain ⟨its, rv, pl, hz⟩ := I.list hq
  have ei := refs_at rv
  subst ei
  rw [List.length_map] at hz
  obtain ⟨xs, rel, hl, hpr⟩ := pairsT_of I hp
  obtain ⟨o, n, ho, hc, hd, hdat⟩ := pl
  have len : ∀ j (x : List Key × Addr × Value), xs[j]? = some x → j < ps.length := fun j x e => by rw [← hl]; exact (List.getElem?_eq_some_iff.mp e).1
  have it : PairItems s.heap (ps.map Value.ref).toArray (fun j => ps.getD j 0) (xs.map fun x => (Value.ref x.2.1, x.2.2)) := by
    refine ⟨by simp [hl], fun j k v e => ?_⟩
    rw [List.getElem?_map] at e
    cases ex : xs[j]? with
    | none => rw [ex] at e; cases e
    | some x =>
      rw [ex] at e
      cases e
      obtain ⟨b, e1, e2, _⟩ := hpr j x ex
      have eb : ps.getD j 0 = b := by rw [List.getD_eq_getElem?_getD, e1]; rfl
      refine ⟨by show _ = some (Value.ref (ps.getD j 0)); rw [eb]; simp [e1], by show PairAt s.heap (ps.getD j 0) _ _; rw [eb]; exact e2⟩
  refine call_dict_pairsH (knd := tupleKind (mixKind X.prog X.w)) (ps := xs) (PairArg.list a (ps.map Value.ref).toArray (fun j => ps.getD j 0) (xs.map fun x => (Value.ref x.2.1, x.2.2))) (I.ok.hd hcalm) (show X.A.units + 1 + 1 < cLine by omega) ⟨⟨o, n, ho, hc, hd, hdat⟩, it⟩
    ⟨by simp, fun i key v e => ?_⟩ (fun h' k x hx => ?_) (by rw [List.length_map, hl]; exact hz) fun h' tk hd' k => ?_
  · have e : (xs.map fun x => (Value.ref x.2.1, x.2.2))[i]? = some (key, v) := e
    rw [List.getElem?_map] at e
    cases ex : xs[i]? with
    | none => rw [ex] at e; cases e
    | some x =>
      rw [ex] at e
      cases e
      exact ⟨x.1, x.2.1, rfl, rfl⟩
  · obtain ⟨j, hj, e⟩ := List.getElem_of_mem hx
    obtain ⟨b, _, _, e3⟩ := hpr j x (by rw [List.getElem?_eq_getElem hj, e])
    exact e3 h' fun a o e => k a o (Nat.ne_of_lt (Heap.lt_size e)) (by simp) e
  · have k' : ∀ b o, s.heap.get? b = some o → h'.get? b = some o := fun b o e => k b o (by simp) e
    have hm : (s.heap.objs.size == sysModules) = false := beq_eq_false_iff_ne.mpr (Nat.ne_of_gt I.big)
    have hlen : (mergeKT [] kvs).length ≤ sizeLine := by
      have := mergeKT_len kvs []
      have l1 : kvs.length = xs.length := Paired.length rel
      rw [List.length_nil, Nat.zero_add] at this
      omega
    have hn : H s.heap.objs.size = none := I.hok.fresh (Nat.le_refl _)
    obtain ⟨o2, es, ep, g1, g2, g3, g4, g5, g6⟩ := hd'
    refine ⟨.ref s.heap.objs.size, upd H s.heap.objs.size (.dT (mergeKT [] kvs)), I.laid (t' := tk) k' (Nat.le_refl _) ⟨hlen, hm, storedAllH [] xs, (KT_all rel .nil).keeps fun b ys e => ?_, o2, es, ep, g1, g2, g3, g4, g6⟩, rfl, q _ hn⟩
    rw [upd_ne (ne_of_none e hn)]
    exact e
/-! ### as readings -/
def pairsT : List W → Option (List (List Key × W))
  | [] => some []
  | .tup [k, v] :: r => match tkey k, pairsT r with
    | some c, some m => some ((c, v) :: m)
    | _, _ => none
  | _ :: _ => none
theorem pairsT_read {K : PySem.W.Frag} {H : Hp} : ∀ {ws : List W} {vs : List V} {kws : List (List Key × W)}, RVs K H vs ws → pairsT ws = some kws → ∃ (ps : List Addr) (kvs : List (List Key × V)), vs = ps.map V.ref ∧ Paired (PairT H) ps kvs ∧ RKV K H kvs kws
  | [], _, kws, .nil, h => by cases h; exact ⟨[], [], rfl, .nil, .nil⟩
  | w :: ws, _, kws, .cons r rs, h => by
    unfold pairsT at h
    split at h
    · rename_i e; cases e
    · rename_i k v rest e
      cases e
      split at h
      · rename_i c m e1 e2
        cases h
        obtain ⟨ps, kvs, e3, q, r2⟩ := pairsT_read rs e2
        cases r with
        | tup hq rr =>
          obtain ⟨kv, vv, rfl, rk, rv⟩ := rr.two
          obtain ⟨b, rfl, hb⟩ := tkey_val rk e1
          exact ⟨_ :: ps, (c, vv) :: kvs, by rw [e3]; rfl, .cons ⟨b, hq, hb⟩ q, .cons ⟨rfl, rv⟩ r2⟩
      · cases h
    · cases h
def fDictT : CF := fun ws G R => match pairsT ws with
  | some kws => ∀ p, G p = none → R (.ref p) (updG G p (.dT (mergeT [] kws)))
  | none => False
theorem tmp_dictT (hc : X.calm = true) (hu : X.A.units + 20 < cLine) : CallR X (.type "dict") (tmpR X.K fDictT) := by
  intro pins s σ H xs us Q I r h
  obtain ⟨D, vs, ws, G, R, rfl, hd, rs, rh, gd, t, k⟩ := h
  unfold fDictT at t
  split at t
  · rename_i kws e
    obtain ⟨ps, kvs, rfl, q, rr⟩ := pairsT_read rs e
    exact call_dictPT hc (by omega) pins s σ H _ us Q I r ⟨D, ps, kvs, rfl, SqL.of hd, q, fun p hp => k _ _ _ _ (t p (rh.free hp)) (.newG hp) (.ref _) (rh.newG hp ⟨_, upd_same, (mergeKT_rkv rr .nil).mono (.newG (G := G) (o := .lst []) hp) rh⟩)⟩
  · exact t.elim
/-- list(d), d's keys tuples -/
theorem call_listDT (hcalm : X.calm = true) : CallR X (.type "list") (fun xs H Q => ∃ (a : Addr) (kvs : List (List Key × V)), xs = [.ref a] ∧ Rd H a (.dT kvs) ∧ ∀ p ps, H p = none → Paired (fun q kv => H q = some (.tup (kv.1.map kV))) ps kvs → Q (.ref p) (upd H p (.lst (ps.map V.ref)))) := by
  intro pins s σ H xs us Q I r q
  obtain ⟨a, kvs, rfl, hd, q⟩ := q
  obtain rfl := Vals.ref1 r
  obtain ⟨z, hs, o, es, ep, ho, hx, hdt, hsz, ent⟩ := dt_rd I.hok hd
  refine PySem.W.kdl_call (kdl_raw hs hx hdt) (I.ok.hd hcalm) ho (by omega) fun h' tk acc c' hk hD hacc => ?_
  have e1 : acc.toList.length = kvs.length := by rw [Array.length_toList, hacc.1, hsz]
  have each : ∃ ps : List Addr, Vals (ps.map V.ref) acc.toList ∧ Paired (fun q kv => H q = some (.tup (kv.1.map kV))) ps kvs := by
    have go : ∀ {us : List Value} {ks : List (List Key × V)}, us.length = ks.length → (∀ (j : Nat) (v : Value), us[j]? = some v → ∃ kv q, ks[j]? = some kv ∧ v = .ref q ∧ H q = some (.tup (kv.1.map kV))) → ∃ ps : List Addr, Vals (ps.map V.ref) us ∧ Paired (fun q kv => H q = some (.tup (kv.1.map kV))) ps ks := by
      intro us
      induction us with
      | nil =>
        intro ks hl h
        cases ks with
        | nil => exact ⟨[], .nil, .nil⟩
        | cons k ks => cases hl
      | cons u us ih =>
        intro ks hl h
        cases ks with
        | nil => cases hl
        | cons k ks =>
          obtain ⟨kv, qq, e2, e3, e4⟩ := h 0 u rfl
          cases e2
          obtain ⟨ps, h1, h2⟩ := ih (by simpa using hl) fun j v e => h (j + 1) v e
          exact ⟨qq :: ps, .cons e3 h1, .cons e4 h2⟩
    refine go e1 fun j v e => ?_
    obtain ⟨en, h1, rfl⟩ := hacc.2 j v (by rw [← Array.getElem?_toList]; exact e)
    have hj : j < kvs.length := by rw [← hsz]; exact (Array.getElem?_eq_some_iff.mp h1).1
    obtain ⟨en', qq, h2, h3, h4⟩ := ent j (kvs[j]).1 (kvs[j]).2 (List.getElem?_eq_getElem hj)
    rw [h1] at h2
    cases h2
    exact ⟨kvs[j], qq, List.getElem?_eq_getElem hj, h3, h4⟩
  obtain ⟨ps, hv, hp⟩ := each
  have lp : ps.length = kvs.length := Paired.length hp
  refine ⟨.ref s.heap.objs.size, upd H s.heap.objs.size (.lst (ps.map V.ref)), I.laid (t' := tk) hk (Nat.le_refl _)
    (show ObjOk X.prog X.w _ _ _ (.lst (ps.map V.ref)) from ⟨by rw [List.length_map, lp]; exact z, acc.toList, c', hv, by rw [Array.toArray_toList]; exact hD⟩), rfl, q _ ps (I.hok.fresh (Nat.le_refl _)) hp⟩
def keysTIn (w : W) (G : GH) : Option (List W) := match w with
  | .ref p => match G p with
    | some (.dT kws) => some (kws.map fun kw => ktup kw.1)
    | _ => none
  | .fdT kws => some (kws.map fun kw => ktup kw.1)
  | _ => none
def toListTW : CW := fun ws G R => match ws with
  | [w] => match keysTIn w G with
    | some xs => ∀ p, G p = none → R (.ref p) (updG G p (.lst xs))
    | none => toListDW [w] G R
  | _ => False
theorem rvs_keyst {K : PySem.W.Frag} {H : Hp} : ∀ {ks : List (List Key)} {kvs : List (List Key × V)} {ps : List Addr}, kvs.map (·.1) = ks → Paired (fun q kv => H q = some (.tup (kv.1.map kV))) ps kvs → RVs K H (ps.map V.ref) (ks.map ktup)
  | _, [], _, e, .nil => by subst e; exact .nil
  | _, kv :: kvs, q :: ps, e, .cons h t => by
    subst e
    rw [List.map_cons, List.map_cons, List.map_cons]
    exact .cons (.tup h (rvs_keys _)) (rvs_keyst rfl t)
theorem call_listTW (hc : X.calm = true) : CallW X (.type "list") toListTW := by
  intro pins s σ H xs us Q I r h
  obtain ⟨ws, G, R, rs, rh, t, k⟩ := h
  match ws, t, rs with
  | [w], t, rs =>
    unfold toListTW at t
    dsimp only at t
    split at t
    · rename_i ys e
      obtain ⟨v, rfl, rv⟩ := rs.one
      unfold keysTIn at e
      cases w with
      | ref p =>
        cases rv
        dsimp only at e
        split at e
        · rename_i kws eg
          cases e
          obtain ⟨kvs, hv, rr⟩ := rh _ _ eg
          refine call_listDT hc pins s σ H _ us Q I r ⟨_, kvs, rfl, .inl hv, fun l ps hl hp => k _ _ _ _ (t l (rh.free hl)) (.newG hl) (.ref l) (rh.newG hl ⟨_, upd_same, ?_⟩)⟩
          have e2 : (kws.map fun kw => ktup kw.1) = (kws.map (·.1)).map ktup := by rw [List.map_map]; rfl
          rw [e2, ← RKV.keys rr]
          exact (rvs_keyst rfl hp).mono (.newG (G := G) (o := .lst []) hl) rh
        · cases e
      | fdT kws =>
        cases e
        cases rv with
        | @fdT a ob kvs _ hv ek rr =>
          refine call_listDT hc pins s σ H _ us Q I r ⟨_, kvs, rfl, .inr ⟨ob, hv⟩, fun l ps hl hp => k _ _ _ _ (t l (rh.free hl)) (.newG hl) (.ref l) (rh.newG hl ⟨_, upd_same, ?_⟩)⟩
          have e2 : (kws.map fun kw => ktup kw.1) = (kws.map (·.1)).map ktup := by rw [List.map_map]; rfl
          rw [e2, ← ek]
          exact (rvs_keyst rfl hp).mono (.newG (G := G) (o := .lst []) hl) rh
      | _ => cases e
    · exact call_listDW hc pins s σ H xs us Q I r ⟨[w], G, R, rs, rh, t, k⟩
end
end WL
set_option Elab.async false
set_option linter.all false
set_option maxRecDepth 100000
set_option maxHeartbeats 4000000
namespace WS
open PySem PySem.Spec PyProof.Rows L2 WL
def addX {α : Type} [DecidableEq α] (acc : List α) (n : α) : List α := if n ∈ acc then acc else acc ++ [n]
def dedX {α : Type} [DecidableEq α] : List α → List α → List α
  | acc, [] => acc
  | acc, n :: ns => dedX (addX acc n) ns
theorem dedX_mem {α : Type} [DecidableEq α] : ∀ (ns acc : List α) (x : α), x ∈ dedX acc ns ↔ x ∈ acc ∨ x ∈ ns
  | [], acc, x => by simp [dedX]
  | n :: ns, acc, x => by
    unfold dedX addX
    rw [dedX_mem]
    by_cases h : n ∈ acc
    · rw [if_pos h]
      constructor
      · rintro (h | h)
        · exact .inl h
        · exact .inr (List.mem_cons_of_mem _ h)
      · rintro (h2 | h2)
        · exact .inl h2
        · rcases List.mem_cons.mp h2 with rfl | h2
          · exact .inl h
          · exact .inr h2
    · rw [if_neg h]
      simp only [List.mem_append, List.mem_singleton, List.mem_cons, List.not_mem_nil, or_false, or_assoc]
theorem dedX_nodup {α : Type} [DecidableEq α] : ∀ (ns acc : List α), acc.Nodup → (dedX acc ns).Nodup
  | [], acc, h => h
  | n :: ns, acc, h => by
    unfold dedX addX
    refine dedX_nodup ns _ ?_
    by_cases e : n ∈ acc
    · rw [if_pos e]; exact h
    · rw [if_neg e, List.nodup_append]
      exact ⟨h, by simp, fun a ha b hb => by rw [List.mem_singleton.mp hb]; rintro rfl; exact e ha⟩
theorem dedX_self {α : Type} [DecidableEq α] : ∀ (ns acc : List α), (acc ++ ns).Nodup → dedX acc ns = acc ++ ns
  | [], acc, _ => by simp [dedX]
  | n :: ns, acc, h => by
    unfold dedX addX
    rw [if_neg (fun e => (List.nodup_append.mp h).2.2 n e n List.mem_cons_self rfl), dedX_self ns _ (by simpa using h)]
    simp
theorem dedX_len {α : Type} [DecidableEq α] : ∀ (ns acc : List α), (dedX acc ns).length ≤ acc.length + ns.length
  | [], acc => by simp [dedX]
  | n :: ns, acc => by
    unfold dedX addX
    have := dedX_len ns (if n ∈ acc then acc else acc ++ [n])
    have : (if n ∈ acc then acc else acc ++ [n]).length ≤ acc.length + 1 := by split <;> simp
    rw [List.length_cons]; omega
theorem put_ded {α κ : Type} [DecidableEq α] [DecidableEq κ] {k : α → κ} (inj : ∀ a b, k a = k b → a = b) {c : W} (acc : List α) (n : α) : putW (acc.map fun n => (k n, c)) (k n) c = (addX acc n).map fun n => (k n, c) := by
  unfold putW addX
  have ea : ((acc.map fun n => (k n, c)).any fun kv => decide (kv.1 = k n)) = decide (n ∈ acc) := by
    rw [Bool.eq_iff_iff, List.any_eq_true, decide_eq_true_iff]
    constructor
    · rintro ⟨x, hx, e⟩
      obtain ⟨m, hm, rfl⟩ := List.mem_map.mp hx
      have := inj _ _ (of_decide_eq_true e)
      exact this ▸ hm
    · intro h
      exact ⟨_, List.mem_map_of_mem h, decide_eq_true rfl⟩
  rw [ea]
  by_cases h : n ∈ acc
  · rw [decide_eq_true h, if_pos rfl, if_pos h]
    conv => rhs; rw [← List.map_id (List.map _ acc)]
    refine List.map_congr_left fun x hx => ?_
    obtain ⟨m, hm, rfl⟩ := List.mem_map.mp hx
    split
    · rename_i q; rw [inj _ _ q]; rfl
    · rfl
  · rw [decide_eq_false h, if_neg (by decide), if_neg h, List.map_append]; rfl
theorem ki_inj : ∀ (a b : List Int), (a.map Sum.inl : List Key) = b.map Sum.inl → a = b
  | [], [], _ => rfl
  | [], _ :: _, h => by cases h
  | _ :: _, [], h => by cases h
  | x :: a, y :: b, h => by
    rw [List.map_cons, List.map_cons] at h
    injection h with h1 h2
    rw [Sum.inl.inj h1, ki_inj a b h2]
/-- a clause, as a tuple -/
abbrev cTup (c : List Int) : W := .tup (c.map W.int)
abbrev kI (c : List Int) : List Key := c.map Sum.inl
/-- a dict of clauses -/
abbrev cDict (cs : List (List Int)) : List (List Key × W) := cs.map fun c => (kI c, W.bl true)
theorem ktup_kI (c : List Int) : ktup (kI c) = cTup c := by
  show W.tup ((c.map Sum.inl).map kW) = _
  rw [List.map_map]; rfl
theorem tups_dict (cs : List (List Int)) : tupsOf ((cDict cs).map fun k => ktup k.1) = some cs := by
  rw [List.map_map, show ((fun k : List Key × W => ktup k.1) ∘ fun c => (kI c, W.bl true)) = fun c => cTup c from funext fun c => ktup_kI c]
  exact tupsOf_map cs
structure TellOf (many : Int) (c : List Int) : Prop where
  mem : ∀ l ∈ c, LetOf many l
  one : ∀ l ∈ c, -l ∉ c
  len : c.length ≤ 2000
def tidy (c : List Int) : List Int := byAbs (dedI c)
theorem tidy_mem {c : List Int} {l : Int} : l ∈ tidy c ↔ l ∈ c := by unfold tidy; rw [(byAbs_perm _).mem_iff, dedI_mem]
theorem tidy_len (c : List Int) : (tidy c).length ≤ c.length := by unfold tidy; rw [(byAbs_perm _).length_eq]; exact dedI_len c
theorem ClauseOf.nd0 {many : Int} {c : List Int} (k : ClauseOf many c) : c.Nodup := (List.pairwise_map.mp k.nd).imp fun h e => h (by rw [e])
theorem ClauseOf.tidy {many : Int} {c : List Int} (k : ClauseOf many c) : tidy c = c := by
  unfold WS.tidy
  rw [dedI_self k.nd0, byAbs_self k.up k.nd]
theorem ClauseOf.tell {many : Int} {c : List Int} (k : ClauseOf many c) (h0 : 0 ≤ many) (h4 : many ≤ 400) : TellOf many c := ⟨k.mem, fun l hl hn => by
  have h := (k.mem l hl).ne
  obtain ⟨i, hi, e1⟩ := List.getElem_of_mem hl
  obtain ⟨j, hj, e2⟩ := List.getElem_of_mem hn
  have hij : i ≠ j := by rintro rfl; rw [e1] at e2; omega
  have nd := k.nd
  rw [List.Nodup, List.pairwise_iff_getElem] at nd
  have ea : ∀ (n : Nat) (hn : n < c.length), (absL c)[n]'(by rw [List.length_map]; exact hn) = absI c[n] := fun n hn => List.getElem_map _
  rcases Nat.lt_or_gt_of_ne hij with q | q
  · exact nd i j (by rw [List.length_map]; exact hi) (by rw [List.length_map]; exact hj) q (by rw [ea i hi, ea j hj, e1, e2, absI_neg])
  · exact nd j i (by rw [List.length_map]; exact hj) (by rw [List.length_map]; exact hi) q (by rw [ea i hi, ea j hj, e1, e2, absI_neg]), by have := k.len h0; omega⟩
theorem TellOf.tidy {many : Int} {c : List Int} (t : TellOf many c) : ClauseOf many (tidy c) := by
  refine ⟨fun l hl => t.mem l (tidy_mem.mp hl), ?_, byAbs_pw _⟩
  have nd : (WS.tidy c).Nodup := (byAbs_perm _).nodup_iff.mpr (dedI_nodup c)
  unfold absL
  rw [List.Nodup, List.pairwise_map]
  refine nd.imp_of_mem fun {a b} ha hb hne e => ?_
  rcases absI_eq e with h | h
  · exact hne h
  · exact t.one b (tidy_mem.mp hb) (by rw [← h]; exact tidy_mem.mp ha)
theorem TellOf.rev {many : Int} {c : List Int} (t : TellOf many c) : TellOf many c.reverse := ⟨fun l hl => t.mem l (List.mem_reverse.mp hl), fun l hl hn => t.one l (List.mem_reverse.mp hl) (List.mem_reverse.mp hn), by rw [List.length_reverse]; exact t.len⟩
/-- the clauses of a problem -/
def probCs (cs : List (List Int)) : List (List Int) := byLen (dedX [] (cs.map tidy))
theorem probCs_mem {cs : List (List Int)} {c : List Int} : c ∈ probCs cs ↔ ∃ k ∈ cs, tidy k = c := by
  unfold probCs
  rw [(byLen_perm _).mem_iff, dedX_mem, List.mem_map]
  simp
abbrev cTups (cs : List (List Int)) : W := .tup (cs.map cTup)
abbrev probW (many : Int) (ks : List (List Int)) : W := .fo "Problem" [("many", .int many), ("clauses", cTups ks)]
theorem offG_upd {G : GH} {x : Addr} {o : GO} (h : G x = none) : offG (updG G x o) x = G := by
  funext y
  by_cases e : y = x
  · subst e; rw [h]; unfold offG; simp
  · unfold offG; rw [if_neg e, updG_ne e]
/-! ### clause_in -/
abbrev N_clause_in : List Str := ["thing", "many", "letter", "clause"]
structure P_clause_in (ws : List W) (G : GH) (R : KW) (RX : XW) : Prop where
  ex : ∃ (w : W) (many : Int) (ns : List Int), ws = [w, .int many] ∧ (itemsW w G = some (ns.map W.int)) ∧ (TellOf many ns) ∧ (R (cTup (tidy ns)) G)
theorem len_clause_in : ∀ ws G R RX, P_clause_in ws G R RX → ws.length = ["thing", "many"].length := by
  rintro ws G R RX ⟨⟨_, _, _, rfl, _, _, _⟩⟩; rfl
theorem p_clause_in {w : W} {many : Int} {ns : List Int} {G : GH} {R : KW} {RX : XW} (hw : itemsW w G = some (ns.map W.int)) (t : TellOf many ns) (q : R (cTup (tidy ns)) G) : P_clause_in [w, .int many] G R RX := ⟨w, many, ns, rfl, hw, t, q⟩
def T_clause_in : TWS :=
  (sSeq (sIf (tOrW (tNotW (tTruW (tCW (isiC2 .li .tu) (tCo (tV 0) (tCo (tTupW (tCo (tK (.ty "list")) (tCo (tK (.ty "tuple")) tN))) tN))))) (tNotW (tTruW (tCF (fBols fun bs => bs.all fun b => b) (tCompI (tISeq (tV 0)) (gN 2) tYesW (tCall0 P_is_letter [] (tCo (tV 2) (tCo (tV 1) tN))) [2]))))) (sRet (tK .non)) sNext)
    (sSeq (sSet 3 (tCall0 P_clause_of [] (tCo (tV 0) tN)))
    (sRet (tIfE (tTruW (tCF (fBols fun bs => bs.any fun b => b) (tCompI (tISeq (tV 3)) (gN 2) tYesW (tOpW (inQ false) (tNegW (tV 2)) (tV 3)) [2]))) (tK .non) (tV 3)))))
theorem rd_clause_in (ws : List W) (G : GH) (R : KW) (RX : XW) (h : P_clause_in ws G R RX) : T_clause_in { nx := fun _ G' => fgt R .non G', rt := fgt R } (startW N_clause_in ws) G := by
  obtain ⟨w, many, ns, rfl, hw, t, q⟩ := h
  have hl := t.len
  have e1 : ((ns.map fun l => letterB many (.int l)).all fun b => b) = true := by
    rw [List.all_map]
    refine List.all_eq_true.mpr fun l hm => ?_
    have := t.mem l hm
    unfold LetOf absI at this
    show letterB many (.int l) = true
    unfold letterB
    dsimp only
    rw [decide_eq_true this.1, decide_eq_true this.2]; rfl
  have e2 : (((tidy ns).map fun l => (false != decide (-l ∈ tidy ns))).any fun b => b) = false := by
    rw [List.any_map]
    refine List.any_eq_false.mpr fun l hm => ?_
    show ¬ (false != decide (-l ∈ tidy ns)) = true
    rw [decide_eq_false fun z => t.one l (tidy_mem.mp hm) (tidy_mem.mp z)]; decide
  have hl2 := tidy_len ns
  have W0 := hw
  rcases items_cases hw with rfl | rfl | rfl | ⟨p, rfl, hp⟩
  rotate_left 3
  · have ht : tyW (.ref p) G = some .li := by simp [tyW, hp]
    (try conv => whnf); (repeat (first | (rw [ht]; conv => whnf) | (rw [hp]; conv => whnf) | (refine Exists.intro _ (And.intro rfl ?_); conv => whnf) | (refine And.intro rfl ?_; conv => whnf) | (refine frz_lst ?_; conv => whnf) | (refine frz_dK ?_; conv => whnf) | (refine frz_dT ?_; conv => whnf) | (refine ⟨by (try simp only [List.length_cons, List.length_nil, List.length_map, List.length_append, List.length_drop, List.length_take, sizeLine_eq]); omega, ?_⟩; conv => whnf)))
    refine compW_pure (f := W.int) (v := fun l => W.bl (letterB many (.int l))) hp ns [] (by rw [sizeLine_eq]; simp; omega) (fun l hm R' q' => p_is_letter (by simp [tyW]) q') ?_
    rw [List.nil_append, show (ns.map fun l => W.bl (letterB many (.int l))) = (ns.map fun l => letterB many (.int l)).map W.bl by rw [List.map_map]; rfl]
    try unfold fBols
    try dsimp only
    rw [blsOf_map]
    dsimp only
    rw [e1]
    conv => whnf
    refine p_clause_of hw hl ?_
    conv => whnf
    refine compW_pure (f := W.int) (v := fun l => W.bl (false != decide (-l ∈ tidy ns))) trivial (tidy ns) [] (by rw [sizeLine_eq]; simp; omega) (fun l hm R' q' => inS_tup (α := Int) (by decide) q') ?_
    rw [List.nil_append, show ((tidy ns).map fun l => W.bl (false != decide (-l ∈ tidy ns))) = ((tidy ns).map fun l => (false != decide (-l ∈ tidy ns))).map W.bl by rw [List.map_map]; rfl]
    try unfold fBols
    try dsimp only
    rw [blsOf_map]
    dsimp only
    rw [e2]
    conv => whnf
    exact ret q
  all_goals
    (try conv => whnf); (repeat (first | (refine Exists.intro _ (And.intro rfl ?_); conv => whnf) | (refine And.intro rfl ?_; conv => whnf) | (refine frz_lst ?_; conv => whnf) | (refine frz_dK ?_; conv => whnf) | (refine frz_dT ?_; conv => whnf) | (refine ⟨by (try simp only [List.length_cons, List.length_nil, List.length_map, List.length_append, List.length_drop, List.length_take, sizeLine_eq]); omega, ?_⟩; conv => whnf)))
    refine compW_pure (f := W.int) (v := fun l => W.bl (letterB many (.int l))) trivial ns [] (by rw [sizeLine_eq]; simp; omega) (fun l hm R' q' => p_is_letter (by simp [tyW]) q') ?_
    rw [List.nil_append, show (ns.map fun l => W.bl (letterB many (.int l))) = (ns.map fun l => letterB many (.int l)).map W.bl by rw [List.map_map]; rfl]
    try unfold fBols
    try dsimp only
    rw [blsOf_map]
    dsimp only
    rw [e1]
    conv => whnf
    refine p_clause_of hw hl ?_
    conv => whnf
    refine compW_pure (f := W.int) (v := fun l => W.bl (false != decide (-l ∈ tidy ns))) trivial (tidy ns) [] (by rw [sizeLine_eq]; simp; omega) (fun l hm R' q' => inS_tup (α := Int) (by decide) q') ?_
    rw [List.nil_append, show ((tidy ns).map fun l => W.bl (false != decide (-l ∈ tidy ns))) = ((tidy ns).map fun l => (false != decide (-l ∈ tidy ns))).map W.bl by rw [List.map_map]; rfl]
    try unfold fBols
    try dsimp only
    rw [blsOf_map]
    dsimp only
    rw [e2]
    conv => whnf
    exact ret q
/-! ### Problem___init__ -/
abbrev N_Problem___init__ : List Str := ["self", "many", "clauses", "found", "at", "thing", "clause"]
structure P_Problem___init__ (ws : List W) (G : GH) (R : KW) (RX : XW) : Prop where
  ex : ∃ (p : Addr) (many : Int) (cw : W) (zs : List (W × List Int)), ws = [.ref p, .int many, cw] ∧ (1 ≤ many) ∧ (many ≤ 400) ∧ (G p = some (.ins "Problem" [])) ∧ (cw = .fl (zs.map (·.1)) ∨ ∃ q, cw = .ref q ∧ G q = some (.lst (zs.map (·.1)))) ∧ (∀ z ∈ zs, itemsW z.1 G = some (z.2.map W.int) ∧ TellOf many z.2) ∧ (zs.length ≤ 4000) ∧ ((dedX [] ((zs.map (·.2)).map tidy)).length ≤ 400) ∧ (R .non (updG G p (.ins "Problem" [("many", .int many), ("clauses", cTups (probCs (zs.map (·.2))))])))
theorem len_Problem___init__ : ∀ ws G R RX, P_Problem___init__ ws G R RX → ws.length = ["self", "many", "clauses"].length := by
  rintro ws G R RX ⟨⟨_, _, _, _, rfl, _, _, _, _, _, _, _, _⟩⟩; rfl
theorem p_Problem___init__ {p : Addr} {many : Int} {cw : W} {zs : List (W × List Int)} {G : GH} {R : KW} {RX : XW} (h0 : 1 ≤ many) (h4 : many ≤ 400) (gp : G p = some (.ins "Problem" [])) (hw : cw = .fl (zs.map (·.1)) ∨ ∃ q, cw = .ref q ∧ G q = some (.lst (zs.map (·.1)))) (hz : ∀ z ∈ zs, itemsW z.1 G = some (z.2.map W.int) ∧ TellOf many z.2) (hl : zs.length ≤ 4000) (hk : (dedX [] ((zs.map (·.2)).map tidy)).length ≤ 400) (q : R .non (updG G p (.ins "Problem" [("many", .int many), ("clauses", cTups (probCs (zs.map (·.2))))]))) : P_Problem___init__ [.ref p, .int many, cw] G R RX := ⟨p, many, cw, zs, rfl, h0, h4, gp, hw, hz, hl, hk, q⟩
def T_Problem___init__ : TWS :=
  (sSeq (sIf (tOrW (tNotW (tTruW (tCall0 P_is_number [] (tCo (tV 1) tN)))) (tNotW (tTestW (tChainW leW leW (tK (.int 1)) (tV 1) (tK (.int 400)))))) sNever sNext)
    (sSeq (sIf (tNotW (tTruW (tCW (isiC2 .li .tu) (tCo (tV 2) (tCo (tTupW (tCo (tK (.ty "list")) (tCo (tK (.ty "tuple")) tN))) tN))))) sNever sNext)
    (sSeq (sSet 3 tDict0T)
    (sSeq (sFor (tIEnum1 (tV 2)) (gU 2 (gsC (gN 4) (gsC (gN 5) gsN))) (sSeq (sSet 6 (tCall0 P_clause_in [] (tCo (tV 5) (tCo (tV 1) tN))))
    (sSeq (sIf (tTestW (tOpW (isW false) (tV 6) (tK .non))) sNever sNext)
    (sAsg (tK (.bl true)) (gSubW (tV 3) (tV 6) setQ)))))
    (sSeq (sIf (tTestW (tOpW gtW (tCW lenQ (tCo (tV 3) tN)) (tK (.int 400)))) sNever sNext)
    (sSeq (sFldW "Problem" "many" (tV 0) (tV 1))
    (sFldW "Problem" "clauses" (tV 0) (tCW toTupW (tCo (tFz (tSortLenW (tV 3))) tN)))))))))
theorem rd_Problem___init__ (ws : List W) (G : GH) (R : KW) (RX : XW) (h : P_Problem___init__ ws G R RX) : T_Problem___init__ { nx := fun _ G' => fgt R .non G', rt := fgt R } (startW N_Problem___init__ ws) G := by
  obtain ⟨p, many, cw, zs, rfl, h0, h4, gp, hw, hz, hl, hk, q⟩ := h
  have hty : tyW cw G = some .li := by
    rcases hw with rfl | ⟨q, rfl, hq⟩
    · rfl
    · simp [tyW, hq]
  have hlst : ∀ G', ExtG G G' → ∃ g, lstOf cw G' = some (zs.map (·.1), g) ∧ ∀ G'', ExtG G G'' → g G'' := fun G' x => by
    rcases hw with rfl | ⟨q, rfl, hq⟩
    · exact ⟨_, rfl, fun _ _ => trivial⟩
    · exact ⟨fun G => G q = some (.lst (zs.map (·.1))), by simp [lstOf, x _ _ hq], fun G'' x2 => x2 _ _ hq⟩
  conv => whnf
  refine p_is_number (by simp [tyW]) ?_
  (try conv => whnf); (repeat (first | (rw [decide_eq_true h0]; conv => whnf) | (rw [decide_eq_true h4]; conv => whnf) | (rw [hty]; conv => whnf) | (refine Exists.intro _ (And.intro rfl ?_); conv => whnf) | (refine And.intro rfl ?_; conv => whnf) | (refine frz_lst ?_; conv => whnf) | (refine frz_dK ?_; conv => whnf) | (refine frz_dT ?_; conv => whnf) | (refine ⟨by (try simp only [List.length_cons, List.length_nil, List.length_map, List.length_append, List.length_drop, List.length_take, sizeLine_eq]); omega, ?_⟩; conv => whnf)))
  intro d hd
  have pd : p ≠ d := fun e => by rw [e, hd] at gp; cases gp
  have ext : ∀ acc, ExtG G (updG G d (.dT acc)) := fun acc => .new hd
  conv => whnf
  obtain ⟨g, eg, hg⟩ := hlst _ (ext [])
  rw [eg]
  conv => whnf
  rw [show zs.map (·.1) = zs.map (fun z => z.1) from rfl, enumP_map]
  refine forW_map (f := fun p : Int × (W × List Int) => W.tup [W.int p.1, p.2.1]) (I := fun xs S G' => ∃ (acc : List (List Int)) (x4 x5 x6 : Option W), S = [some (.ref p), some (.int many), some cw, some (.ref d), x4, x5, x6] ∧ G' = updG G d (.dT (cDict acc)) ∧ acc.length + xs.length ≤ zs.length ∧ dedX acc (xs.map fun p => tidy p.2.2) = dedX [] ((zs.map (·.2)).map tidy) ∧ (∀ x ∈ xs, x.2 ∈ zs)) ?_ ?_ _ _ _ ?_
  rotate_left
  · rintro S G1 ⟨acc, x4, x5, x6, rfl, rfl, hlen, hde, hm⟩
    refine ⟨hg _ (ext _), ?_⟩
    have hde : acc = dedX [] ((zs.map (·.2)).map tidy) := hde
    rw [← hde] at hk
    conv => whnf
    rw [updG_same]
    conv => whnf
    rw [decide_eq_false (show ¬ 400 < ((cDict acc).length : Int) by rw [List.length_map]; omega)]
    conv => whnf
    rw [updG_ne pd, gp]
    conv => whnf
    refine ⟨rfl, by decide, ?_⟩
    conv => whnf
    rw [show ∀ o, tupsIn (.ref d) (updG (updG G d (.dT (cDict acc))) p o) = some acc from fun o => by
      unfold tupsIn
      dsimp only
      rw [updG_ne (Ne.symm pd), updG_same]
      exact tups_dict acc]
    conv => whnf
    refine ⟨fun b hb => ?_, ?_⟩
    · rw [hde, dedX_mem, List.map_map] at hb
      rcases hb with hb | hb
      · cases hb
      · obtain ⟨z, hz1, rfl⟩ := List.mem_map.mp hb
        have := (hz z hz1).2.len
        have := tidy_len z.2
        rw [sizeLine_eq]
        show (tidy z.2).length ≤ _
        omega
    refine frz_lst ?_
    conv => whnf
    rw [updG_same]
    conv => whnf
    refine ⟨rfl, (by show (1 : Nat) < 1000; decide), ?_⟩
    conv => whnf
    rw [updG_upd]
    refine ret_ext (G := updG G p (.ins "Problem" [("many", .int many), ("clauses", cTups (probCs (zs.map (·.2))))])) ?_ q
    have e : byLen acc = probCs (zs.map (·.2)) := by unfold probCs; rw [hde]
    intro a o h
    by_cases ea : a = p
    · subst ea
      rw [updG_same] at h ⊢
      rw [← h, ← e]; rfl
    · rw [updG_ne ea] at h ⊢
      rw [updG_ne (neG h hd)]; exact h
  · refine ⟨[], none, none, none, rfl, rfl, ?_, ?_, ?_⟩
    · rw [enumI_len]; simp
    · rw [show ((enumI 0 zs).map fun p => tidy p.2.2) = ((enumI 0 zs).map (·.2)).map fun z => tidy z.2 by rw [List.map_map]; rfl, enum_snd, List.map_map]; rfl
    · intro x hx
      have : x.2 ∈ (enumI 0 zs).map (·.2) := List.mem_map_of_mem hx
      rwa [enum_snd] at this
  rintro x xs S G1 ⟨acc, x4, x5, x6, rfl, rfl, hlen, hde, hm⟩ N hN
  refine ⟨hg _ (ext _), ?_⟩
  conv => whnf
  refine ⟨rfl, ?_⟩
  obtain ⟨hi, ht⟩ := hz _ (hm x List.mem_cons_self)
  rw [List.length_cons] at hlen
  conv => whnf
  refine ⟨rfl, ?_⟩
  conv => whnf
  refine p_clause_in ((ext _).items hi) ht ?_
  conv => whnf
  rw [updG_same]
  conv => whnf
  rw [keysOf_ints]
  conv => whnf
  refine ⟨by rw [List.length_map, sizeLine_eq]; omega, ?_⟩
  rw [updG_upd, put_ded (k := kI) ki_inj]
  refine hN _ _ ⟨addX acc (tidy x.2.2), _, _, _, rfl, rfl, ?_, hde, fun y hy => hm y (List.mem_cons_of_mem _ hy)⟩
  unfold addX
  split
  · omega
  · rw [List.length_append, List.length_singleton]; omega
/-! ### holds -/
abbrev N_holds : List Str := ["clause", "answer", "letter"]
structure P_holds (ws : List W) (G : GH) (R : KW) (RX : XW) : Prop where
  ex : ∃ (many : Int) (c bs : List Int), ws = [cTup c, cTup bs] ∧ (∀ l ∈ c, LetOf many l) ∧ (c.length ≤ 2000) ∧ (BitsOf many bs) ∧ (R (.bl (holdsB c bs)) G)
theorem len_holds : ∀ ws G R RX, P_holds ws G R RX → ws.length = ["clause", "answer"].length := by
  rintro ws G R RX ⟨⟨_, _, _, rfl, _, _, _, _⟩⟩; rfl
theorem p_holds {many : Int} {c bs : List Int} {G : GH} {R : KW} {RX : XW} (hc : ∀ l ∈ c, LetOf many l) (hl : c.length ≤ 2000) (B : BitsOf many bs) (q : R (.bl (holdsB c bs)) G) : P_holds [cTup c, cTup bs] G R RX := ⟨many, c, bs, rfl, hc, hl, B, q⟩
def T_holds : TWS :=
  (sRet (tCF (fBols fun bs => bs.any fun b => b) (tCompI (tISeq (tV 0)) (gN 2) tYesW (tOpW (eqQ false) (tOpW ixW (tV 1) (tOpW subW (tCW absW (tCo (tV 2) tN)) (tK (.int 1)))) (tCW toIntW (tCo (tOpW gtW (tV 2) (tK (.int 0))) tN))) [2])))
theorem rd_holds (ws : List W) (G : GH) (R : KW) (RX : XW) (h : P_holds ws G R RX) : T_holds { nx := fun _ G' => fgt R .non G', rt := fgt R } (startW N_holds ws) G := by
  obtain ⟨many, c, bs, rfl, hc, hl, B, q⟩ := h
  conv => whnf
  refine compW_pure (f := W.int) (v := fun l => W.bl (holdB bs l)) trivial c [] (by rw [sizeLine_eq]; simp; omega) (fun l hm R' q' => ?_) ?_
  · have h := hc l hm
    conv => whnf
    refine ⟨_, (B.get h).2, ?_⟩
    conv => whnf
    unfold holdB at q'
    by_cases c0 : l > 0
    · rw [decide_eq_true c0]
      rw [if_pos c0] at q'
      conv => whnf
      rw [fbne, if_pos rfl]
      exact q'
    · rw [decide_eq_false c0]
      rw [if_neg c0] at q'
      conv => whnf
      rw [fbne, if_neg (by decide)]
      exact q'
  · rw [List.nil_append, show (c.map fun l => W.bl (holdB bs l)) = (c.map (holdB bs)).map W.bl by rw [List.map_map]; rfl]
    unfold fBols
    rw [blsOf_map]
    dsimp only
    rw [show ((c.map (holdB bs)).any fun b => b) = holdsB c bs by rw [List.any_map]; rfl]
    exact ret q
end WS
set_option Elab.async false
set_option linter.all false
set_option maxRecDepth 100000
set_option maxHeartbeats 4000000
/-! LPm: clauses and answers as values; all answers, in order. -/
namespace WS
open PySem PySem.Spec PyProof.Rows L2 WL PySem.W
/-! ### tuples of ints in lists -/
theorem map_tup (cs : List (List Int)) : cs.map cTup = (cs.map fun c => (⟨c⟩ : PySem.W.Tup Int)).map DW.w := by
  rw [List.map_map]; rfl
theorem tup_mem {a : List Int} {cs : List (List Int)} : decide ((⟨a⟩ : PySem.W.Tup Int) ∈ cs.map fun c => (⟨c⟩ : PySem.W.Tup Int)) = decide (a ∈ cs) := by
  have : ((⟨a⟩ : PySem.W.Tup Int) ∈ cs.map fun c => (⟨c⟩ : PySem.W.Tup Int)) ↔ a ∈ cs := by
    rw [List.mem_map]
    exact ⟨fun ⟨c, h, e⟩ => by injection e with e; exact e ▸ h, fun h => ⟨a, h, rfl⟩⟩
  exact decide_eq_decide.mpr this
section
variable {n : Bool} {a : List Int} {as cs : List (List Int)} {G : GH} {R : KW}
theorem in_cTups (k : R (.bl (n != decide (a ∈ cs))) G) : InS n (cTup a) (cTups cs) G R := by
  show InS n (DW.w (⟨a⟩ : PySem.W.Tup Int)) (.tup (cs.map cTup)) G R
  rw [map_tup]
  exact inS_tup (by decide) (by rw [tup_mem]; exact k)
theorem in_fTups (k : R (.bl (n != decide (a ∈ cs))) G) : InS n (cTup a) (.fl (cs.map cTup)) G R := by
  show InS n (DW.w (⟨a⟩ : PySem.W.Tup Int)) (.fl (cs.map cTup)) G R
  rw [map_tup]
  exact inS_fl (by decide) (by rw [tup_mem]; exact k)
theorem in_rTups {p : Addr} (hp : G p = some (.lst (cs.map cTup))) (k : R (.bl (n != decide (a ∈ cs))) G) : InS n (cTup a) (.ref p) G R := by
  show InS n (DW.w (⟨a⟩ : PySem.W.Tup Int)) (.ref p) G R
  rw [map_tup] at hp
  exact inS_lst hp (by decide) (by rw [tup_mem]; exact k)
theorem eq_fTups (k : R (.bl (n != decide (as = cs))) G) : EqS n (.fl (as.map cTup)) (.fl (cs.map cTup)) G R := by
  refine eqS_hd (n := n) (a := as.map fun c => (⟨c⟩ : PySem.W.Tup Int)) (b := cs.map fun c => (⟨c⟩ : PySem.W.Tup Int)) ?_ ?_ (by decide) ?_
  · rw [map_tup]; exact hd_fl
  · rw [map_tup]; exact hd_fl
  · have e : decide ((as.map fun c => (⟨c⟩ : PySem.W.Tup Int)) = cs.map fun c => (⟨c⟩ : PySem.W.Tup Int)) = decide (as = cs) := by
      refine decide_eq_decide.mpr ⟨fun h => ?_, fun h => by rw [h]⟩
      have := congrArg (List.map PySem.W.Tup.items) h
      rwa [List.map_map, List.map_map, show (PySem.W.Tup.items ∘ fun c : List Int => (⟨c⟩ : PySem.W.Tup Int)) = id from rfl, List.map_id, List.map_id] at this
    rw [e]; exact k
theorem eq_rTups {p : Addr} (hp : G p = some (.lst (as.map cTup))) (k : R (.bl (n != decide (as = cs))) G) : EqS n (.ref p) (.fl (cs.map cTup)) G R := by
  refine eqS_hd (n := n) (a := as.map fun c => (⟨c⟩ : PySem.W.Tup Int)) (b := cs.map fun c => (⟨c⟩ : PySem.W.Tup Int)) ?_ ?_ (by decide) ?_
  · rw [map_tup] at hp; exact hd_lst hp
  · rw [map_tup]; exact hd_fl
  · have e : decide ((as.map fun c => (⟨c⟩ : PySem.W.Tup Int)) = cs.map fun c => (⟨c⟩ : PySem.W.Tup Int)) = decide (as = cs) := by
      refine decide_eq_decide.mpr ⟨fun h => ?_, fun h => by rw [h]⟩
      have := congrArg (List.map PySem.W.Tup.items) h
      rwa [List.map_map, List.map_map, show (PySem.W.Tup.items ∘ fun c : List Int => (⟨c⟩ : PySem.W.Tup Int)) = id from rfl, List.map_id, List.map_id] at this
    rw [e]; exact k
theorem eq_fBls {a c : List Bool} (k : R (.bl (n != decide (a = c))) G) : EqS n (.fl (a.map W.bl)) (.fl (c.map W.bl)) G R :=
  eqS_hd (n := n) (a := a) (b := c) (hd_fl (xs := a)) (hd_fl (xs := c)) (by decide) k
end
theorem keysOf_c (c : List Int) : keysOf (c.map W.int) = some (kI c) := keysOf_ints c
theorem valW_cd (a : List Int) : ∀ cs : List (List Int), (valW (cDict cs) (kI a)).isSome = decide (a ∈ cs)
  | [] => rfl
  | c :: cs => by
    have ih := valW_cd a cs
    unfold valW at ih ⊢
    rw [show cDict (c :: cs) = (kI c, W.bl true) :: cDict cs from rfl, List.find?_cons]
    by_cases h : kI c = kI a
    · have e := ki_inj _ _ h
      subst e
      rw [decide_eq_true rfl]
      simp
    · rw [decide_eq_false h]
      dsimp only
      rw [ih]
      refine decide_eq_decide.mpr ⟨List.mem_cons_of_mem _, fun z => ?_⟩
      rcases List.mem_cons.mp z with rfl | z
      · exact absurd rfl h
      · exact z
section
variable {n : Bool} {a : List Int} {cs : List (List Int)} {G : GH} {R : KW}
theorem in_cDict (k : R (.bl (n != decide (a ∈ cs))) G) : inQ n (cTup a) (.fdT (cDict cs)) G R := ⟨valW (cDict cs) (kI a), by unfold fgetW; dsimp only; rw [keysOf_ints], by rw [valW_cd]; exact k⟩
theorem in_rDict {p : Addr} (hp : G p = some (.dT (cDict cs))) (k : R (.bl (n != decide (a ∈ cs))) G) : InS n (cTup a) (.ref p) G R := ⟨by
  unfold inW
  dsimp only
  rw [hp]
  exact ⟨valW (cDict cs) (kI a), by unfold dgetW; dsimp only; rw [hp]; dsimp only; rw [keysOf_ints], by rw [valW_cd]; exact k⟩⟩
end
theorem sz0 : ([] : List W).length ≤ sizeLine := by rw [sizeLine_eq]; decide
theorem sz1 (a : W) : [a].length ≤ sizeLine := by rw [sizeLine_eq]; show 1 ≤ 16777216; decide
theorem sz2 (a b : W) : [a, b].length ≤ sizeLine := by rw [sizeLine_eq]; show 2 ≤ 16777216; decide
theorem sz3 (a b c : W) : [a, b, c].length ≤ sizeLine := by rw [sizeLine_eq]; show 3 ≤ 16777216; decide
theorem atI_hd {α : Type} (w : α) (ws : List α) : L2.atI (w :: ws) 0 = some w := by
  unfold L2.atI ixN
  rw [if_pos (by decide), if_pos (by rw [List.length_cons]; omega)]; rfl
/-! ### the order of tuples -/
theorem dataLe_tups : dataLe false tupKey = fun p q => decide (p ≤ q) := by
  have := dataLe_rows (fun p : List Int => p)
  rw [← this]
  funext p q
  show (!dataLt (.tuple (q.map .int)) (.tuple (p.map .int))) = !dataLt (.list (q.map .int)) (.list (p.map .int))
  rw [dataLt_tuple, dataLt_list]
theorem tups_uniq : ∀ {l m : List (List Int)}, l.Perm m → l.Pairwise (· ≤ ·) → m.Pairwise (· ≤ ·) → l = m
  | [], m, pm, _, _ => (List.nil_perm.mp pm).symm
  | a :: l, [], pm, _, _ => absurd pm.length_eq (by simp)
  | a :: l, b :: m, pm, p1, p2 => by
    rw [List.pairwise_cons] at p1 p2
    have e : a = b := by
      rcases List.mem_cons.mp (pm.mem_iff.mp List.mem_cons_self) with h | h
      · exact h
      · rcases List.mem_cons.mp (pm.mem_iff.mpr List.mem_cons_self) with h2 | h2
        · exact h2.symm
        · exact List.le_antisymm (p1.1 b h2) (p2.1 a h)
    subst e
    rw [tups_uniq ((List.perm_cons a).mp pm) p1.2 p2.2]
theorem byTup_pw (bs : List (List Int)) : (byTup bs).Pairwise (· ≤ ·) := by
  unfold byTup
  rw [dataLe_tups]
  have := List.pairwise_mergeSort (le := fun p q : List Int => decide (p ≤ q)) (fun a b c h1 h2 => decide_eq_true (List.le_trans (of_decide_eq_true h1) (of_decide_eq_true h2))) (fun a b => by
    rw [Bool.or_eq_true, decide_eq_true_iff, decide_eq_true_iff]
    exact List.le_total a b) bs
  exact this.imp fun h => of_decide_eq_true h
theorem byTup_of {as bs : List (List Int)} (pm : as.Perm bs) (h : bs.Pairwise (· ≤ ·)) : byTup as = bs := tups_uniq ((byTup_perm as).trans pm) (byTup_pw as) h
/-! ### all rows of bits -/
def rows : Nat → List (List Int)
  | 0 => [[]]
  | n + 1 => (rows n).flatMap fun r => [r ++ [0], r ++ [1]]
theorem rows_len : ∀ n, (rows n).length = 2 ^ n
  | 0 => rfl
  | n + 1 => by
    have : ∀ L : List (List Int), (L.flatMap fun r => [r ++ [0], r ++ [(1 : Int)]]).length = L.length * 2 := fun L => by
      induction L with
      | nil => rfl
      | cons x L ih => rw [List.flatMap_cons, List.length_append, ih, List.length_cons]; simp; omega
    show ((rows n).flatMap fun r => [r ++ [0], r ++ [1]]).length = _
    rw [this, rows_len n, Nat.pow_succ]
theorem mem_rows : ∀ {n : Nat} {r : List Int}, r ∈ rows n ↔ BitsOf n r
  | 0, r => by
    constructor
    · intro h
      rw [List.mem_singleton.mp h]
      exact ⟨rfl, fun b hb => (by cases hb)⟩
    · rintro ⟨h, _⟩
      have : r = [] := List.length_eq_zero_iff.mp (by omega)
      rw [this]; exact List.mem_singleton.mpr rfl
  | n + 1, r => by
    show r ∈ (rows n).flatMap (fun r => [r ++ [0], r ++ [1]]) ↔ _
    rw [List.mem_flatMap]
    constructor
    · rintro ⟨s, hs, h⟩
      have B := mem_rows.mp hs
      have hl := B.len
      have : ∃ b, (b = 0 ∨ b = 1) ∧ r = s ++ [b] := by
        rcases List.mem_cons.mp h with h | h
        · exact ⟨0, .inl rfl, h⟩
        · exact ⟨1, .inr rfl, List.mem_singleton.mp h⟩
      obtain ⟨b, hb, rfl⟩ := this
      refine ⟨by rw [List.length_append, List.length_singleton]; omega, fun x hx => ?_⟩
      rcases List.mem_append.mp hx with hx | hx
      · exact B.bit x hx
      · rw [List.mem_singleton.mp hx]; exact hb
    · rintro ⟨hl, hb⟩
      have hne : r ≠ [] := by rintro rfl; simp at hl; omega
      refine ⟨r.dropLast, mem_rows.mpr ⟨by rw [List.length_dropLast]; omega, fun x hx => hb x ((List.dropLast_sublist r).subset hx)⟩, ?_⟩
      have e := List.dropLast_concat_getLast hne
      rcases hb _ (List.getLast_mem hne) with h | h
      · rw [h] at e
        exact List.mem_cons.mpr (.inl e.symm)
      · rw [h] at e
        exact List.mem_cons_of_mem _ (List.mem_singleton.mpr e.symm)
theorem lt_snoc : ∀ {a b : List Int} {x y : List Int}, a.length = b.length → a < b → a ++ x < b ++ y
  | [], [], _, _, _, h => absurd h (by simp)
  | [], _ :: _, _, _, h, _ => by simp at h
  | _ :: _, [], _, _, h, _ => by simp at h
  | p :: a, q :: b, x, y, hl, h => by
    rw [List.cons_append, List.cons_append, List.cons_lt_cons_iff]
    rw [List.cons_lt_cons_iff] at h
    rcases h with h | ⟨h1, h2⟩
    · exact .inl h
    · exact .inr ⟨h1, lt_snoc (by simpa using hl) h2⟩
theorem lt_bits : ∀ r : List Int, r ++ [0] < r ++ [(1 : Int)]
  | [] => by decide
  | p :: r => by
    rw [List.cons_append, List.cons_append, List.cons_lt_cons_iff]
    exact .inr ⟨rfl, lt_bits r⟩
theorem rows_lt : ∀ n, (rows n).Pairwise (· < ·)
  | 0 => List.pairwise_singleton _ _
  | n + 1 => by
    have ih := rows_lt n
    have hl : ∀ r ∈ rows n, r.length = n := fun r hr => by have := (mem_rows.mp hr).len; omega
    show ((rows n).flatMap fun r => [r ++ [0], r ++ [1]]).Pairwise (· < ·)
    generalize rows n = L at ih hl
    induction L with
    | nil => exact .nil
    | cons a L ih2 =>
      rw [List.pairwise_cons] at ih
      rw [List.flatMap_cons, List.pairwise_append]
      refine ⟨?_, ih2 ih.2 fun r hr => hl r (List.mem_cons_of_mem _ hr), fun x hx y hy => ?_⟩
      · rw [List.pairwise_cons]
        exact ⟨fun y hy => by rw [List.mem_singleton.mp hy]; exact lt_bits a, List.pairwise_singleton _ _⟩
      · obtain ⟨b, hb, hy⟩ := List.mem_flatMap.mp hy
        have hlen : a.length = b.length := by rw [hl a List.mem_cons_self, hl b (List.mem_cons_of_mem _ hb)]
        have hab := ih.1 b hb
        rcases List.mem_cons.mp hx with rfl | hx
        · rcases List.mem_cons.mp hy with rfl | hy
          · exact lt_snoc hlen hab
          · rw [List.mem_singleton.mp hy]; exact lt_snoc hlen hab
        · rw [List.mem_singleton.mp hx]
          rcases List.mem_cons.mp hy with rfl | hy
          · exact lt_snoc hlen hab
          · rw [List.mem_singleton.mp hy]; exact lt_snoc hlen hab
/-! ### the answers -/
def allB (cs : List (List Int)) (r : List Int) : Bool := cs.all fun c => holdsB c r
def ansAll (n : Nat) (cs : List (List Int)) : List (List Int) := (rows n).filter (allB cs)
theorem mem_ansAll {n : Nat} {cs : List (List Int)} {r : List Int} : r ∈ ansAll n cs ↔ BitsOf n r ∧ ∀ c ∈ cs, holdsB c r = true := by
  unfold ansAll allB
  rw [List.mem_filter, mem_rows, List.all_eq_true]
theorem ansAll_pw (n : Nat) (cs : List (List Int)) : (ansAll n cs).Pairwise (· < ·) := (rows_lt n).filter _
theorem ansAll_le (n : Nat) (cs : List (List Int)) : (ansAll n cs).Pairwise (· ≤ ·) := (ansAll_pw n cs).imp fun h => List.le_of_lt h
theorem ansAll_nodup (n : Nat) (cs : List (List Int)) : (ansAll n cs).Nodup := (ansAll_pw n cs).imp fun h e => by rw [e] at h; exact List.lt_irrefl _ h
theorem ansAll_len (n : Nat) (cs : List (List Int)) : (ansAll n cs).length ≤ 2 ^ n := by rw [← rows_len n]; exact List.length_filter_le _ _
theorem ansAll_same {n : Nat} {cs ds : List (List Int)} (h : ∀ c, c ∈ cs ↔ c ∈ ds) : ansAll n cs = ansAll n ds := by
  unfold ansAll
  refine List.filter_congr fun r _ => ?_
  unfold allB
  rw [Bool.eq_iff_iff, List.all_eq_true, List.all_eq_true]
  exact ⟨fun q c hc => q c ((h c).mpr hc), fun q c hc => q c ((h c).mp hc)⟩
/-- the letters of a clause are among the first k truths -/
theorem holds_snoc {k : Nat} {c r : List Int} {b : Int} (hl : r.length = k) (hc : ∀ l ∈ c, LetOf k l) : holdsB c (r ++ [b]) = holdsB c r := by
  have e : ∀ l ∈ c, holdB (r ++ [b]) l = holdB r l := fun l hm => by
    have := hc l hm
    have h1 := this.1
    have h2 := this.2
    unfold holdB
    rw [List.getD_eq_getElem?_getD, List.getD_eq_getElem?_getD, List.getElem?_append_left (by omega)]
  unfold holdsB
  rw [Bool.eq_iff_iff, List.any_eq_true, List.any_eq_true]
  exact ⟨fun ⟨l, h, q⟩ => ⟨l, h, by rw [← e l h]; exact q⟩, fun ⟨l, h, q⟩ => ⟨l, h, by rw [e l h]; exact q⟩⟩
/-- the truth of a clause's last letter -/
def lastA (c : List Int) : Int := match c.getLast? with
  | some l => absI l
  | none => 0
theorem lastA_le {many : Int} {c : List Int} (k : ClauseOf many c) : ∀ l ∈ c, LetOf (lastA c) l := by
  intro l hl
  have hne : c ≠ [] := by rintro rfl; cases hl
  have e : lastA c = absI (c.getLast hne) := by unfold lastA; rw [List.getLast?_eq_some_getLast hne]
  refine ⟨(k.mem l hl).1, ?_⟩
  rw [e]
  obtain ⟨i, hi, rfl⟩ := List.getElem_of_mem hl
  rw [List.getLast_eq_getElem]
  by_cases h : i = c.length - 1
  · subst h; exact Int.le_refl _
  · exact List.pairwise_iff_getElem.mp k.up i (c.length - 1) hi (by omega) (by omega)
theorem lastA_nil {many : Int} {c : List Int} (k : ClauseOf many c) : lastA c = 0 ↔ c = [] := by
  constructor
  · intro h
    by_cases hne : c = []
    · exact hne
    · have := (lastA_le k _ (List.getLast_mem hne)).1
      have := (lastA_le k _ (List.getLast_mem hne)).2
      omega
  · rintro rfl; rfl
/-- the clauses of the first k truths -/
def upto (k : Int) (cs : List (List Int)) : List (List Int) := cs.filter fun c => decide (lastA c ≤ k)
def dueAt (k : Int) (cs : List (List Int)) : List (List Int) := cs.filter fun c => decide (c ≠ [] ∧ lastA c = k)
theorem step_ans {many : Int} {cs : List (List Int)} (hc : ∀ c ∈ cs, ClauseOf many c) (n : Nat) :
    ((ansAll n (upto n cs)).flatMap fun r => [r ++ [0], r ++ [1]]).filter (allB (dueAt ((n : Int) + 1) cs)) = ansAll (n + 1) (upto ((n : Int) + 1) cs) := by
  have key : ∀ r ∈ rows n, ∀ b : Int, allB (upto ((n : Int) + 1) cs) (r ++ [b]) = (allB (upto n cs) r && allB (dueAt ((n : Int) + 1) cs) (r ++ [b])) := fun r hr b => by
    have hl : r.length = n := by have := (mem_rows.mp hr).len; omega
    rw [Bool.eq_iff_iff, Bool.and_eq_true]
    unfold allB
    rw [List.all_eq_true, List.all_eq_true, List.all_eq_true]
    constructor
    · intro h
      refine ⟨fun c hm => ?_, fun c hm => ?_⟩
      · obtain ⟨h1, h2⟩ := List.mem_filter.mp hm
        have h2 := of_decide_eq_true h2
        rw [← holds_snoc (b := b) hl (fun l hl => by have := lastA_le (hc c h1) l hl; exact ⟨this.1, Int.le_trans this.2 h2⟩)]
        exact h c (List.mem_filter.mpr ⟨h1, decide_eq_true (by omega)⟩)
      · obtain ⟨h1, h2⟩ := List.mem_filter.mp hm
        have h2 := of_decide_eq_true h2
        exact h c (List.mem_filter.mpr ⟨h1, decide_eq_true (by omega)⟩)
    · rintro ⟨q1, q2⟩ c hm
      obtain ⟨h1, h2⟩ := List.mem_filter.mp hm
      have h2 := of_decide_eq_true h2
      by_cases h3 : lastA c ≤ n
      · rw [holds_snoc (b := b) hl (fun l hl => by have := lastA_le (hc c h1) l hl; exact ⟨this.1, Int.le_trans this.2 h3⟩)]
        exact q1 c (List.mem_filter.mpr ⟨h1, decide_eq_true h3⟩)
      · refine q2 c (List.mem_filter.mpr ⟨h1, decide_eq_true ⟨fun e => ?_, by omega⟩⟩)
        have := (lastA_nil (hc c h1)).mpr e
        omega
  unfold ansAll
  show _ = ((rows n).flatMap fun r => [r ++ [0], r ++ [1]]).filter _
  generalize rows n = L at key
  induction L with
  | nil => rfl
  | cons r L ih =>
    have k0 := key r List.mem_cons_self
    rw [List.flatMap_cons, List.filter_append, ← ih fun r hr => key r (List.mem_cons_of_mem _ hr)]
    by_cases h : allB (upto n cs) r = true
    · rw [List.filter_cons_of_pos h, List.flatMap_cons, List.filter_append]
      congr 1
      have e : ∀ b : Int, allB (upto ((n : Int) + 1) cs) (r ++ [b]) = allB (dueAt ((n : Int) + 1) cs) (r ++ [b]) := fun b => by rw [k0 b, h, Bool.true_and]
      simp only [List.filter_cons, List.filter_nil, e]
    · rw [List.filter_cons_of_neg h]
      have e : ∀ b : Int, allB (upto ((n : Int) + 1) cs) (r ++ [b]) = false := fun b => by rw [k0 b, show allB (upto n cs) r = false by simpa using h, Bool.false_and]
      simp only [List.filter_cons, List.filter_nil, e]
      rfl
/-! ### a dict and a list of clauses that change -/
@[irreducible] def cst (G : GH) (d l : Addr) (fs ls : List (List Int)) : GH := updG (updG G d (.dT (cDict fs))) l (.lst (ls.map cTup))
section
variable {G : GH} {d l : Addr} {fs ls fs' ls' : List (List Int)}
theorem cst_mk : updG (updG G d (.dT (cDict fs))) l (.lst (ls.map cTup)) = cst G d l fs ls := by unfold cst; rfl
theorem cst_d (h : d ≠ l) : cst G d l fs ls d = some (.dT (cDict fs)) := by unfold cst; rw [updG_ne h, updG_same]
theorem cst_l : cst G d l fs ls l = some (.lst (ls.map cTup)) := by unfold cst; rw [updG_same]
theorem cst_setl : updG (cst G d l fs ls) l (.lst (ls'.map cTup)) = cst G d l fs ls' := by unfold cst; rw [updG_upd]
theorem cst_setd (h : d ≠ l) : updG (cst G d l fs ls) d (.dT (cDict fs')) = cst G d l fs' ls := by
  unfold cst
  funext x
  by_cases e : x = d
  · subst e; rw [updG_same, updG_ne h, updG_same]
  · rw [updG_ne e]
    by_cases e2 : x = l
    · subst e2; rw [updG_same, updG_same]
    · rw [updG_ne e2, updG_ne e2, updG_ne e, updG_ne e]
theorem cst_ext (hd : G d = none) (hl : G l = none) : ExtG G (cst G d l fs ls) := by
  unfold cst
  exact (ExtG.new hd).putNew hl
end
theorem pairsT_cs : ∀ cs : List (List Int), pairsT (cs.map fun c => W.tup [cTup c, .bl true]) = some (cs.map fun c => (kI c, W.bl true))
  | [] => rfl
  | c :: cs => by
    have e : tkey (cTup c) = some (kI c) := by show keysOf (c.map W.int) = _; exact keysOf_ints c
    rw [List.map_cons, pairsT, e, pairsT_cs cs]; rfl
end WS
set_option Elab.async false
set_option linter.all false
set_option maxRecDepth 100000
set_option maxHeartbeats 4000000
namespace WS
open PySem PySem.Spec PyProof.Rows L2 WL
def intsW : W → List Int
  | .tup xs => (intsOf xs).getD []
  | _ => []
theorem turn_of_yes {many : Int} {w : W} (h : turnB many w = true) : ∃ ls, w = .tup (ls.map W.int) ∧ TurnOf many ls := by
  cases w with
  | tup xs =>
    unfold turnB at h
    dsimp only at h
    rw [Bool.and_eq_true, Bool.and_eq_true, Bool.and_eq_true, Bool.and_eq_true, decide_eq_true_iff, decide_eq_true_iff, decide_eq_true_iff, decide_eq_true_iff] at h
    obtain ⟨⟨h1, h2, h3⟩, h4, h5⟩ := h
    have hx : ∀ {ys : List W}, ys.all (letterB many) = true → ∃ ls, ys = ls.map W.int ∧ (∀ l ∈ ls, LetOf many l) ∧ ys.map absK = (absL ls).map Sum.inl := by
      intro ys
      induction ys with
      | nil => intro _; exact ⟨[], rfl, fun l h => (by cases h), rfl⟩
      | cons y ys ih =>
        intro h
        rw [List.all_cons, Bool.and_eq_true] at h
        obtain ⟨ls, rfl, e2, e3⟩ := ih h.2
        have hy := h.1
        cases y with
        | int i =>
          unfold letterB at hy
          dsimp only at hy
          rw [Bool.and_eq_true, decide_eq_true_iff, decide_eq_true_iff] at hy
          refine ⟨i :: ls, rfl, fun l hl => ?_, ?_⟩
          · rcases List.mem_cons.mp hl with rfl | hl
            · exact hy
            · exact e2 l hl
          · rw [List.map_cons, e3]; rfl
        | _ => cases hy
    obtain ⟨ls, rfl, e2, e3⟩ := hx h4
    rw [List.length_map] at h1 h2 h3
    refine ⟨ls, rfl, turn_of_go (by omega) (by omega) h1 e2 ?_⟩
    rw [e3] at h5
    have : (ded [] ((absL ls).map Sum.inl)).length = ((absL ls).map Sum.inl : List Key).length := by
      rw [List.length_map, List.length_map]; omega
    have nk := (ded_nodup _).mp this
    rw [List.Nodup, List.pairwise_map] at nk
    exact nk.imp fun hne e => hne (by rw [e])
  | _ => cases h
def fitB (many : Int) (cs : List (List Int)) (w : W) : Bool := turnB many w && cs.all fun c => decide (clauseL (intsW w) c ∈ cs)
theorem compT_pure {α : Type} {f : α → W} {kf : α → List Key} {v : W} {Gd : GH → Prop} {g : TGW} {tk tv : TW} {S0 : WSt} {R : List (List Key × W) → GH → Prop} {G : GH} (hg : Gd G) : ∀ (xs : List α) (acc : List (List Key × W)), acc.length + xs.length ≤ sizeLine →
    (∀ x ∈ xs, ∀ R' : W → W → GH → Prop, (∀ k, tkey k = some (kf x) → R' k v G) → g (f x) S0 G fun S2 G2 => tk S2 G2 fun k G4 => tv S2 G4 fun v G5 => R' k v G5) →
    R (mergeT acc (xs.map fun x => (kf x, v))) G → compT Gd g tYesW tk tv S0 R (xs.map f) G acc
  | [], acc, _, _, r => ⟨hg, r⟩
  | x :: xs, acc, hl, st, r => by
    rw [List.length_cons] at hl
    refine ⟨hg, ?_⟩
    refine st x List.mem_cons_self (fun k v G5 => ∃ c, tkey k = some c ∧ acc.length < sizeLine ∧ compT Gd g tYesW tk tv S0 R (xs.map f) G5 (putW acc c v)) fun k hk => ?_
    have := putW_len acc (kf x) v
    exact ⟨_, hk, by omega, compT_pure hg xs _ (by omega) (fun y hy => st y (List.mem_cons_of_mem _ hy)) r⟩
theorem mergeT_dedA : ∀ (cs acc : List (List Int)), mergeT (cDict acc) (cs.map fun c => (kI c, W.bl true)) = cDict (dedX acc cs)
  | [], acc => rfl
  | c :: cs, acc => by
    show mergeT (putW (acc.map fun n => (kI n, W.bl true)) (kI c) (W.bl true)) _ = cDict (dedX (addX acc c) cs)
    rw [put_ded (k := kI) ki_inj]
    exact mergeT_dedA cs _
theorem mergeT_ded (cs : List (List Int)) : mergeT [] (cs.map fun c => (kI c, W.bl true)) = cDict (dedX [] cs) := mergeT_dedA cs []
theorem atI_last {c : List Int} (h : c ≠ []) : L2.atI (c.map W.int) (-1) = some (.int (c.getLast h)) := by
  have hp := List.length_pos_iff.mpr h
  unfold L2.atI ixN
  rw [List.length_map, if_neg (by decide), if_pos (by omega)]
  show (c.map W.int)[_]? = _
  rw [List.getElem?_map, List.getLast_eq_getElem, List.getElem?_eq_getElem (by omega)]
  show some (W.int _) = some (W.int _)
  congr 2
  congr 1
  omega
/-! ### answers -/
abbrev N_answers : List Str := ["problem", "most", "found", "k", "due", "longer", "clause", "some", "bit"]
structure P_answers (ws : List W) (G : GH) (R : KW) (RX : XW) : Prop where
  ex : ∃ (many most : Int) (cs : List (List Int)), ws = [probW many cs, .int most] ∧ (1 ≤ many) ∧ (many ≤ most) ∧ (many ≤ 20) ∧ (∀ c ∈ cs, ClauseOf many c) ∧ (cs.length ≤ 4000) ∧ (R (.fl ((ansAll many.toNat cs).map cTup)) G)
theorem len_answers : ∀ ws G R RX, P_answers ws G R RX → ws.length = ["problem", "most"].length := by
  rintro ws G R RX ⟨⟨_, _, _, rfl, _, _, _, _, _, _⟩⟩; rfl
theorem p_answers {many most : Int} {cs : List (List Int)} {G : GH} {R : KW} {RX : XW} (h0 : 1 ≤ many) (hm : many ≤ most) (h12 : many ≤ 20) (hc : ∀ c ∈ cs, ClauseOf many c) (hl : cs.length ≤ 4000) (q : R (.fl ((ansAll many.toNat cs).map cTup)) G) : P_answers [probW many cs, .int most] G R RX := ⟨many, most, cs, rfl, h0, hm, h12, hc, hl, q⟩
def T_answers : TWS :=
  (sSeq (sIf (tTestW (tOpW gtW (tFldW "Problem" "many" (tV 0)) (tV 1))) sNever sNext)
    (sSeq (sSet 2 (tIfE (tTestW (tOpW (inQ false) (tTupW tN) (tFldW "Problem" "clauses" (tV 0)))) (tFz (tLstW tN)) (tFz (tLstW (tCo (tTupW tN) tN)))))
    (sSeq (sFor (tIRng2 (tCo (tK (.int 1)) (tCo (tOpW addW (tFldW "Problem" "many" (tV 0)) (tK (.int 1))) tN))) (gN 3) (sSeq (sSet 4 (tFz (tComp (tISeq (tFldW "Problem" "clauses" (tV 0))) (gN 6) (tAndW (tTestW (tOpW (eqQ true) (tV 6) (tTupW tN))) (tTestW (tOpW (eqQ false) (tCW absW (tCo (tOpW ixW (tV 6) (tNegW (tK (.int 1)))) tN)) (tV 3)))) (tV 6) [6])))
    (sSeq (sSet 5 (tFz (tComp2 (tISeq (tV 2)) (gN 7) tYesW (tIDisp (tCo (tK (.int 0)) (tCo (tK (.int 1)) tN))) (gN 8) tYesW (tOpW addW (tV 7) (tTupW (tCo (tV 8) tN))) [7, 8] [8])))
    (sSet 2 (tFz (tComp (tISeq (tV 5)) (gN 7) (tTruW (tCF (fBols fun bs => bs.all fun b => b) (tCompI (tISeq (tV 4)) (gN 6) tYesW (tCall0 P_holds [] (tCo (tV 6) (tCo (tV 7) tN))) [6]))) (tV 7) [7]))))))
    (sRet (tV 2)))))
theorem rd_answers (ws : List W) (G : GH) (R : KW) (RX : XW) (h : P_answers ws G R RX) : T_answers { nx := fun _ G' => fgt R .non G', rt := fgt R } (startW N_answers ws) G := by
  obtain ⟨many, most, cs, rfl, h0, hm, h12, hc, hl, q⟩ := h
  have e0 : ansAll 0 (upto 0 cs) = if [] ∈ cs then [] else [[]] := by
    unfold ansAll rows allB upto
    by_cases hn : [] ∈ cs
    · rw [if_pos hn, List.filter_cons_of_neg, List.filter_nil]
      intro z
      have := List.all_eq_true.mp z [] (List.mem_filter.mpr ⟨hn, by decide⟩)
      cases this
    · rw [if_neg hn, List.filter_cons_of_pos, List.filter_nil]
      refine List.all_eq_true.mpr fun c hm => ?_
      obtain ⟨h1, h2⟩ := List.mem_filter.mp hm
      have h2 := of_decide_eq_true h2
      by_cases e : c = []
      · subst e; exact absurd h1 hn
      · have h3 := lastA_le (hc c h1) _ (List.getLast_mem e)
        have h4 := h3.1
        have h5 := h3.2
        omega
  (try conv => whnf); (repeat (first | (refine Exists.intro _ (And.intro rfl ?_); conv => whnf) | (refine And.intro rfl ?_; conv => whnf) | (refine frz_lst ?_; conv => whnf) | (refine frz_dK ?_; conv => whnf) | (refine frz_dT ?_; conv => whnf) | (refine ⟨by (try simp only [List.length_cons, List.length_nil, List.length_map, List.length_append, List.length_drop, List.length_take, sizeLine_eq]); omega, ?_⟩; conv => whnf)))
  rw [decide_eq_false (show ¬ most < many by omega)]
  (try conv => whnf); (repeat (first | (refine Exists.intro _ (And.intro rfl ?_); conv => whnf) | (refine And.intro rfl ?_; conv => whnf) | (refine frz_lst ?_; conv => whnf) | (refine frz_dK ?_; conv => whnf) | (refine frz_dT ?_; conv => whnf) | (refine ⟨by (try simp only [List.length_cons, List.length_nil, List.length_map, List.length_append, List.length_drop, List.length_take, sizeLine_eq]); omega, ?_⟩; conv => whnf)))
  refine in_cTups (a := []) ?_
  by_cases hn : [] ∈ cs
  · rw [decide_eq_true hn]
    rw [if_pos hn] at e0
    (try conv => whnf); (repeat (first | (refine Exists.intro _ (And.intro rfl ?_); conv => whnf) | (refine And.intro rfl ?_; conv => whnf) | (refine frz_lst ?_; conv => whnf) | (refine frz_dK ?_; conv => whnf) | (refine frz_dT ?_; conv => whnf) | (refine ⟨by (try simp only [List.length_cons, List.length_nil, List.length_map, List.length_append, List.length_drop, List.length_take, sizeLine_eq]); omega, ?_⟩; conv => whnf)))
    rw [show (many + 1 - 1).toNat = many.toNat by omega, List.range_eq_range']
    refine forW_map (f := fun k : Nat => W.int (1 + (k : Int))) (I := fun xs S G' => ∃ (k : Nat) (x3 x4 x5 x6 x7 x8 : Option W), xs = List.range' k xs.length ∧ k + xs.length = many.toNat ∧ S = [some (probW many cs), some (.int most), some (.fl ((ansAll k (upto k cs)).map cTup)), x3, x4, x5, x6, x7, x8] ∧ G' = G) ?_ ?_ _ _ _ ?_
    rotate_left
    · rintro S G1 ⟨k, x3, x4, x5, x6, x7, x8, ex, ek, rfl, rfl⟩
      refine ⟨trivial, ?_⟩
      conv => whnf
      have : k = many.toNat := by simpa using ek
      subst this
      have e : upto many.toNat cs = cs := by
        unfold upto
        refine List.filter_eq_self.mpr fun c hm => decide_eq_true ?_
        by_cases ec : c = []
        · subst ec; show (0 : Int) ≤ _; omega
        · have h3 := ((hc c hm).mem _ (List.getLast_mem ec)).2
          have e4 : lastA c = absI (c.getLast ec) := by unfold lastA; rw [List.getLast?_eq_some_getLast ec]
          omega
      rw [e]
      exact ret q
    · exact ⟨0, none, none, none, none, none, none, by simp, by simp, by rw [show ((0 : Nat) : Int) = 0 from rfl] at *; rw [e0]; rfl, rfl⟩
    rintro x xs S G1 ⟨k, x3, x4, x5, x6, x7, x8, ex, ek, rfl, rfl⟩ N hN
    rw [List.length_cons] at ex ek
    rw [List.range'_succ] at ex
    injection ex with ex1 ex2
    subst ex1
    refine ⟨trivial, ?_⟩
    conv => whnf
    (try conv => whnf); (repeat (first | (refine Exists.intro _ (And.intro rfl ?_); conv => whnf) | (refine And.intro rfl ?_; conv => whnf) | (refine frz_lst ?_; conv => whnf) | (refine frz_dK ?_; conv => whnf) | (refine frz_dT ?_; conv => whnf) | (refine ⟨by (try simp only [List.length_cons, List.length_nil, List.length_map, List.length_append, List.length_drop, List.length_take, sizeLine_eq]); omega, ?_⟩; conv => whnf)))
    refine compW_pureF (f := cTup) (v := cTup) (keep := fun c => decide (c ≠ [] ∧ lastA c = (x : Int) + 1)) trivial cs [] (by rw [sizeLine_eq]; simp; omega) (fun c hm R' N' h1 h2 => ?_) ?_
    · (try conv => whnf); (repeat (first | (refine Exists.intro _ (And.intro rfl ?_); conv => whnf) | (refine And.intro rfl ?_; conv => whnf) | (refine frz_lst ?_; conv => whnf) | (refine frz_dK ?_; conv => whnf) | (refine frz_dT ?_; conv => whnf) | (refine ⟨by (try simp only [List.length_cons, List.length_nil, List.length_map, List.length_append, List.length_drop, List.length_take, sizeLine_eq]); omega, ?_⟩; conv => whnf)))
      refine eq_ints (c := []) ?_
      by_cases ec : c = []
      · rw [decide_eq_true ec]
        conv => whnf
        exact h2 (decide_eq_false fun z => z.1 ec)
      · rw [decide_eq_false ec]
        conv => whnf
        refine ⟨.int (c.getLast ec), atI_last ec, ?_⟩
        conv => whnf
        have e4 : lastA c = absI (c.getLast ec) := by unfold lastA; rw [List.getLast?_eq_some_getLast ec]
        by_cases ed : absI (c.getLast ec) = 1 + (x : Int)
        · rw [show decide ((if c.getLast ec < 0 then -c.getLast ec else c.getLast ec) = 1 + (x : Int)) = true from decide_eq_true ed]
          exact h1 (decide_eq_true ⟨ec, by omega⟩)
        · rw [show decide ((if c.getLast ec < 0 then -c.getLast ec else c.getLast ec) = 1 + (x : Int)) = false from decide_eq_false ed]
          exact h2 (decide_eq_false fun z => ed (by rw [← e4, z.2]; omega))
    rw [List.nil_append]
    (try conv => whnf); (repeat (first | (refine Exists.intro _ (And.intro rfl ?_); conv => whnf) | (refine And.intro rfl ?_; conv => whnf) | (refine frz_lst ?_; conv => whnf) | (refine frz_dK ?_; conv => whnf) | (refine frz_dT ?_; conv => whnf) | (refine ⟨by (try simp only [List.length_cons, List.length_nil, List.length_map, List.length_append, List.length_drop, List.length_take, sizeLine_eq]); omega, ?_⟩; conv => whnf)))
    intro D hD
    have hrl : (ansAll x (upto (x : Int) cs)).length ≤ 1048576 := by
      refine Nat.le_trans (ansAll_len _ _) (Nat.le_trans (Nat.pow_le_pow_right (by decide) (show x ≤ 20 by omega)) (by decide))
    have hlen : ∀ r ∈ ansAll x (upto (x : Int) cs), r.length = x := fun r hr => by have := (mem_ansAll.mp hr).1.len; omega
    have hfl : ((ansAll x (upto (x : Int) cs)).flatMap fun r => [cTup (r ++ [0]), cTup (r ++ [1])]).length ≤ sizeLine := by
      have : ∀ L : List (List Int), (L.flatMap fun r => [cTup (r ++ [0]), cTup (r ++ [(1 : Int)])]).length = L.length * 2 := fun L => by
        induction L with
        | nil => rfl
        | cons x L ih => rw [List.flatMap_cons, List.length_append, ih, List.length_cons]; simp; omega
      rw [this, sizeLine_eq]; omega
    refine compD2_app (e := cTup) (fun r => [cTup (r ++ [0]), cTup (r ++ [1])]) (ansAll x (upto (x : Int) cs)) [] (by simpa using hfl) (fun _ => trivial) (fun r hr acc R' hb q' => ?_) ?_
    · have hx := hlen r hr
      have hb : acc.length + 2 ≤ sizeLine := hb
      have hxl : x ≤ 20 := by omega
      (try conv => whnf); (repeat (first | (rw [updG_same]; conv => whnf) | (refine Exists.intro _ (And.intro rfl ?_); conv => whnf) | (refine And.intro rfl ?_; conv => whnf) | (refine frz_lst ?_; conv => whnf) | (refine frz_dK ?_; conv => whnf) | (refine frz_dT ?_; conv => whnf) | (refine ⟨by (try simp only [List.length_cons, List.length_nil, List.length_map, List.length_append, List.length_drop, List.length_take, sizeLine_eq]); omega, ?_⟩; conv => whnf)))
      refine ⟨trivial, ?_⟩
      (try conv => whnf); (repeat (first | (rw [updG_same]; conv => whnf) | (refine Exists.intro _ (And.intro rfl ?_); conv => whnf) | (refine And.intro rfl ?_; conv => whnf) | (refine frz_lst ?_; conv => whnf) | (refine frz_dK ?_; conv => whnf) | (refine frz_dT ?_; conv => whnf) | (refine ⟨by (try simp only [List.length_cons, List.length_nil, List.length_map, List.length_append, List.length_drop, List.length_take, sizeLine_eq]); omega, ?_⟩; conv => whnf)))
      refine ⟨by omega, ?_⟩
      rw [updG_upd]
      conv => whnf
      refine ⟨trivial, ?_⟩
      (try conv => whnf); (repeat (first | (rw [updG_same]; conv => whnf) | (refine Exists.intro _ (And.intro rfl ?_); conv => whnf) | (refine And.intro rfl ?_; conv => whnf) | (refine frz_lst ?_; conv => whnf) | (refine frz_dK ?_; conv => whnf) | (refine frz_dT ?_; conv => whnf) | (refine ⟨by (try simp only [List.length_cons, List.length_nil, List.length_map, List.length_append, List.length_drop, List.length_take, sizeLine_eq]); omega, ?_⟩; conv => whnf)))
      refine ⟨by rw [List.length_append, List.length_singleton]; omega, ?_⟩
      rw [updG_upd]
      conv => whnf
      refine ⟨trivial, ?_⟩
      rw [List.append_assoc]
      have e1 : W.tup (r.map W.int ++ [W.int 0]) = cTup (r ++ [0]) := by rw [show cTup (r ++ [0]) = W.tup ((r ++ [0]).map W.int) from rfl, List.map_append]; rfl
      have e2 : W.tup (r.map W.int ++ [W.int 1]) = cTup (r ++ [1]) := by rw [show cTup (r ++ [1]) = W.tup ((r ++ [1]).map W.int) from rfl, List.map_append]; rfl
      rw [e1, e2]
      exact q'
    rw [List.nil_append]
    conv => whnf
    rw [updG_same]
    dsimp only
    rw [offG_upd hD, show ((ansAll x (upto (x : Int) cs)).flatMap fun r => [cTup (r ++ [0]), cTup (r ++ [1])]) = ((ansAll x (upto (x : Int) cs)).flatMap fun r => [r ++ [0], r ++ [1]]).map cTup by rw [List.map_flatMap]; rfl]
    have hfl2 : ((ansAll x (upto (x : Int) cs)).flatMap fun r => [r ++ [0], r ++ [1]]).length ≤ sizeLine := by
      have := congrArg List.length (show ((ansAll x (upto (x : Int) cs)).flatMap fun r => [cTup (r ++ [0]), cTup (r ++ [1])]) = ((ansAll x (upto (x : Int) cs)).flatMap fun r => [r ++ [0], r ++ [1]]).map cTup by rw [List.map_flatMap]; rfl)
      rw [List.length_map] at this
      omega
    have hrow : ∀ r ∈ ((ansAll x (upto (x : Int) cs)).flatMap fun r => [r ++ [0], r ++ [1]]), BitsOf ((x : Int) + 1) r := fun r hr => by
      obtain ⟨s, hs, h⟩ := List.mem_flatMap.mp hr
      have hs := (mem_ansAll.mp hs).1
      have := mem_rows (n := x + 1) (r := r)
      rw [Int.natCast_add] at this
      exact this.mp (List.mem_flatMap.mpr ⟨s, mem_rows.mpr hs, h⟩)
    have hdl : (dueAt ((x : Int) + 1) cs).length ≤ 4000 := Nat.le_trans (List.length_filter_le _ _) hl
    conv => whnf
    refine compW_pureF (f := cTup) (v := cTup) (keep := allB (dueAt ((x : Int) + 1) cs)) trivial _ [] (by simpa using hfl2) (fun r hr R' N' h1 h2 => ?_) ?_
    · conv => whnf
      refine compW_pure (f := cTup) (v := fun c => W.bl (holdsB c r)) trivial (dueAt ((x : Int) + 1) cs) [] (by rw [sizeLine_eq]; simp; omega) (fun c hm R' q' => ?_) ?_
      · obtain ⟨d1, d2⟩ := List.mem_filter.mp hm
        have d2 := (of_decide_eq_true d2).2
        refine p_holds (many := (x : Int) + 1) (fun l hl => by have := lastA_le (hc c d1) l hl; rwa [d2] at this) (by have := (hc c d1).len (by omega); omega) (hrow r hr) q'
      · rw [List.nil_append, show ((dueAt ((x : Int) + 1) cs).map fun c => W.bl (holdsB c r)) = ((dueAt ((x : Int) + 1) cs).map fun c => holdsB c r).map W.bl by rw [List.map_map]; rfl]
        unfold fBols
        rw [blsOf_map]
        dsimp only
        rw [show (((dueAt ((x : Int) + 1) cs).map fun c => holdsB c r).all fun b => b) = allB (dueAt ((x : Int) + 1) cs) r by rw [List.all_map]; rfl]
        cases eb : allB (dueAt ((x : Int) + 1) cs) r with
        | true => exact h1 eb
        | false => exact h2 eb
    rw [List.nil_append, step_ans hc x]
    refine frz_lst ?_
    conv => whnf
    exact hN _ _ ⟨x + 1, _, _, _, _, _, _, ex2, by omega, by rw [Int.natCast_add]; rfl, rfl⟩
  · rw [decide_eq_false hn]
    rw [if_neg hn] at e0
    (try conv => whnf); (repeat (first | (refine Exists.intro _ (And.intro rfl ?_); conv => whnf) | (refine And.intro rfl ?_; conv => whnf) | (refine frz_lst ?_; conv => whnf) | (refine frz_dK ?_; conv => whnf) | (refine frz_dT ?_; conv => whnf) | (refine ⟨by (try simp only [List.length_cons, List.length_nil, List.length_map, List.length_append, List.length_drop, List.length_take, sizeLine_eq]); omega, ?_⟩; conv => whnf)))
    rw [show (many + 1 - 1).toNat = many.toNat by omega, List.range_eq_range']
    refine forW_map (f := fun k : Nat => W.int (1 + (k : Int))) (I := fun xs S G' => ∃ (k : Nat) (x3 x4 x5 x6 x7 x8 : Option W), xs = List.range' k xs.length ∧ k + xs.length = many.toNat ∧ S = [some (probW many cs), some (.int most), some (.fl ((ansAll k (upto k cs)).map cTup)), x3, x4, x5, x6, x7, x8] ∧ G' = G) ?_ ?_ _ _ _ ?_
    rotate_left
    · rintro S G1 ⟨k, x3, x4, x5, x6, x7, x8, ex, ek, rfl, rfl⟩
      refine ⟨trivial, ?_⟩
      conv => whnf
      have : k = many.toNat := by simpa using ek
      subst this
      have e : upto many.toNat cs = cs := by
        unfold upto
        refine List.filter_eq_self.mpr fun c hm => decide_eq_true ?_
        by_cases ec : c = []
        · subst ec; show (0 : Int) ≤ _; omega
        · have h3 := ((hc c hm).mem _ (List.getLast_mem ec)).2
          have e4 : lastA c = absI (c.getLast ec) := by unfold lastA; rw [List.getLast?_eq_some_getLast ec]
          omega
      rw [e]
      exact ret q
    · exact ⟨0, none, none, none, none, none, none, by simp, by simp, by rw [show ((0 : Nat) : Int) = 0 from rfl] at *; rw [e0]; rfl, rfl⟩
    rintro x xs S G1 ⟨k, x3, x4, x5, x6, x7, x8, ex, ek, rfl, rfl⟩ N hN
    rw [List.length_cons] at ex ek
    rw [List.range'_succ] at ex
    injection ex with ex1 ex2
    subst ex1
    refine ⟨trivial, ?_⟩
    conv => whnf
    (try conv => whnf); (repeat (first | (refine Exists.intro _ (And.intro rfl ?_); conv => whnf) | (refine And.intro rfl ?_; conv => whnf) | (refine frz_lst ?_; conv => whnf) | (refine frz_dK ?_; conv => whnf) | (refine frz_dT ?_; conv => whnf) | (refine ⟨by (try simp only [List.length_cons, List.length_nil, List.length_map, List.length_append, List.length_drop, List.length_take, sizeLine_eq]); omega, ?_⟩; conv => whnf)))
    refine compW_pureF (f := cTup) (v := cTup) (keep := fun c => decide (c ≠ [] ∧ lastA c = (x : Int) + 1)) trivial cs [] (by rw [sizeLine_eq]; simp; omega) (fun c hm R' N' h1 h2 => ?_) ?_
    · (try conv => whnf); (repeat (first | (refine Exists.intro _ (And.intro rfl ?_); conv => whnf) | (refine And.intro rfl ?_; conv => whnf) | (refine frz_lst ?_; conv => whnf) | (refine frz_dK ?_; conv => whnf) | (refine frz_dT ?_; conv => whnf) | (refine ⟨by (try simp only [List.length_cons, List.length_nil, List.length_map, List.length_append, List.length_drop, List.length_take, sizeLine_eq]); omega, ?_⟩; conv => whnf)))
      refine eq_ints (c := []) ?_
      by_cases ec : c = []
      · rw [decide_eq_true ec]
        conv => whnf
        exact h2 (decide_eq_false fun z => z.1 ec)
      · rw [decide_eq_false ec]
        conv => whnf
        refine ⟨.int (c.getLast ec), atI_last ec, ?_⟩
        conv => whnf
        have e4 : lastA c = absI (c.getLast ec) := by unfold lastA; rw [List.getLast?_eq_some_getLast ec]
        by_cases ed : absI (c.getLast ec) = 1 + (x : Int)
        · rw [show decide ((if c.getLast ec < 0 then -c.getLast ec else c.getLast ec) = 1 + (x : Int)) = true from decide_eq_true ed]
          exact h1 (decide_eq_true ⟨ec, by omega⟩)
        · rw [show decide ((if c.getLast ec < 0 then -c.getLast ec else c.getLast ec) = 1 + (x : Int)) = false from decide_eq_false ed]
          exact h2 (decide_eq_false fun z => ed (by rw [← e4, z.2]; omega))
    rw [List.nil_append]
    (try conv => whnf); (repeat (first | (refine Exists.intro _ (And.intro rfl ?_); conv => whnf) | (refine And.intro rfl ?_; conv => whnf) | (refine frz_lst ?_; conv => whnf) | (refine frz_dK ?_; conv => whnf) | (refine frz_dT ?_; conv => whnf) | (refine ⟨by (try simp only [List.length_cons, List.length_nil, List.length_map, List.length_append, List.length_drop, List.length_take, sizeLine_eq]); omega, ?_⟩; conv => whnf)))
    intro D hD
    have hrl : (ansAll x (upto (x : Int) cs)).length ≤ 1048576 := by
      refine Nat.le_trans (ansAll_len _ _) (Nat.le_trans (Nat.pow_le_pow_right (by decide) (show x ≤ 20 by omega)) (by decide))
    have hlen : ∀ r ∈ ansAll x (upto (x : Int) cs), r.length = x := fun r hr => by have := (mem_ansAll.mp hr).1.len; omega
    have hfl : ((ansAll x (upto (x : Int) cs)).flatMap fun r => [cTup (r ++ [0]), cTup (r ++ [1])]).length ≤ sizeLine := by
      have : ∀ L : List (List Int), (L.flatMap fun r => [cTup (r ++ [0]), cTup (r ++ [(1 : Int)])]).length = L.length * 2 := fun L => by
        induction L with
        | nil => rfl
        | cons x L ih => rw [List.flatMap_cons, List.length_append, ih, List.length_cons]; simp; omega
      rw [this, sizeLine_eq]; omega
    refine compD2_app (e := cTup) (fun r => [cTup (r ++ [0]), cTup (r ++ [1])]) (ansAll x (upto (x : Int) cs)) [] (by simpa using hfl) (fun _ => trivial) (fun r hr acc R' hb q' => ?_) ?_
    · have hx := hlen r hr
      have hb : acc.length + 2 ≤ sizeLine := hb
      have hxl : x ≤ 20 := by omega
      (try conv => whnf); (repeat (first | (rw [updG_same]; conv => whnf) | (refine Exists.intro _ (And.intro rfl ?_); conv => whnf) | (refine And.intro rfl ?_; conv => whnf) | (refine frz_lst ?_; conv => whnf) | (refine frz_dK ?_; conv => whnf) | (refine frz_dT ?_; conv => whnf) | (refine ⟨by (try simp only [List.length_cons, List.length_nil, List.length_map, List.length_append, List.length_drop, List.length_take, sizeLine_eq]); omega, ?_⟩; conv => whnf)))
      refine ⟨trivial, ?_⟩
      (try conv => whnf); (repeat (first | (rw [updG_same]; conv => whnf) | (refine Exists.intro _ (And.intro rfl ?_); conv => whnf) | (refine And.intro rfl ?_; conv => whnf) | (refine frz_lst ?_; conv => whnf) | (refine frz_dK ?_; conv => whnf) | (refine frz_dT ?_; conv => whnf) | (refine ⟨by (try simp only [List.length_cons, List.length_nil, List.length_map, List.length_append, List.length_drop, List.length_take, sizeLine_eq]); omega, ?_⟩; conv => whnf)))
      refine ⟨by omega, ?_⟩
      rw [updG_upd]
      conv => whnf
      refine ⟨trivial, ?_⟩
      (try conv => whnf); (repeat (first | (rw [updG_same]; conv => whnf) | (refine Exists.intro _ (And.intro rfl ?_); conv => whnf) | (refine And.intro rfl ?_; conv => whnf) | (refine frz_lst ?_; conv => whnf) | (refine frz_dK ?_; conv => whnf) | (refine frz_dT ?_; conv => whnf) | (refine ⟨by (try simp only [List.length_cons, List.length_nil, List.length_map, List.length_append, List.length_drop, List.length_take, sizeLine_eq]); omega, ?_⟩; conv => whnf)))
      refine ⟨by rw [List.length_append, List.length_singleton]; omega, ?_⟩
      rw [updG_upd]
      conv => whnf
      refine ⟨trivial, ?_⟩
      rw [List.append_assoc]
      have e1 : W.tup (r.map W.int ++ [W.int 0]) = cTup (r ++ [0]) := by rw [show cTup (r ++ [0]) = W.tup ((r ++ [0]).map W.int) from rfl, List.map_append]; rfl
      have e2 : W.tup (r.map W.int ++ [W.int 1]) = cTup (r ++ [1]) := by rw [show cTup (r ++ [1]) = W.tup ((r ++ [1]).map W.int) from rfl, List.map_append]; rfl
      rw [e1, e2]
      exact q'
    rw [List.nil_append]
    conv => whnf
    rw [updG_same]
    dsimp only
    rw [offG_upd hD, show ((ansAll x (upto (x : Int) cs)).flatMap fun r => [cTup (r ++ [0]), cTup (r ++ [1])]) = ((ansAll x (upto (x : Int) cs)).flatMap fun r => [r ++ [0], r ++ [1]]).map cTup by rw [List.map_flatMap]; rfl]
    have hfl2 : ((ansAll x (upto (x : Int) cs)).flatMap fun r => [r ++ [0], r ++ [1]]).length ≤ sizeLine := by
      have := congrArg List.length (show ((ansAll x (upto (x : Int) cs)).flatMap fun r => [cTup (r ++ [0]), cTup (r ++ [1])]) = ((ansAll x (upto (x : Int) cs)).flatMap fun r => [r ++ [0], r ++ [1]]).map cTup by rw [List.map_flatMap]; rfl)
      rw [List.length_map] at this
      omega
    have hrow : ∀ r ∈ ((ansAll x (upto (x : Int) cs)).flatMap fun r => [r ++ [0], r ++ [1]]), BitsOf ((x : Int) + 1) r := fun r hr => by
      obtain ⟨s, hs, h⟩ := List.mem_flatMap.mp hr
      have hs := (mem_ansAll.mp hs).1
      have := mem_rows (n := x + 1) (r := r)
      rw [Int.natCast_add] at this
      exact this.mp (List.mem_flatMap.mpr ⟨s, mem_rows.mpr hs, h⟩)
    have hdl : (dueAt ((x : Int) + 1) cs).length ≤ 4000 := Nat.le_trans (List.length_filter_le _ _) hl
    conv => whnf
    refine compW_pureF (f := cTup) (v := cTup) (keep := allB (dueAt ((x : Int) + 1) cs)) trivial _ [] (by simpa using hfl2) (fun r hr R' N' h1 h2 => ?_) ?_
    · conv => whnf
      refine compW_pure (f := cTup) (v := fun c => W.bl (holdsB c r)) trivial (dueAt ((x : Int) + 1) cs) [] (by rw [sizeLine_eq]; simp; omega) (fun c hm R' q' => ?_) ?_
      · obtain ⟨d1, d2⟩ := List.mem_filter.mp hm
        have d2 := (of_decide_eq_true d2).2
        refine p_holds (many := (x : Int) + 1) (fun l hl => by have := lastA_le (hc c d1) l hl; rwa [d2] at this) (by have := (hc c d1).len (by omega); omega) (hrow r hr) q'
      · rw [List.nil_append, show ((dueAt ((x : Int) + 1) cs).map fun c => W.bl (holdsB c r)) = ((dueAt ((x : Int) + 1) cs).map fun c => holdsB c r).map W.bl by rw [List.map_map]; rfl]
        unfold fBols
        rw [blsOf_map]
        dsimp only
        rw [show (((dueAt ((x : Int) + 1) cs).map fun c => holdsB c r).all fun b => b) = allB (dueAt ((x : Int) + 1) cs) r by rw [List.all_map]; rfl]
        cases eb : allB (dueAt ((x : Int) + 1) cs) r with
        | true => exact h1 eb
        | false => exact h2 eb
    rw [List.nil_append, step_ans hc x]
    refine frz_lst ?_
    conv => whnf
    exact hN _ _ ⟨x + 1, _, _, _, _, _, _, ex2, by omega, by rw [Int.natCast_add]; rfl, rfl⟩
/-! ### fits -/
abbrev N_fits : List Str := ["problem", "thing", "there", "clause"]
structure P_fits (ws : List W) (G : GH) (R : KW) (RX : XW) : Prop where
  ex : ∃ (many : Int) (cs : List (List Int)) (w : W), ws = [probW many cs, w] ∧ (Ask G w) ∧ (∀ c ∈ cs, ClauseOf many c) ∧ (cs.length ≤ 4000) ∧ (R (.bl (fitB many cs w)) G)
theorem len_fits : ∀ ws G R RX, P_fits ws G R RX → ws.length = ["problem", "thing"].length := by
  rintro ws G R RX ⟨⟨_, _, _, rfl, _, _, _, _⟩⟩; rfl
theorem p_fits {many : Int} {cs : List (List Int)} {w : W} {G : GH} {R : KW} {RX : XW} (ask : Ask G w) (hc : ∀ c ∈ cs, ClauseOf many c) (hl : cs.length ≤ 4000) (q : R (.bl (fitB many cs w)) G) : P_fits [probW many cs, w] G R RX := ⟨many, cs, w, rfl, ask, hc, hl, q⟩
def T_fits : TWS :=
  (sSeq (sIf (tNotW (tTruW (tCall0 P_is_turn [] (tCo (tV 1) (tCo (tFldW "Problem" "many" (tV 0)) tN))))) (sRet (tK (.bl false))) sNext)
    (sSeq (sSet 2 (tFz (tDictT (tISeq (tFldW "Problem" "clauses" (tV 0))) (gN 3) tYesW (tV 3) (tK (.bl true)) [3])))
    (sRet (tCF (fBols fun bs => bs.all fun b => b) (tCompI (tISeq (tFldW "Problem" "clauses" (tV 0))) (gN 3) tYesW (tOpW (inQ false) (tCall0 P_of_clause [] (tCo (tV 1) (tCo (tV 3) tN))) (tV 2)) [3])))))
theorem rd_fits (ws : List W) (G : GH) (R : KW) (RX : XW) (h : P_fits ws G R RX) : T_fits { nx := fun _ G' => fgt R .non G', rt := fgt R } (startW N_fits ws) G := by
  obtain ⟨many, cs, w, rfl, ask, hc, hl, q⟩ := h
  (try conv => whnf); (repeat (first | (refine Exists.intro _ (And.intro rfl ?_); conv => whnf) | (refine And.intro rfl ?_; conv => whnf) | (refine frz_lst ?_; conv => whnf) | (refine frz_dK ?_; conv => whnf) | (refine frz_dT ?_; conv => whnf)))
  refine p_is_turn ask ?_
  unfold fitB at q
  by_cases ht : turnB many w = true
  · rw [ht] at q ⊢
    obtain ⟨ls, rfl, t⟩ := turn_of_yes ht
    have el : intsW (.tup (ls.map W.int)) = ls := by show (intsOf (ls.map W.int)).getD [] = ls; rw [intsOf_map]; rfl
    rw [Bool.true_and, el] at q
    have h4 := t.h4
    (try conv => whnf); (repeat (first | (refine Exists.intro _ (And.intro rfl ?_); conv => whnf) | (refine And.intro rfl ?_; conv => whnf) | (refine frz_lst ?_; conv => whnf) | (refine frz_dK ?_; conv => whnf) | (refine frz_dT ?_; conv => whnf) | (refine ⟨by (try simp only [List.length_cons, List.length_nil, List.length_map, List.length_append, List.length_drop, List.length_take, sizeLine_eq]); omega, ?_⟩; conv => whnf)))
    refine compT_pure (f := cTup) (kf := kI) (v := W.bl true) trivial cs [] (by rw [sizeLine_eq]; simp; omega) (fun c hm R' q' => q' _ (by show keysOf (c.map W.int) = _; exact keysOf_ints c)) ?_
    rw [mergeT_ded]
    refine frz_dT ?_
    (try conv => whnf); (repeat (first | (refine Exists.intro _ (And.intro rfl ?_); conv => whnf) | (refine And.intro rfl ?_; conv => whnf) | (refine frz_lst ?_; conv => whnf) | (refine frz_dK ?_; conv => whnf) | (refine frz_dT ?_; conv => whnf) | (refine ⟨by (try simp only [List.length_cons, List.length_nil, List.length_map, List.length_append, List.length_drop, List.length_take, sizeLine_eq]); omega, ?_⟩; conv => whnf)))
    refine compW_pure (f := cTup) (v := fun c => W.bl (decide (clauseL ls c ∈ cs))) trivial cs [] (by rw [sizeLine_eq]; simp; omega) (fun c hm R' q' => ?_) ?_
    · refine p_of_clause t (hc c hm).mem (hc c hm).nd ?_
      conv => whnf
      refine in_cDict ?_
      have : decide (clauseL ls c ∈ dedX [] cs) = decide (clauseL ls c ∈ cs) := decide_eq_decide.mpr (by rw [dedX_mem]; simp)
      rw [this, fbne]
      exact q'
    · rw [List.nil_append, show (cs.map fun c => W.bl (decide (clauseL ls c ∈ cs))) = (cs.map fun c => decide (clauseL ls c ∈ cs)).map W.bl by rw [List.map_map]; rfl]
      unfold fBols
      rw [blsOf_map]
      dsimp only
      rw [show ((cs.map fun c => decide (clauseL ls c ∈ cs)).all fun b => b) = cs.all fun c => decide (clauseL ls c ∈ cs) by rw [List.all_map]; rfl]
      exact ret q
  · have ht : turnB many w = false := by simpa using ht
    rw [ht] at q ⊢
    exact ret q
end WS
set_option Elab.async false
set_option linter.all false
set_option maxRecDepth 100000
set_option maxHeartbeats 4000000
namespace WS
open PySem PySem.Spec PyProof.Rows L2 WL
/-! ### _law_led -/
abbrev N__law_led : List Str := ["turn", "clause", "letter"]
structure P__law_led (ws : List W) (G : GH) (R : KW) (RX : XW) : Prop where
  ex : ∃ (many : Int) (ls c : List Int), ws = [cTup ls, cTup c] ∧ (TurnOf many ls) ∧ (∀ l ∈ c, LetOf many l) ∧ (c.length ≤ 2000) ∧ (R (cTup (clauseL ls c)) G)
theorem len__law_led : ∀ ws G R RX, P__law_led ws G R RX → ws.length = ["turn", "clause"].length := by
  rintro ws G R RX ⟨⟨_, _, _, rfl, _, _, _, _⟩⟩; rfl
theorem p__law_led {many : Int} {ls c : List Int} {G : GH} {R : KW} {RX : XW} (t : TurnOf many ls) (hc : ∀ l ∈ c, LetOf many l) (hl : c.length ≤ 2000) (q : R (cTup (clauseL ls c)) G) : P__law_led [cTup ls, cTup c] G R RX := ⟨many, ls, c, rfl, t, hc, hl, q⟩
def T__law_led : TWS :=
  (sRet (tCW toTupW (tCo (tFz (tSortAbsW (tFz (tComp (tISeq (tV 1)) (gN 2) tYesW (tCall0 P__law_goes [] (tCo (tV 0) (tCo (tV 2) tN))) [2])))) tN)))
theorem rd__law_led (ws : List W) (G : GH) (R : KW) (RX : XW) (h : P__law_led ws G R RX) : T__law_led { nx := fun _ G' => fgt R .non G', rt := fgt R } (startW N__law_led ws) G := by
  obtain ⟨many, ls, c, rfl, t, hc, hl, q⟩ := h
  (try conv => whnf); (repeat (first | (refine Exists.intro _ (And.intro rfl ?_); conv => whnf) | (refine And.intro rfl ?_; conv => whnf) | (refine frz_lst ?_; conv => whnf) | (refine frz_dK ?_; conv => whnf) | (refine frz_dT ?_; conv => whnf) | (refine ⟨by (try simp only [List.length_cons, List.length_nil, List.length_map, List.length_append, List.length_drop, List.length_take, sizeLine_eq]); omega, ?_⟩; conv => whnf)))
  refine compW_pure (f := W.int) (v := fun l => W.int (goI ls l)) trivial c [] (by rw [sizeLine_eq]; simp; omega) (fun l hm R' q' => ?_) ?_
  · exact p__law_goes t (hc l hm) q'
  rw [List.nil_append, show (c.map fun l => W.int (goI ls l)) = (c.map (goI ls)).map W.int by rw [List.map_map]; rfl]
  (try conv => whnf); (repeat (first | (refine Exists.intro _ (And.intro rfl ?_); conv => whnf) | (refine And.intro rfl ?_; conv => whnf) | (refine frz_lst ?_; conv => whnf) | (refine frz_dK ?_; conv => whnf) | (refine frz_dT ?_; conv => whnf) | (refine ⟨by (try simp only [List.length_cons, List.length_nil, List.length_map, List.length_append, List.length_drop, List.length_take, sizeLine_eq]); omega, ?_⟩; conv => whnf)))
  rw [show intsIn (.fl ((c.map (goI ls)).map W.int)) G = some (c.map (goI ls)) from intsOf_map _]
  refine frz_lst ?_
  exact ret q
/-! ### _law_closed -/
abbrev N__law_closed : List Str := ["clauses", "makers", "bound", "found", "clause", "line", "maker", "other"]
structure P__law_closed (ws : List W) (G : GH) (R : KW) (RX : XW) : Prop where
  ex : ∃ (many bound : Int) (cs ms : List (List Int)), ws = [.fl (cs.map cTup), .fl (ms.map cTup), .int bound] ∧ (∀ c ∈ cs, ClauseOf many c) ∧ (0 ≤ many ∧ many ≤ 400) ∧ (∀ t ∈ ms, TurnOf many t) ∧ (bound ≤ 100000) ∧ (cs.length ≤ 100000) ∧ (ms.length ≤ 100000) ∧ (∀ ds : List (List Int), ds.Nodup → (∀ d ∈ ds, ClauseOf many d) → (ds = [] ∨ (ds.length : Int) ≤ bound) → ds.Pairwise (· ≤ ·) → R (.fl (ds.map cTup)) G)
theorem len__law_closed : ∀ ws G R RX, P__law_closed ws G R RX → ws.length = ["clauses", "makers", "bound"].length := by
  rintro ws G R RX ⟨⟨_, _, _, _, rfl, _, _, _, _, _, _, _⟩⟩; rfl
theorem p__law_closed {many bound : Int} {cs ms : List (List Int)} {G : GH} {R : KW} {RX : XW} (hc : ∀ c ∈ cs, ClauseOf many c) (h400 : 0 ≤ many ∧ many ≤ 400) (hm : ∀ t ∈ ms, TurnOf many t) (hb : bound ≤ 100000) (hl : cs.length ≤ 100000) (hml : ms.length ≤ 100000) (q : ∀ ds : List (List Int), ds.Nodup → (∀ d ∈ ds, ClauseOf many d) → (ds = [] ∨ (ds.length : Int) ≤ bound) → ds.Pairwise (· ≤ ·) → R (.fl (ds.map cTup)) G) : P__law_closed [.fl (cs.map cTup), .fl (ms.map cTup), .int bound] G R RX := ⟨many, bound, cs, ms, rfl, hc, h400, hm, hb, hl, hml, q⟩
def T__law_closed : TWS :=
  (sSeq (sSet 3 (tCF fDictT (tCompI (tISeq (tV 0)) (gN 4) tYesW (tTupW (tCo (tV 4) (tCo (tK (.bl true)) tN))) [4])))
    (sSeq (sSet 5 (tCW toListTW (tCo (tV 3) tN)))
    (sSeq (sWhile (tAndW (tTestW (tOpW (eqQ true) (tV 5) (tFz (tLstW tN)))) (tTestW (tOpW leW (tCW lenQ (tCo (tV 3) tN)) (tV 2)))) (sSeq (sSet 4 (tMetL popW (tV 5) tN))
    (sFor (tISeq (tV 1)) (gN 6) (sSeq (sSet 7 (tCall0 P__law_led [] (tCo (tV 6) (tCo (tV 4) tN))))
    (sIf (tTestW (tOpW (inQ true) (tV 7) (tV 3))) (sSeq (sAsg (tK (.bl true)) (gSubW (tV 3) (tV 7) setQ))
    (sDrop (tMetL appendW (tV 5) (tCo (tV 7) tN)))) sNext)))))
    (sRet (tIfE (tTestW (tOpW leW (tCW lenQ (tCo (tV 3) tN)) (tV 2))) (tFz (tCW sortedT (tCo (tV 3) tN))) (tFz (tLstW tN)))))))
theorem rd__law_closed (ws : List W) (G : GH) (R : KW) (RX : XW) (h : P__law_closed ws G R RX) : T__law_closed { nx := fun _ G' => fgt R .non G', rt := fgt R } (startW N__law_closed ws) G := by
  obtain ⟨many, bound, cs, ms, rfl, hc, h400, hm, hb, hl, hml, q⟩ := h
  (try conv => whnf); (repeat (first | (refine Exists.intro _ (And.intro rfl ?_); conv => whnf) | (refine And.intro rfl ?_; conv => whnf) | (refine frz_lst ?_; conv => whnf) | (refine frz_dK ?_; conv => whnf) | (refine frz_dT ?_; conv => whnf) | (refine ⟨by (try simp only [List.length_cons, List.length_nil, List.length_map, List.length_append, List.length_drop, List.length_take, sizeLine_eq]); omega, ?_⟩; conv => whnf)))
  refine compW_pure (f := cTup) (v := fun c => W.tup [cTup c, .bl true]) trivial cs [] (by rw [sizeLine_eq]; simp; omega) (fun c hm R' q' => by (try conv => whnf); (repeat (first | (refine Exists.intro _ (And.intro rfl ?_); conv => whnf) | (refine And.intro rfl ?_; conv => whnf) | (refine frz_lst ?_; conv => whnf) | (refine frz_dK ?_; conv => whnf) | (refine frz_dT ?_; conv => whnf) | (refine ⟨by (try simp only [List.length_cons, List.length_nil, List.length_map, List.length_append, List.length_drop, List.length_take, sizeLine_eq]); omega, ?_⟩; conv => whnf))); exact q') ?_
  rw [List.nil_append]
  unfold fDictT
  rw [pairsT_cs]
  dsimp only
  rw [mergeT_ded]
  intro d hd
  conv => whnf
  rw [show keysTIn (.ref d) (updG G d (.dT (cDict (dedX [] cs)))) = some ((dedX [] cs).map cTup) by
    unfold keysTIn
    dsimp only
    rw [updG_same]
    dsimp only
    rw [List.map_map]
    congr 1
    exact List.map_congr_left fun c _ => ktup_kI c]
  dsimp only
  intro l hl'
  have ld : l ≠ d := fun e => by rw [e, updG_same] at hl'; cases hl'
  have dl : d ≠ l := ld.symm
  have hlG : G l = none := by rw [updG_ne ld] at hl'; exact hl'
  rw [cst_mk]
  have f0 := dedX_len cs ([] : List (List Int))
  rw [List.length_nil, Nat.zero_add] at f0
  conv => whnf
  refine ⟨fun m S G' => ∃ (fs ks : List (List Int)) (x4 x6 x7 : Option W), S = [some (.fl (cs.map cTup)), some (.fl (ms.map cTup)), some (.int bound), some (.ref d), x4, some (.ref l), x6, x7] ∧ G' = cst G d l fs ks ∧ fs.Nodup ∧ (∀ c ∈ fs, ClauseOf many c) ∧ (∀ c ∈ ks, ClauseOf many c) ∧ fs.length ≤ bound.toNat + cs.length + ms.length ∧ ks.length ≤ fs.length ∧ m = ks.length + 2 * (bound.toNat + cs.length + ms.length - fs.length), ⟨_, dedX [] cs, dedX [] cs, none, none, none, rfl, rfl, dedX_nodup _ _ .nil, fun c hm => ?_, fun c hm => ?_, by omega, Nat.le_refl _, rfl⟩, ?_⟩
  · rw [dedX_mem] at hm
    exact hc c (hm.resolve_left (by simp))
  · rw [dedX_mem] at hm
    exact hc c (hm.resolve_left (by simp))
  rintro m S G' ⟨fs, ks, x4, x6, x7, rfl, rfl, nd, hf, hk, hB, hle, rfl⟩
  have ext : ExtG G (cst G d l fs ks) := cst_ext hd hlG
  -- at the end
  have done : ∀ (x4 x6 x7 : Option W), tIfE (tTestW (tOpW leW (tCW lenQ (tCo (tV 3) tN)) (tV 2))) (tFz (tCW sortedT (tCo (tV 3) tN))) (tFz (tLstW tN)) [some (.fl (cs.map cTup)), some (.fl (ms.map cTup)), some (.int bound), some (.ref d), x4, some (.ref l), x6, x7] (cst G d l fs ks) (fgt R) := fun x4 x6 x7 => by
    conv => whnf
    rw [cst_d dl]
    conv => whnf
    by_cases hb2 : ((cDict fs).length : Int) ≤ bound
    · rw [decide_eq_true hb2]
      conv => whnf
      rw [show tupsIn (.ref d) (cst G d l fs ks) = some fs by
        unfold tupsIn
        dsimp only
        rw [cst_d dl]
        exact tups_dict fs]
      conv => whnf
      refine ⟨fun b hb3 => ?_, ?_⟩
      · have := (hf b hb3).len h400.1
        rw [sizeLine_eq]; omega
      refine frz_lst ?_
      refine ret_ext ext (q _ ((byTup_perm fs).nodup_iff.mpr nd) (fun c hm => hf c ((byTup_perm fs).mem_iff.mp hm)) (.inr ?_) (byTup_pw fs))
      rw [(byTup_perm fs).length_eq]
      rwa [List.length_map] at hb2
    · rw [decide_eq_false hb2]
      conv => whnf
      refine ⟨by decide, frz_lst ?_⟩
      exact ret_ext ext (q [] .nil (fun c hm => by cases hm) (.inl rfl) .nil)
  conv => whnf
  refine ⟨by decide, frz_lst ?_⟩
  refine eq_rTups (cs := []) cst_l ?_
  by_cases hk0 : ks = []
  · rw [decide_eq_true hk0]
    conv => whnf
    exact done x4 x6 x7
  rw [decide_eq_false hk0]
  conv => whnf
  rw [cst_d dl]
  conv => whnf
  by_cases hb2 : ((cDict fs).length : Int) ≤ bound
  rotate_left
  · rw [decide_eq_false hb2]
    conv => whnf
    exact done x4 x6 x7
  rw [decide_eq_true hb2]
  rw [List.length_map] at hb2
  conv => whnf
  obtain ⟨k0, c, rfl⟩ : ∃ k0 c, ks = k0 ++ [c] := ⟨ks.dropLast, ks.getLast hk0, (List.dropLast_concat_getLast hk0).symm⟩
  have hcc : ClauseOf many c := hk c (by simp)
  have hk1 : ∀ k ∈ k0, ClauseOf many k := fun k h => hk k (by simp [h])
  rw [List.length_append, List.length_singleton] at hle
  refine ⟨recL_lst cst_l, ?_⟩
  conv => whnf
  rw [cst_l]
  conv => whnf
  refine ⟨cTup c, by simp, ?_⟩
  rw [show (List.map cTup (k0 ++ [c])).dropLast = k0.map cTup by simp, cst_setl]
  refine forW_map (f := cTup) (I := fun xs S G' => ∃ (fs' ks' : List (List Int)) (x6 x7 : Option W), S = [some (.fl (cs.map cTup)), some (.fl (ms.map cTup)), some (.int bound), some (.ref d), some (cTup c), some (.ref l), x6, x7] ∧ G' = cst G d l fs' ks' ∧ fs'.Nodup ∧ (∀ c ∈ fs', ClauseOf many c) ∧ (∀ c ∈ ks', ClauseOf many c) ∧ fs'.length + xs.length ≤ bound.toNat + cs.length + ms.length ∧ ks'.length ≤ fs'.length ∧ ks'.length + 2 * (bound.toNat + cs.length + ms.length - fs'.length) ≤ k0.length + 2 * (bound.toNat + cs.length + ms.length - fs.length) ∧ (∀ x ∈ xs, TurnOf many x)) ?_ ?_ _ _ _ ?_
  rotate_left
  · rintro S G' ⟨fs', ks', x6, x7, rfl, rfl, nd', hf', hk', hB', hle', hme, _⟩
    refine ⟨trivial, ?_⟩
    exact ⟨_, by rw [List.length_append, List.length_singleton]; omega, fs', ks', _, _, _, rfl, rfl, nd', hf', hk', by simpa using hB', hle', rfl⟩
  · exact ⟨fs, k0, x6, x7, rfl, rfl, nd, hf, hk1, by omega, by omega, Nat.le_refl _, hm⟩
  rintro t ts S G' ⟨fs', ks', x6, x7, rfl, rfl, nd', hf', hk', hB', hle', hme, ht⟩ N hN
  rw [List.length_cons] at hB'
  refine ⟨trivial, ?_⟩
  conv => whnf
  have tt := ht t List.mem_cons_self
  refine p__law_led tt hcc.mem (by have := hcc.len h400.1; omega) ?_
  conv => whnf
  refine in_rDict (cst_d dl) ?_
  by_cases hin : clauseL t c ∈ fs'
  · rw [decide_eq_true hin]
    conv => whnf
    exact hN _ _ ⟨fs', ks', _, _, rfl, rfl, nd', hf', hk', by omega, hle', hme, fun x hx => ht x (List.mem_cons_of_mem _ hx)⟩
  rw [decide_eq_false hin]
  conv => whnf
  rw [cst_d dl]
  conv => whnf
  rw [keysOf_ints]
  conv => whnf
  refine ⟨by rw [List.length_map, sizeLine_eq]; omega, ?_⟩
  rw [put_ded (k := kI) ki_inj, show addX fs' (clauseL t c) = fs' ++ [clauseL t c] by unfold addX; rw [if_neg hin], cst_setd dl]
  conv => whnf
  refine ⟨recL_lst cst_l, ?_⟩
  conv => whnf
  rw [cst_l]
  conv => whnf
  refine ⟨by rw [List.length_map, sizeLine_eq]; omega, ?_⟩
  rw [show ks'.map cTup ++ [cTup (clauseL t c)] = (ks' ++ [clauseL t c]).map cTup by rw [List.map_append]; rfl, cst_setl]
  refine hN _ _ ⟨fs' ++ [clauseL t c], ks' ++ [clauseL t c], _, _, rfl, rfl, ?_, ?_, ?_, ?_, ?_, ?_, fun x hx => ht x (List.mem_cons_of_mem _ hx)⟩
  · rw [List.nodup_append]
    exact ⟨nd', by simp, fun a ha b hb => by rw [List.mem_singleton.mp hb]; rintro rfl; exact hin ha⟩
  · intro x hx
    rcases List.mem_append.mp hx with hx | hx
    · exact hf' x hx
    · rw [List.mem_singleton.mp hx]; exact hcc.img tt
  · intro x hx
    rcases List.mem_append.mp hx with hx | hx
    · exact hk' x hx
    · rw [List.mem_singleton.mp hx]; exact hcc.img tt
  · rw [List.length_append, List.length_singleton]; omega
  · rw [List.length_append, List.length_append, List.length_singleton]; omega
  · rw [List.length_append, List.length_append, List.length_singleton]; omega
/-! ### _law_fits -/
abbrev N__law_fits : List Str := ["clauses", "one", "clause"]
structure P__law_fits (ws : List W) (G : GH) (R : KW) (RX : XW) : Prop where
  ex : ∃ (many : Int) (cs : List (List Int)) (ls : List Int), ws = [.fl (cs.map cTup), cTup ls] ∧ (∀ c ∈ cs, ClauseOf many c) ∧ (cs.length ≤ 100000) ∧ (TurnOf many ls) ∧ (R (.bl (cs.all fun c => decide (clauseL ls c ∈ cs))) G)
theorem len__law_fits : ∀ ws G R RX, P__law_fits ws G R RX → ws.length = ["clauses", "one"].length := by
  rintro ws G R RX ⟨⟨_, _, _, rfl, _, _, _, _⟩⟩; rfl
theorem p__law_fits {many : Int} {cs : List (List Int)} {ls : List Int} {G : GH} {R : KW} {RX : XW} (hc : ∀ c ∈ cs, ClauseOf many c) (hl : cs.length ≤ 100000) (t : TurnOf many ls) (q : R (.bl (cs.all fun c => decide (clauseL ls c ∈ cs))) G) : P__law_fits [.fl (cs.map cTup), cTup ls] G R RX := ⟨many, cs, ls, rfl, hc, hl, t, q⟩
def T__law_fits : TWS :=
  (sRet (tOpW (eqQ false) (tFz (tComp (tISeq (tV 0)) (gN 2) (tTestW (tOpW (inQ true) (tCall0 P__law_led [] (tCo (tV 1) (tCo (tV 2) tN))) (tV 0))) (tV 2) [2])) (tFz (tLstW tN))))
theorem rd__law_fits (ws : List W) (G : GH) (R : KW) (RX : XW) (h : P__law_fits ws G R RX) : T__law_fits { nx := fun _ G' => fgt R .non G', rt := fgt R } (startW N__law_fits ws) G := by
  obtain ⟨many, cs, ls, rfl, hc, hl, t, q⟩ := h
  conv => whnf
  refine compW_pureF (f := cTup) (v := cTup) (keep := fun c => !decide (clauseL ls c ∈ cs)) trivial cs [] (by rw [sizeLine_eq]; simp; omega) (fun c hm R' N' h1 h2 => ?_) ?_
  · conv => whnf
    refine p__law_led t (hc c hm).mem (by have := (hc c hm).len (by have := t.h0; omega); have := t.h4; omega) ?_
    conv => whnf
    refine in_fTups ?_
    rw [tbne]
    cases e : decide (clauseL ls c ∈ cs) with
    | true => exact h2 (by rw [e]; rfl)
    | false => exact h1 (by rw [e]; rfl)
  rw [List.nil_append]
  refine frz_lst ?_
  conv => whnf
  refine ⟨by decide, frz_lst ?_⟩
  refine eq_fTups (cs := []) ?_
  have : decide ((cs.filter fun c => !decide (clauseL ls c ∈ cs)) = []) = cs.all fun c => decide (clauseL ls c ∈ cs) := by
    rw [Bool.eq_iff_iff, decide_eq_true_iff, List.filter_eq_nil_iff, List.all_eq_true]
    exact ⟨fun h c hm => by simpa using h c hm, fun h c hm => by simpa using h c hm⟩
  rw [this, fbne]
  exact ret q
end WS
set_option Elab.async false
set_option linter.all false
set_option maxRecDepth 100000
set_option maxHeartbeats 4000000
/-! WL, part kh: a list's item by a truth value. -/
namespace WL
open PySem PySem.Spec PyProof PyProof.Rows L2 PySem.W
section
variable {M : Model} {A : Around} {E : Value → Shared → Prop} {s : Shared}
theorem listSubscript_bool {b : Bool} {Q : Option Int → Shared → Prop} (h : Q (some (if b then 1 else 0)) s) : wpAny M A (Builtin.List.listSubscript? (.bool b)) Q E s := by
  unfold Builtin.List.listSubscript?
  refine wpAny_bind (wpAny_specialOf (T := "bool") (PySem.typeIs_bool s b) PySem.F.slot_bool_index.lookup ?_)
  show wpAny M A (asIndex (.bool b) >>= _) Q E s
  refine wpAny_bind (wpAny_of_eq (a := if b then 1 else 0) (by cases b <;> rfl) ?_)
  rw [if_neg (by cases b <;> decide)]
  exact wpAny_pure h
end
section
variable {prog : Program} {w : World} {A : Around} {E : Value → Shared → Prop} {s : Shared}
theorem getItem_listB {l : Addr} {items : Array Value} {b : Bool} {x : Value} {Q : Value → Shared → Prop} (hl : s.heap.IsList l items)
    (hx : items[b.toNat]? = some x) (h : Q x s) : wpAny (model prog w) A (getItem (.ref l) (.bool b)) Q E s := by
  obtain ⟨o, ho, hc, ne, hd⟩ := id hl
  unfold getItem
  try with_reducible refine wpAny_holding ?_
  first | refine wpAny_bind (wpAny_pure ?_) | skip
  refine wpAny_bind (wpAny_sequenceKey hl.typeIs (by decide) ?_)
  refine wpAny_bind (wpAny_callSpecial?_slot (name := Str.ofString "__getitem__") hl.typeIs slot_list_getitem
    (wpAny_call_entry slot_list_getitem hl.typeIs entry_list_getitem ?_ (args_list_getitem _ _)))
  show wpAny _ _ (Builtin.List.listSubscript? (.bool b) >>= _) _ _ s
  refine wpAny_bind (listSubscript_bool ?_)
  have e : (if b then (1 : Int) else 0) = ((b.toNat : Nat) : Int) := by cases b <;> rfl
  rw [e]
  show wpAny _ _ ((seqItemAt l b.toNat >>= fun r => pure (r.map (b.toNat, ·))) >>= _) _ _ s
  refine wpAny_bind (wpAny_bind (wpAny_seqItemAt ho hd (wpAny_pure ?_)))
  rw [hx]
  first
    | exact wpAny_bind (wpAny_pure (wpAny_pure ⟨x, rfl, wpAny_pure h⟩))
    | exact wpAny_pure ⟨x, rfl, wpAny_pure h⟩
end
section
variable {X : Cx} {Z : GH × Hp} {a b : Expr} {Ta Tb : TW} {pos : Pos}
theorem ix_listB : IxR X (fun x y H Q => ∃ p xs b v, x = .ref p ∧ y = .bl b ∧ SqL X.K H p xs ∧ xs[b.toNat]? = some v ∧ Q v H) := by
  intro value slice pins s σ H x y v u Q I rx ry h hs
  obtain ⟨p, xs, b, z, rfl, rfl, hq, he, q⟩ := h
  cases rx
  cases ry
  obtain ⟨its, r, pl, hz⟩ := I.list hq
  obtain ⟨w, ew, rw'⟩ := r.get he
  have fin : EP X pins σ Q w s := ⟨z, H, I, rw', q⟩
  exact subscriptTail_builtinR (x := w) pl.isList.typeIs slot_list_getitem.lookup
    (getItem_listB (Q := fun r s' => r = w ∧ EP X pins σ Q r s') pl.isList (by simpa using ew) ⟨rfl, fin⟩) hs
/-- xs[c], c a truth value -/
def ixB : R2W := fun w1 w2 G R => match w1, w2 with
  | .fl xs, .bl b => ∃ w, xs[b.toNat]? = some w ∧ R w G
  | _, _ => False
theorem ix_B : IxR X (l2 X.K ixB) := by
  intro value slice pins s σ H x y v u Q I rx ry h' hs
  obtain ⟨w1, w2, G, R, r1, r2, rh, t, k⟩ := h'
  cases w1 with
  | fl xs =>
    cases w2 with
    | bl b =>
      cases r2
      obtain ⟨w, e, t⟩ := (show ∃ w, xs[b.toNat]? = some w ∧ R w G from t)
      cases r1 with
      | fl q rs =>
        obtain ⟨z, e2, rz⟩ := rs.get e
        exact ix_listB value slice pins s σ H _ _ v u Q I rx ry ⟨_, _, b, z, rfl, rfl, q.seq, e2, k.here t rz rh⟩ hs
    | _ => exact (show False from t).elim
  | _ => exact (show False from t).elim
theorem we_ixB (ha : WE X Z a Ta) (hb : WE X Z b Tb) (hs : PlainIx b := by intro _ _; rfl) : WE X Z (.Subscript a b pos) (tOpW ixB Ta Tb) := (pe_ix ix_B ha hb hs).weak lf2
end
end WL
set_option Elab.async false
set_option linter.all false
set_option maxRecDepth 100000
set_option maxHeartbeats 4000000
namespace WS
open PySem PySem.Spec PyProof.Rows L2 WL
theorem clause_inc {m : Int} {c : List Int} (h : ∀ l ∈ c, 1 ≤ l ∧ l ≤ m) (up : c.Pairwise (· < ·)) : ClauseOf m c := by
  have e : ∀ l ∈ c, absI l = l := fun l hl => by have := h l hl; unfold absI; rw [if_neg (by omega)]
  refine ⟨fun l hl => LetOf.ofPos (h l hl).1 (h l hl).2, ?_, up.imp_of_mem fun {a b} ha hb hab => by rw [e a ha, e b hb]; omega⟩
  unfold absL
  rw [List.Nodup, List.pairwise_map]
  exact up.imp_of_mem fun {a b} ha hb hab => by rw [e a ha, e b hb]; omega
/-! ### _law_holes -/
abbrev N__law_holes : List Str := ["guests", "holes", "clauses", "guest", "hole", "other"]
structure P__law_holes (ws : List W) (G : GH) (R : KW) (RX : XW) : Prop where
  ex : ∃ (g h : Int), ws = [.int g, .int h] ∧ ((g = 2 ∧ h = 2) ∨ (g = 3 ∧ h = 2) ∨ (g = 2 ∧ h = 3)) ∧ (∀ cs : List (List Int), (∀ c ∈ cs, ClauseOf (g * h) c) → cs.length ≤ 60 → R (.fl (cs.map cTup)) G)
theorem len__law_holes : ∀ ws G R RX, P__law_holes ws G R RX → ws.length = ["guests", "holes"].length := by
  rintro ws G R RX ⟨⟨_, _, rfl, _, _⟩⟩; rfl
theorem p__law_holes {g h : Int} {G : GH} {R : KW} {RX : XW} (hgh : (g = 2 ∧ h = 2) ∨ (g = 3 ∧ h = 2) ∨ (g = 2 ∧ h = 3)) (q : ∀ cs : List (List Int), (∀ c ∈ cs, ClauseOf (g * h) c) → cs.length ≤ 60 → R (.fl (cs.map cTup)) G) : P__law_holes [.int g, .int h] G R RX := ⟨g, h, rfl, hgh, q⟩
def T__law_holes : TWS :=
  (sSeq (sSet 2 (tComp (tIRng1 (tCo (tV 0) tN)) (gN 3) tYesW (tCF fTup (tCompI (tIRng1 (tCo (tV 1) tN)) (gN 4) tYesW (tOpW addW (tOpW addW (tOpW mulW (tV 3) (tV 1)) (tV 4)) (tK (.int 1))) [4])) [3]))
    (sSeq (sFor (tIRng1 (tCo (tV 1) tN)) (gN 4) (sFor (tIRng1 (tCo (tV 0) tN)) (gN 3) (sFor (tIRng1 (tCo (tV 3) tN)) (gN 5) (sDrop (tMetL appendW (tV 2) (tCo (tTupW (tCo (tNegW (tOpW addW (tOpW addW (tOpW mulW (tV 5) (tV 1)) (tV 4)) (tK (.int 1)))) (tCo (tNegW (tOpW addW (tOpW addW (tOpW mulW (tV 3) (tV 1)) (tV 4)) (tK (.int 1)))) tN))) tN))))))
    (sRet (tFz (tV 2)))))
theorem rd__law_holes (ws : List W) (G : GH) (R : KW) (RX : XW) (h : P__law_holes ws G R RX) : T__law_holes { nx := fun _ G' => fgt R .non G', rt := fgt R } (startW N__law_holes ws) G := by
  obtain ⟨g, h, rfl, hgh, q⟩ := h
  have hg2 : 2 ≤ g ∧ g ≤ 3 := by omega
  have hh2 : 2 ≤ h ∧ h ≤ 3 := by omega
  conv => whnf
  refine ⟨by omega, by omega, ?_⟩
  refine compW_pure (f := fun k : Nat => W.int (0 + (k : Int))) (v := fun k : Nat => cTup ((List.range h.toNat).map fun j : Nat => ((0 + (k : Int)) * h + (0 + (j : Int)) + 1))) trivial (List.range _) [] (by rw [sizeLine_eq, List.length_range]; simp; omega) (fun x hx R' q' => ?_) ?_
  · conv => whnf
    refine ⟨by omega, by omega, ?_⟩
    refine compW_pure (f := fun k : Nat => W.int (0 + (k : Int))) (v := fun j : Nat => W.int ((0 + (x : Int)) * h + (0 + (j : Int)) + 1)) trivial (List.range _) [] (by rw [sizeLine_eq, List.length_range]; simp; omega) (fun j hj R' q' => ?_) ?_
    · conv => whnf
      refine ⟨cmul_r (by omega) (by omega), ?_⟩
      exact q'
    · rw [List.nil_append]
      unfold fTup
      rw [show ((List.range h.toNat).map fun j : Nat => W.int ((0 + (x : Int)) * h + (0 + (j : Int)) + 1)) = ((List.range h.toNat).map fun j : Nat => ((0 + (x : Int)) * h + (0 + (j : Int)) + 1)).map W.int by rw [List.map_map]; rfl]
      exact q'
  rw [List.nil_append]
  intro p hp
  obtain ⟨cs0, e0, hc0, hl0⟩ : ∃ cs0 : List (List Int), ((List.range g.toNat).map fun k : Nat => cTup ((List.range h.toNat).map fun j : Nat => ((0 + (k : Int)) * h + (0 + (j : Int)) + 1))) = cs0.map cTup ∧ (∀ c ∈ cs0, ClauseOf (g * h) c) ∧ cs0.length ≤ 3 := by
    refine ⟨(List.range g.toNat).map fun k : Nat => (List.range h.toNat).map fun j : Nat => ((0 + (k : Int)) * h + (0 + (j : Int)) + 1), by rw [List.map_map]; rfl, fun c hc => ?_, by rw [List.length_map, List.length_range]; omega⟩
    obtain ⟨k, hk, rfl⟩ := List.mem_map.mp hc
    rw [List.mem_range] at hk
    refine clause_inc (fun l hl => ?_) ?_
    · obtain ⟨j, hj, rfl⟩ := List.mem_map.mp hl
      rw [List.mem_range] at hj
      rcases hgh with ⟨rfl, rfl⟩ | ⟨rfl, rfl⟩ | ⟨rfl, rfl⟩ <;> omega
    · rw [List.pairwise_map]
      exact List.pairwise_lt_range.imp fun {a b} hab => by omega
  rw [e0]
  conv => whnf
  refine ⟨by omega, by omega, ?_⟩
  refine forW_map (f := fun k : Nat => W.int (0 + (k : Int))) (I := fun xs S G' => ∃ (cs : List (List Int)) (x3 x4 x5 : Option W), S = [some (.int g), some (.int h), some (.ref p), x3, x4, x5] ∧ G' = updG G p (.lst (cs.map cTup)) ∧ (∀ c ∈ cs, ClauseOf (g * h) c) ∧ cs.length + 9 * xs.length ≤ 60 ∧ (∀ x ∈ xs, (x : Int) < h)) ?_ ?_ _ _ _ ?_
  rotate_left
  · rintro S G' ⟨cs, x3, x4, x5, rfl, rfl, hcs, hln, _⟩
    refine ⟨trivial, ?_⟩
    conv => whnf
    rw [updG_same]
    dsimp only
    rw [offG_upd hp]
    exact ret (q cs hcs (by simpa using hln))
  · refine ⟨cs0, _, _, _, rfl, rfl, hc0, by rw [List.length_range]; omega, fun x hx => ?_⟩
    rw [List.mem_range] at hx
    omega
  rintro hole xs S G' ⟨cs, x3, x4, x5, rfl, rfl, hcs, hln, hhole⟩ N hN
  rw [List.length_cons] at hln
  have hho := hhole hole List.mem_cons_self
  refine ⟨trivial, ?_⟩
  conv => whnf
  refine ⟨by omega, by omega, ?_⟩
  refine forW_map (f := fun k : Nat => W.int (0 + (k : Int))) (I := fun ys S G' => ∃ (cs : List (List Int)) (x3 x5 : Option W), S = [some (.int g), some (.int h), some (.ref p), x3, some (.int (0 + (hole : Int))), x5] ∧ G' = updG G p (.lst (cs.map cTup)) ∧ (∀ c ∈ cs, ClauseOf (g * h) c) ∧ cs.length + 3 * ys.length + 9 * xs.length ≤ 60 ∧ (∀ y ∈ ys, (y : Int) < g)) ?_ ?_ _ _ _ ?_
  rotate_left
  · rintro S G' ⟨cs, x3, x5, rfl, rfl, hcs, hln, _⟩
    exact ⟨trivial, hN _ _ ⟨cs, _, _, _, rfl, rfl, hcs, by simpa using hln, fun x hx => hhole x (List.mem_cons_of_mem _ hx)⟩⟩
  · refine ⟨cs, _, _, rfl, rfl, hcs, by rw [List.length_range]; omega, fun x hx => ?_⟩
    rw [List.mem_range] at hx
    omega
  rintro gu ys S G' ⟨cs, x3, x5, rfl, rfl, hcs, hln, hgu⟩ N2 hN2
  rw [List.length_cons] at hln
  have hgg := hgu gu List.mem_cons_self
  refine ⟨trivial, ?_⟩
  conv => whnf
  refine ⟨by omega, by omega, ?_⟩
  refine forW_map (f := fun k : Nat => W.int (0 + (k : Int))) (I := fun zs S G' => ∃ (cs : List (List Int)) (x5 : Option W), S = [some (.int g), some (.int h), some (.ref p), some (.int (0 + (gu : Int))), some (.int (0 + (hole : Int))), x5] ∧ G' = updG G p (.lst (cs.map cTup)) ∧ (∀ c ∈ cs, ClauseOf (g * h) c) ∧ cs.length + zs.length + 3 * ys.length + 9 * xs.length ≤ 60 ∧ (∀ z ∈ zs, z < gu)) ?_ ?_ _ _ _ ?_
  rotate_left
  · rintro S G' ⟨cs, x5, rfl, rfl, hcs, hln, _⟩
    exact ⟨trivial, hN2 _ _ ⟨cs, _, _, rfl, rfl, hcs, by simpa using hln, fun x hx => hgu x (List.mem_cons_of_mem _ hx)⟩⟩
  · refine ⟨cs, _, rfl, rfl, hcs, by rw [List.length_range]; omega, fun x hx => ?_⟩
    rw [List.mem_range] at hx
    omega
  rintro ot zs S G' ⟨cs, x5, rfl, rfl, hcs, hln, hot⟩ N3 hN3
  rw [List.length_cons] at hln
  have hoo := hot ot List.mem_cons_self
  refine ⟨trivial, ?_⟩
  conv => whnf
  refine ⟨recL_lst updG_same, ?_⟩
  conv => whnf
  refine ⟨cmul_r (by omega) (by omega), ?_⟩
  conv => whnf
  refine ⟨cmul_r (by omega) (by omega), ?_⟩
  conv => whnf
  refine ⟨sz2 _ _, ?_⟩
  conv => whnf
  rw [updG_same]
  conv => whnf
  refine ⟨by rw [List.length_map, sizeLine_eq]; omega, ?_⟩
  rw [updG_upd, show cs.map cTup ++ [W.tup [W.int (-((0 + (ot : Int)) * h + (0 + (hole : Int)) + 1)), W.int (-((0 + (gu : Int)) * h + (0 + (hole : Int)) + 1))]] = (cs ++ [[-((0 + (ot : Int)) * h + (0 + (hole : Int)) + 1), -((0 + (gu : Int)) * h + (0 + (hole : Int)) + 1)]]).map cTup by rw [List.map_append]; rfl]
  refine hN3 _ _ ⟨_, _, rfl, rfl, fun c hc => ?_, by rw [List.length_append, List.length_singleton]; omega, fun z hz => hot z (List.mem_cons_of_mem _ hz)⟩
  rcases List.mem_append.mp hc with hc | hc
  · exact hcs c hc
  rw [List.mem_singleton.mp hc]
  have key : ∀ a b : Int, 1 ≤ a → a < b → b ≤ g * h → ClauseOf (g * h) [-a, -b] := fun a b h1 h2 h3 => by
    refine ⟨fun l hl => ?_, ?_, ?_⟩
    · rcases List.mem_cons.mp hl with rfl | hl
      · exact (LetOf.ofPos h1 (by omega)).neg
      · rw [List.mem_singleton.mp hl]
        exact (LetOf.ofPos (by omega) h3).neg
    · unfold absL
      rw [List.map_cons, List.map_cons, absI_neg, absI_neg]
      unfold absI
      rw [if_neg (by omega), if_neg (by omega)]
      simp; omega
    · rw [List.pairwise_cons]
      refine ⟨fun l hl => ?_, List.pairwise_singleton _ _⟩
      rw [List.mem_singleton.mp hl, absI_neg, absI_neg]
      unfold absI
      rw [if_neg (by omega), if_neg (by omega)]; omega
  refine key _ _ ?_ ?_ ?_
  · rcases hgh with ⟨rfl, rfl⟩ | ⟨rfl, rfl⟩ | ⟨rfl, rfl⟩ <;> omega
  · rcases hgh with ⟨rfl, rfl⟩ | ⟨rfl, rfl⟩ | ⟨rfl, rfl⟩ <;> omega
  · rcases hgh with ⟨rfl, rfl⟩ | ⟨rfl, rfl⟩ | ⟨rfl, rfl⟩ <;> omega
/-! ### _law_drawn -/
abbrev N__law_drawn : List Str := ["draw", "low", "top", "way", "many", "wide", "clauses", "k", "makers", "guests", "holes", "half", "one", "letter", "clause"]
structure P__law_drawn (ws : List W) (G : GH) (R : KW) (RX : XW) : Prop where
  ex : ∃ (ns : List Int) (d : Addr) (low top : Int), ws = [.ref d, .int low, .int top] ∧ (1 ≤ low) ∧ (low ≤ top) ∧ (top ≤ 100) ∧ (Dr ns d G) ∧ (∀ (many : Int) (cs : List (List Int)) (G' : GH), 1 ≤ many → many ≤ top → (∀ c ∈ cs, ClauseOf many c) → cs.length ≤ 60 → Dr ns d G' → KeepG d G G' → R (.tup [.int many, .fl (cs.map cTup)]) G')
theorem len__law_drawn : ∀ ws G R RX, P__law_drawn ws G R RX → ws.length = ["draw", "low", "top"].length := by
  rintro ws G R RX ⟨⟨_, _, _, _, rfl, _, _, _, _, _⟩⟩; rfl
theorem p__law_drawn {ns : List Int} {d : Addr} {low top : Int} {G : GH} {R : KW} {RX : XW} (h1 : 1 ≤ low) (h2 : low ≤ top) (h3 : top ≤ 100) (D : Dr ns d G) (q : ∀ (many : Int) (cs : List (List Int)) (G' : GH), 1 ≤ many → many ≤ top → (∀ c ∈ cs, ClauseOf many c) → cs.length ≤ 60 → Dr ns d G' → KeepG d G G' → R (.tup [.int many, .fl (cs.map cTup)]) G') : P__law_drawn [.ref d, .int low, .int top] G R RX := ⟨ns, d, low, top, rfl, h1, h2, h3, D, q⟩
def T__law_drawn : TWS :=
  (sSeq (sAsg (tTupW (tCo (tCall0 P__law_next [] (tCo (tV 0) (tCo (tK (.int 8)) tN))) (tCo (tOpW addW (tV 1) (tCall0 P__law_next [] (tCo (tV 0) (tCo (tOpW addW (tOpW subW (tV 2) (tV 1)) (tK (.int 1))) tN)))) tN))) (gU 2 (gsC (gN 3) (gsC (gN 4) gsN))))
    (sSeq (sSet 5 (tOpW ixW (tFz (tLstW (tCo (tK (.int 3)) (tCo (tV 4) tN)))) (tCall0 P__law_next [] (tCo (tV 0) (tCo (tK (.int 2)) tN)))))
    (sSeq (sSet 6 (tFz (tComp (tIRng1 (tCo (tCall0 P__law_next [] (tCo (tV 0) (tCo (tK (.int 6)) tN))) tN)) (gN 7) tYesW (tCall0 P__law_clause [] (tCo (tV 0) (tCo (tV 4) (tCo (tV 5) tN)))) [7])))
    (sSeq (sSet 8 (tFz (tComp (tIRng1 (tCo (tOpW addW (tK (.int 1)) (tCall0 P__law_next [] (tCo (tV 0) (tCo (tK (.int 2)) tN)))) tN)) (gN 7) tYesW (tCall0 P__law_turn [] (tCo (tV 0) (tCo (tV 4) tN))) [7])))
    (sSeq (sIf (tAndW (tTestW (tOpW (eqQ false) (tV 3) (tK (.int 0)))) (tTestW (tOpW geW (tV 2) (tK (.int 4))))) (sSeq (sAsg (tOpW ixW (tFz (tLstW (tCo (tTupW (tCo (tK (.int 2)) (tCo (tK (.int 2)) tN))) (tCo (tTupW (tCo (tK (.int 3)) (tCo (tK (.int 2)) tN))) (tCo (tTupW (tCo (tK (.int 2)) (tCo (tK (.int 3)) tN))) tN))))) (tCall0 P__law_next [] (tCo (tV 0) (tCo (tIfE (tTestW (tOpW geW (tV 2) (tK (.int 6)))) (tK (.int 3)) (tK (.int 1))) tN)))) (gU 2 (gsC (gN 9) (gsC (gN 10) gsN))))
    (sRet (tTupW (tCo (tOpW mulW (tV 9) (tV 10)) (tCo (tCall0 P__law_holes [] (tCo (tV 9) (tCo (tV 10) tN))) tN))))) sNext)
    (sSeq (sIf (tAndW (tTestW (tOpW (eqQ false) (tV 3) (tK (.int 1)))) (tTestW (tOpW gtW (tV 4) (tK (.int 1))))) (sSeq (sSet 11 (tOpW fdivW (tV 4) (tK (.int 2))))
    (sSeq (sSet 6 (tFz (tComp (tIRng1 (tCo (tOpW addW (tK (.int 1)) (tCall0 P__law_next [] (tCo (tV 0) (tCo (tK (.int 3)) tN)))) tN)) (gN 7) tYesW (tCall0 P__law_clause [] (tCo (tV 0) (tCo (tV 11) (tCo (tK (.int 2)) tN)))) [7])))
    (sRet (tTupW (tCo (tV 4) (tCo (tFz (tOpW addW (tV 6) (tFz (tComp (tISeq (tV 6)) (gN 12) tYesW (tCF fTup (tCompI (tISeq (tV 12)) (gN 13) tYesW (tOpW addW (tV 13) (tOpW ixB (tFz (tLstW (tCo (tV 11) (tCo (tNegW (tV 11)) tN)))) (tOpW ltW (tV 13) (tK (.int 0))))) [13])) [12])))) tN)))))) sNext)
    (sSeq (sIf (tTestW (tOpW ltW (tV 3) (tK (.int 6)))) (sSet 6 (tCall0 P__law_closed [] (tCo (tV 6) (tCo (tV 8) (tCo (tK (.int 40)) tN))))) sNext)
    (sSeq (sIf (tTestW (tOpW (eqQ false) (tV 3) (tK (.int 6)))) (sSet 6 (tFz (tComp (tISeq (tV 6)) (gN 14) (tTestW (tOpW (eqQ true) (tV 14) (tTupW tN))) (tV 14) [14]))) sNext)
    (sRet (tTupW (tCo (tV 4) (tCo (tV 6) tN))))))))))))
theorem shift_clause {half many : Int} {c : List Int} (k : ClauseOf half c) (hh : 0 ≤ half) (hm : 2 * half ≤ many) : ClauseOf many (c.map fun l => l + if l < 0 then -half else half) := by
  have e : ∀ l ∈ c, absI (l + if l < 0 then -half else half) = absI l + half := fun l hl => by
    have := (k.mem l hl).1
    unfold absI at this ⊢
    split <;> split at this <;> (try split) <;> omega
  refine ⟨fun x hx => ?_, ?_, ?_⟩
  · obtain ⟨l, hl, rfl⟩ := List.mem_map.mp hx
    have h1 := (k.mem l hl).1
    have h2 := (k.mem l hl).2
    refine ⟨?_, ?_⟩ <;> rw [e l hl] <;> omega
  · unfold absL
    rw [List.map_map, List.Nodup, List.pairwise_map]
    have nd := k.nd
    unfold absL at nd
    rw [List.Nodup, List.pairwise_map] at nd
    exact nd.imp_of_mem fun {a b} ha hb hne z => hne (by have z : absI (a + if a < 0 then -half else half) = absI (b + if b < 0 then -half else half) := z; rw [e a ha, e b hb] at z; omega)
  · rw [List.pairwise_map]
    exact k.up.imp_of_mem fun {a b} ha hb h => by rw [e a ha, e b hb]; omega
theorem rd__law_drawn (ws : List W) (G : GH) (R : KW) (RX : XW) (h : P__law_drawn ws G R RX) : T__law_drawn { nx := fun _ G' => fgt R .non G', rt := fgt R } (startW N__law_drawn ws) G := by
  obtain ⟨ns, d, low, top, rfl, h1, h2, h3, D, q⟩ := h
  conv => whnf
  refine p__law_next (by decide) D fun way G2 w0 w1 D2 k2 => ?_
  conv => whnf
  refine p__law_next (by omega) D2 fun m5 G3 m0 m1 D3 k3 => ?_
  conv => whnf
  refine ⟨sz2 _ _, ?_⟩
  conv => whnf
  refine ⟨rfl, ?_⟩
  conv => whnf
  refine ⟨rfl, ?_⟩
  generalize em : low + m5 = many
  have h0 : 1 ≤ many := by omega
  have hmt : many ≤ top := by omega
  have h4 : many ≤ 400 := by omega
  conv => whnf
  refine ⟨sz2 _ _, frz_lst ?_⟩
  refine p__law_next (by decide) D3 fun r5 G5 r50 r51 D5 k5 => ?_
  have hw : ∃ wide : Int, 0 ≤ wide ∧ wide ≤ 400 ∧ L2.atI [W.int 3, W.int many] r5 = some (.int wide) := by
    rcases (show r5 = 0 ∨ r5 = 1 by omega) with rfl | rfl
    · exact ⟨3, by decide, by decide, rfl⟩
    · exact ⟨many, by omega, h4, rfl⟩
  obtain ⟨wide, wi0, wi1, wi⟩ := hw
  refine ⟨_, wi, ?_⟩
  conv => whnf
  refine p__law_next (by decide) D5 fun n6 G6 n60 n61 D6 k6 => ?_
  conv => whnf
  refine ⟨by omega, by omega, ?_⟩
  refine compW_draw (f := fun k : Nat => W.int (0 + (k : Int))) (g := cTup) (Pz := fun _ c => ClauseOf many c) (fun _ _ => trivial) (List.range _) [] G6 .refl D6 (by rw [sizeLine_eq, List.length_range]; simp; omega) (fun x _ G' R' _ D q' => p__law_clause h0 h4 wi0 (by omega) D fun c G'' hc _ D' k' => q' c G'' hc D' k') fun cs G7 hcs D7 k7 => ?_
  obtain ⟨hcl, hc⟩ := Paired.all2 hcs
  rw [List.length_range] at hcl
  rw [List.nil_append]
  refine frz_lst ?_
  conv => whnf
  refine p__law_next (by decide) D7 fun n8 G7b n80 n81 D7b k7b => ?_
  conv => whnf
  refine ⟨by omega, by omega, ?_⟩
  refine compW_draw (f := fun k : Nat => W.int (0 + (k : Int))) (g := cTup) (Pz := fun _ t => TurnOf many t) (fun _ _ => trivial) (List.range _) [] G7b .refl D7b (by rw [sizeLine_eq, List.length_range]; simp; omega) (fun x _ G' R' _ D q' => p__law_turn h0 h4 D fun ls G'' t D' k' => q' ls G'' t D' k') fun ms G8 hmms D8 k8 => ?_
  obtain ⟨hml, hms⟩ := Paired.all2 hmms
  rw [List.length_range] at hml
  rw [List.nil_append]
  refine frz_lst ?_
  have K8 : KeepG d G G8 := k2.trans (k3.trans (k5.trans (k6.trans (k7.trans (k7b.trans k8)))))
  conv => whnf
  by_cases hw0 : way = 0
  · subst hw0
    conv => whnf
    by_cases ht4 : top ≥ 4
    · rw [decide_eq_true ht4]
      conv => whnf
      refine ⟨sz2 _ _, ?_⟩
      conv => whnf
      refine ⟨sz2 _ _, ?_⟩
      conv => whnf
      refine ⟨sz2 _ _, ?_⟩
      conv => whnf
      refine ⟨sz3 _ _ _, frz_lst ?_⟩
      conv => whnf
      have fin : ∀ (r : Int) (G9 : GH) (g h : Int), (g = 2 ∧ h = 2) ∨ (g = 3 ∧ h = 2) ∨ (g = 2 ∧ h = 3) → g * h ≤ top → Dr ns d G9 → KeepG d G8 G9 → ∀ cs : List (List Int), (∀ c ∈ cs, ClauseOf (g * h) c) → cs.length ≤ 60 → R (.tup [.int (g * h), .fl (cs.map cTup)]) G9 := fun r G9 g h hgh hle D9 k9 cs hcs hcl => by
        refine q _ cs _ ?_ hle hcs hcl D9 (K8.trans k9)
        rcases hgh with ⟨rfl, rfl⟩ | ⟨rfl, rfl⟩ | ⟨rfl, rfl⟩ <;> decide
      by_cases ht6 : top ≥ 6
      · rw [decide_eq_true ht6]
        conv => whnf
        refine p__law_next (by decide) D8 fun r G9 r0 r1 D9 k9 => ?_
        have hgh : ∃ g h : Int, ((g = 2 ∧ h = 2) ∨ (g = 3 ∧ h = 2) ∨ (g = 2 ∧ h = 3)) ∧ g * h ≤ top ∧ L2.atI [W.tup [.int 2, .int 2], W.tup [.int 3, .int 2], W.tup [.int 2, .int 3]] r = some (.tup [.int g, .int h]) := by
          rcases (show r = 0 ∨ r = 1 ∨ r = 2 by omega) with rfl | rfl | rfl
          · exact ⟨2, 2, .inl ⟨rfl, rfl⟩, by omega, rfl⟩
          · exact ⟨3, 2, .inr (.inl ⟨rfl, rfl⟩), by omega, rfl⟩
          · exact ⟨2, 3, .inr (.inr ⟨rfl, rfl⟩), by omega, rfl⟩
        obtain ⟨g, h, hgh, hle, e⟩ := hgh
        refine ⟨_, e, ?_⟩
        conv => whnf
        refine ⟨rfl, ?_⟩
        conv => whnf
        refine ⟨rfl, ?_⟩
        conv => whnf
        refine ⟨cmul_r (by omega) (by omega), ?_⟩
        conv => whnf
        refine p__law_holes hgh fun hs hhc hhl => ?_
        conv => whnf
        refine ⟨sz2 _ _, ?_⟩
        exact ret (fin r G9 g h hgh hle D9 k9 hs hhc hhl)
      · rw [decide_eq_false ht6]
        conv => whnf
        refine p__law_next (by decide) D8 fun r G9 r0 r1 D9 k9 => ?_
        have e : L2.atI [W.tup [.int 2, .int 2], W.tup [.int 3, .int 2], W.tup [.int 2, .int 3]] r = some (.tup [.int 2, .int 2]) := by
          rcases (show r = 0 by omega) with rfl
          rfl
        refine ⟨_, e, ?_⟩
        conv => whnf
        refine ⟨rfl, ?_⟩
        conv => whnf
        refine ⟨rfl, ?_⟩
        conv => whnf
        refine ⟨cmul_r (by omega) (by omega), ?_⟩
        conv => whnf
        refine p__law_holes (.inl ⟨rfl, rfl⟩) fun hs hhc hhl => ?_
        conv => whnf
        refine ⟨sz2 _ _, ?_⟩
        exact ret (fin r G9 2 2 (.inl ⟨rfl, rfl⟩) (by omega) D9 k9 hs hhc hhl)
    · rw [decide_eq_false ht4]
      conv => whnf
      refine p__law_closed hc ⟨by omega, by omega⟩ hms (by decide) (by omega) (by omega) fun ds _ hds hdle _ => ?_
      have hdl : ds.length ≤ 60 := by
        rcases hdle with rfl | h
        · exact Nat.zero_le _
        · omega
      conv => whnf
      refine ⟨sz2 _ _, ?_⟩
      exact ret (q many ds _ h0 hmt hds hdl D8 K8)
  rw [decide_eq_false hw0]
  conv => whnf
  by_cases hw2 : way = 1
  · subst hw2
    conv => whnf
    by_cases hm1 : many > 1
    · rw [decide_eq_true hm1]
      conv => whnf
      refine ⟨.inl ⟨by decide, by decide⟩, ?_⟩
      dsimp only
      generalize eh : many / 2 = half
      conv => whnf
      have hh1 : 1 ≤ half := by omega
      have hh2 : 2 * half ≤ many := by omega
      refine p__law_next (by decide) D8 fun n9 G9 n90 n91 D9 k9 => ?_
      conv => whnf
      refine ⟨by omega, by omega, ?_⟩
      refine compW_draw (f := fun k : Nat => W.int (0 + (k : Int))) (g := cTup) (Pz := fun _ c => ClauseOf half c) (fun _ _ => trivial) (List.range _) [] G9 .refl D9 (by rw [sizeLine_eq, List.length_range]; simp; omega) (fun x _ G' R' _ D q' => p__law_clause hh1 (by omega) (by decide) (by decide) D fun c G'' hc _ D' k' => q' c G'' hc D' k') fun bs Ga hbs Da ka => ?_
      obtain ⟨hbl, hb⟩ := Paired.all2 hbs
      rw [List.length_range] at hbl
      rw [List.nil_append]
      refine frz_lst ?_
      conv => whnf
      refine compW_pure (f := cTup) (v := fun c => cTup (c.map fun l => l + if l < 0 then -half else half)) trivial bs [] (by rw [sizeLine_eq]; simp; omega) (fun c hm R' q' => ?_) ?_
      · have hcl2 := (hb c hm).len (by omega)
        conv => whnf
        refine compW_pure (f := W.int) (v := fun l => W.int (l + if l < 0 then -half else half)) trivial c [] (by rw [sizeLine_eq]; simp; omega) (fun l hm R' q' => ?_) ?_
        · conv => whnf
          refine ⟨sz2 _ _, frz_lst ?_⟩
          conv => whnf
          by_cases hl0 : l < 0
          · rw [if_pos hl0] at q'
            rw [decide_eq_true hl0]
            exact ⟨_, rfl, q'⟩
          · rw [if_neg hl0] at q'
            rw [decide_eq_false hl0]
            exact ⟨_, rfl, q'⟩
        · rw [List.nil_append]
          unfold fTup
          rw [show (c.map fun l => W.int (l + if l < 0 then -half else half)) = (c.map fun l => l + if l < 0 then -half else half).map W.int by rw [List.map_map]; rfl]
          exact q'
      rw [List.nil_append]
      refine frz_lst ?_
      conv => whnf
      refine ⟨by rw [List.length_map, List.length_map, sizeLine_eq]; omega, frz_lst ?_⟩
      conv => whnf
      refine ⟨sz2 _ _, ?_⟩
      rw [show (bs.map fun c => cTup (c.map fun l => l + if l < 0 then -half else half)) = (bs.map fun c => c.map fun l => l + if l < 0 then -half else half).map cTup by rw [List.map_map]; rfl, ← List.map_append]
      refine ret (q many _ _ h0 hmt (fun c hm => ?_) (by rw [List.length_append, List.length_map]; omega) Da (K8.trans (k9.trans ka)))
      rcases List.mem_append.mp hm with hm | hm
      · have k := hb c hm
        exact ⟨fun l hl => ⟨(k.mem l hl).1, by have := (k.mem l hl).2; omega⟩, k.nd, k.up⟩
      · obtain ⟨c0, hm0, rfl⟩ := List.mem_map.mp hm
        exact shift_clause (hb c0 hm0) (by omega) hh2
    · rw [decide_eq_false hm1]
      conv => whnf
      refine p__law_closed hc ⟨by omega, by omega⟩ hms (by decide) (by omega) (by omega) fun ds _ hds hdle _ => ?_
      have hdl : ds.length ≤ 60 := by
        rcases hdle with rfl | h
        · exact Nat.zero_le _
        · omega
      conv => whnf
      refine ⟨sz2 _ _, ?_⟩
      exact ret (q many ds _ h0 hmt hds hdl D8 K8)
  rw [decide_eq_false hw2]
  conv => whnf
  by_cases hw6 : way < 6
  · rw [decide_eq_true hw6]
    conv => whnf
    refine p__law_closed hc ⟨by omega, by omega⟩ hms (by decide) (by omega) (by omega) fun ds _ hds hdle _ => ?_
    have hdl : ds.length ≤ 60 := by
      rcases hdle with rfl | h
      · exact Nat.zero_le _
      · omega
    conv => whnf
    rw [decide_eq_false (show ¬ way = 6 by omega)]
    conv => whnf
    refine ⟨sz2 _ _, ?_⟩
    exact ret (q many ds _ h0 hmt hds hdl D8 K8)
  rw [decide_eq_false hw6]
  conv => whnf
  by_cases hw7 : way = 6
  · rw [decide_eq_true hw7]
    conv => whnf
    refine compW_pureF (f := cTup) (v := cTup) (keep := fun c => !decide (c = [])) trivial cs [] (by rw [sizeLine_eq]; simp; omega) (fun c hm R' N' e1 e2 => ?_) ?_
    · conv => whnf
      refine ⟨sz0, ?_⟩
      refine eq_ints (c := []) ?_
      rw [tbne]
      cases e : decide (c = []) with
      | true => exact e2 (by rw [e]; rfl)
      | false => exact e1 (by rw [e]; rfl)
    rw [List.nil_append]
    refine frz_lst ?_
    conv => whnf
    refine ⟨sz2 _ _, ?_⟩
    exact ret (q many _ _ h0 hmt (fun c hm => hc c (List.mem_filter.mp hm).1) (Nat.le_trans (List.length_filter_le _ _) (by omega)) D8 K8)
  rw [decide_eq_false hw7]
  conv => whnf
  refine ⟨sz2 _ _, ?_⟩
  exact ret (q many cs _ h0 hmt hc (by omega) D8 K8)
end WS
set_option Elab.async false
set_option linter.all false
set_option maxRecDepth 100000
set_option maxHeartbeats 4000000
/-! WL, part ki: tuple(text), bool(x). -/
namespace WL
open PySem PySem.Spec PyProof PyProof.Rows L2 PySem.W
section
variable {X : Cx}
/-- a text's signs -/
def signs (x : Str) : List Str := x.cps.toList.map fun c => ⟨#[c]⟩
theorem signs_vals {x : Str} : ∀ {cs : List Nat} {us : List Value}, us.length = cs.length → (∀ (j : Nat) (v : Value), us[j]? = some v → ∃ c u, cs[j]? = some c ∧ v = .str ⟨#[c]⟩ u) → Vals (cs.map fun c => V.str ⟨#[c]⟩) us
  | [], [], _, _ => .nil
  | [], _ :: _, h, _ => by cases h
  | _ :: _, [], h, _ => by cases h
  | c :: cs, u :: us, hl, h => by
    obtain ⟨c', t, e, ev⟩ := h 0 u rfl
    cases e
    exact .cons ⟨t, ev⟩ (signs_vals (x := x) (by simpa using hl) fun j v e => h (j + 1) v e)
theorem call_tupS (hc : X.calm = true) : CallR X (.type "tuple") (fun xs H Q => ∃ x : Str, xs = [.str x] ∧ x.cps.size ≤ sizeLine ∧ ∀ l, H l = none → Q (.ref l) (upd H l (.tup ((signs x).map V.str)))) := by
  intro pins s σ H xs us Q I r h
  obtain ⟨x, rfl, hz, q⟩ := h
  obtain ⟨u, rfl, rx⟩ := vals1 r
  obtain ⟨t, rfl⟩ := rx
  refine call_tuple_str (I.ok.hd hc) x t (hsz := hz) fun h' tk acc hk hacc => ?_
  have hv : Vals ((signs x).map V.str) acc.toList := by
    unfold signs
    rw [List.map_map]
    refine signs_vals (x := x) (by rw [Array.length_toList, hacc.1, Array.length_toList]) fun j v e => ?_
    obtain ⟨c, u, e1, e2⟩ := hacc.2 j v (by rw [← Array.getElem?_toList]; exact e)
    exact ⟨c, u, by rw [Array.getElem?_toList]; exact e1, e2⟩
  have I1 : Inv X pins σ H { s with heap := h', toks := tk } := I.kept hk
  have hz2 : ((signs x).map V.str).length ≤ sizeLine := by unfold signs; rw [List.length_map, List.length_map, Array.length_toList]; exact hz
  have I2 : Inv X pins σ (upd H h'.objs.size (.tup ((signs x).map V.str))) { s with heap := h'.push { cls := .type "tuple", data := .seq acc }, toks := tk } :=
    I1.laid (t' := tk) (fun b o e => Heap.get?_push_of_some _ e) (Nat.le_refl _) (show ObjOk X.prog X.w _ _ _ (.tup _) from ⟨hz2, acc.toList, hv, by rw [Array.toArray_toList]; exact IsTup.new _ _⟩)
  exact ⟨.ref h'.objs.size, _, I2, rfl, q _ (I1.hok.fresh (Nat.le_refl _))⟩
def toTupSW : CW := fun ws G R => match ws with
  | [.str x] => x.cps.size ≤ sizeLine ∧ R (.tup ((signs x).map W.str)) G
  | ws => toTupW ws G R
theorem rvs_strs {K : PySem.W.Frag} {H : Hp} : ∀ (ss : List Str), RVs K H (ss.map V.str) (ss.map W.str)
  | [] => .nil
  | s :: ss => .cons (.str s) (rvs_strs ss)
theorem call_tupSW (hc : X.calm = true) : CallW X (.type "tuple") toTupSW := by
  intro pins s σ H xs us Q I r h
  obtain ⟨ws, G, R, rs, rh, t, k⟩ := h
  unfold toTupSW at t
  split at t
  · rename_i x
    obtain ⟨v, rfl, rv⟩ := rs.one
    cases rv
    exact call_tupS hc pins s σ H _ us Q I r ⟨x, rfl, t.1, fun l hl => k _ _ _ _ t.2 (.new hl) (.tup upd_same (rvs_strs _)) (rh.new hl)⟩
  · exact call_tupW pins s σ H xs us Q I r ⟨ws, G, R, rs, rh, t, k⟩
def toBoolW : CW := fun ws G R => match ws with
  | [.int i] => R (.bl (i != 0)) G
  | [.bl b] => R (.bl b) G
  | _ => False
theorem call_boolW : CallW X (.type "bool") toBoolW := by
  intro pins s σ H xs us Q I r h
  obtain ⟨ws, G, R, rs, rh, t, k⟩ := h
  unfold toBoolW at t
  split at t
  · obtain ⟨v, rfl, rv⟩ := rs.one
    cases rv
    exact call_bool1 pins s σ H _ us Q I r (.inl ⟨_, rfl, k.here t (.bl _) rh⟩)
  · obtain ⟨v, rfl, rv⟩ := rs.one
    cases rv
    exact call_bool1 pins s σ H _ us Q I r (.inr ⟨_, rfl, k.here t (.bl _) rh⟩)
  · exact t.elim
end
end WL
set_option Elab.async false
set_option linter.all false
set_option maxRecDepth 100000
set_option maxHeartbeats 4000000
/-! WL, part kj: tuple * int. -/
namespace WL
open PySem PySem.Spec PyProof PyProof.Rows L2 PySem.W
theorem tuple_mul1 (l : Addr) (items : Array Value) (n : Nat) (dd : Option Addr) (sl : Array (Option Value)) (u : Tok) :
    Meets (Builtin.«tuple.__mul__» ⟨[.ref l, .int 1 u], []⟩) (fun _ R s => s.heap.get? l = some { cls := .type "tuple", dict := dd, data := .seq items n, slots := sl } ∧
      R (.ok (.ret (Value.ref l))) s) :=
  .of_wp fun prog w A R s h => by
    obtain ⟨hp, g, d, tk, os⟩ := s
    obtain ⟨hl, h⟩ := h
    have f1 := AutoSeq1.idx_int
    have c0 : (decide ((1 : Int) < -(2 ^ 63)) || decide ((1 : Int) ≥ 2 ^ 63)) = false := by decide
    have c1 : (items.isEmpty || (1 : Int) == 1) = true := by simp
    wp_walk using AutoSeq1.wpAny_loadPart' hl
    exact ⟨_, rfl, h⟩
section
variable {X : Cx} {Z : GH × Hp} {a b : Expr} {Ta Tb : TW} {pos : Pos}
theorem op_repT1 : OpR X (binaryOp .Mult) (fun x y H Q => ∃ l xs, x = .ref l ∧ y = .int 1 ∧ SqT X.K H l xs ∧ Q (.ref l) H) := by
  intro pins s σ H x y v u Q I rx ry h
  obtain ⟨l, xs, rfl, rfl, hT, q⟩ := h
  cases rx
  obtain ⟨t, rfl⟩ := ry
  obtain ⟨its, r, ⟨⟨cls, dd, data, sl⟩, ho, hc, n, hd⟩, hs⟩ := I.tuple hT
  simp only at hc hd
  subst hc hd
  refine wpAny_binaryOp_repeat_ref (T := "tuple") (U := "int") (by decide) ⟨_, ho, rfl⟩ (fun s' => PySem.typeIs_int s' 1 t) noFill_tuple_mul PySem.F.fills_int_mul PySem.F.slot_int_rmul repeat_tuple PySem.F.slot_int_index.lookup
    (call_meets PySem.F.slot_int_rmul (PySem.typeIs_int s 1 t) PySem.F.entry_int_rmul (PySem.F.args_int_rmul_2 _ _) (int_rmul_tuple 1 t l its.toArray n dd sl)
      ⟨ho, rfl, ⟨_, ho, rfl⟩, call_meets PySem.F.slot_tuple_mul ⟨_, ho, rfl⟩ PySem.F.entry_tuple_mul (PySem.F.args_tuple_mul_2 _ _) (tuple_mul1 l its.toArray n dd sl t) ⟨ho, ?_⟩⟩)
  exact ⟨.ref l, H, I, rfl, q⟩
def mulTW : R2W := fun w1 w2 G R => match w1, w2 with
  | .tup xs, .int n => 1 ≤ n ∧ n ≤ 1000 ∧ xs ≠ [] ∧ xs.length ≤ 1000 ∧ R (.tup (List.replicate n.toNat xs).flatten) G
  | _, _ => False
theorem op_mulTW : OpW X (binaryOp .Mult) mulTW := by
  intro pins s σ H x y v u Q I rx ry h'
  obtain ⟨w1, w2, G, R, r1, r2, rh, t, k⟩ := h'
  cases w1 with
  | tup xs =>
    cases w2 with
    | int n =>
      cases r2
      cases r1 with
      | tup q rs =>
        obtain ⟨h1, h2, h3, h4, t⟩ := t
        by_cases hn : n = 1
        · subst hn
          have e : (List.replicate (1 : Int).toNat xs).flatten = xs := by
            show xs ++ [] = xs
            exact List.append_nil _
          rw [e] at t
          exact op_repT1 pins s σ H _ _ v u Q I rx ry ⟨_, _, rfl, rfl, SqT.of q, k.here t (.tup q rs) rh⟩
        · refine op_repT pins s σ H _ _ v u Q I rx ry ⟨_, n, _, rfl, rfl, SqT.of q, fun e => h3 ?_, by omega, h2, by rw [rs.length]; exact h4, fun p hp => k _ _ _ _ t (.new hp) (.tup upd_same ((rs.rep _).mono (.new hp) rh)) (rh.new hp)⟩
          have := rs.length
          rw [e] at this
          exact List.length_eq_zero_iff.mp this.symm
    | _ => exact (show False from t).elim
  | _ => exact (show False from t).elim
end
end WL
set_option Elab.async false
set_option linter.all false
set_option maxRecDepth 100000
set_option maxHeartbeats 4000000
namespace WS
open PySem PySem.Spec PyProof.Rows L2 WL
/-- a list of data beside the empty one -/
theorem eq_emptyF {G : GH} {R : KW} {n : Bool} {L : List W} (hd : ∀ x ∈ L, Dat G x) (k : R (.bl (n != decide (L = []))) G) : EqS n (.fl L) (.fl []) G R := by
  obtain ⟨ds, ps, qs⟩ := dats hd
  refine ⟨⟨_, _, .fl ps, .fl .nil, by rw [PyData.depth]; have := depthAll_le qs; omega, ?_⟩⟩
  have e : PyData.eqv (.list ds) (.list []) = decide (L = []) := by
    have := ps.length
    cases ds with
    | nil =>
      have : L = [] := List.length_eq_zero_iff.mp this
      subst this
      simp [PyData.eqv, PyData.eqvAll]
    | cons d ds =>
      have : L ≠ [] := fun e => by rw [e] at this; cases this
      simp [PyData.eqv, PyData.eqvAll, this]
  rw [e]
  exact k
def bitB : W → Bool
  | .int i => decide (0 ≤ i) && decide (i ≤ 1)
  | _ => false
def bitsB (many : Int) : W → Bool
  | .tup xs => decide ((xs.length : Int) = many) && xs.all bitB
  | _ => false
theorem notTupB {w : W} {many : Int} (h : ∀ xs, w ≠ .tup xs) : bitsB many w = false := by
  cases w with
  | tup xs => exact absurd rfl (h xs)
  | _ => rfl
theorem bits_of_yes {many : Int} {w : W} (h : bitsB many w = true) : ∃ bs, w = .tup (bs.map W.int) ∧ BitsOf many bs := by
  cases w with
  | tup xs =>
    unfold bitsB at h
    dsimp only at h
    rw [Bool.and_eq_true, decide_eq_true_iff] at h
    obtain ⟨h1, h4⟩ := h
    have hx : ∀ {ys : List W}, ys.all bitB = true → ∃ bs : List Int, ys = bs.map W.int ∧ ∀ b ∈ bs, b = 0 ∨ b = 1 := by
      intro ys
      induction ys with
      | nil => intro _; exact ⟨[], rfl, fun l h => (by cases h)⟩
      | cons y ys ih =>
        intro h
        rw [List.all_cons, Bool.and_eq_true] at h
        obtain ⟨bs, rfl, e2⟩ := ih h.2
        have hy := h.1
        cases y with
        | int i =>
          unfold bitB at hy
          dsimp only at hy
          rw [Bool.and_eq_true, decide_eq_true_iff, decide_eq_true_iff] at hy
          refine ⟨i :: bs, rfl, fun l hl => ?_⟩
          rcases List.mem_cons.mp hl with rfl | hl
          · omega
          · exact e2 l hl
        | _ => cases hy
    obtain ⟨bs, rfl, e2⟩ := hx h4
    rw [List.length_map] at h1
    exact ⟨bs, rfl, h1, e2⟩
  | _ => cases h
def ansB (many : Int) (cs : List (List Int)) (w : W) : Bool := bitsB many w && allB cs (intsW w)
theorem tell_all {many : Int} {ds : List (List Int)} (h : ∀ c ∈ ds, ClauseOf many c) : probCs ds = byLen (dedX [] ds) := by
  unfold probCs
  congr 2
  conv => rhs; rw [← List.map_id ds]
  exact List.map_congr_left fun c hc => (h c hc).tidy
theorem mem_pc {many : Int} {ds : List (List Int)} (h : ∀ c ∈ ds, ClauseOf many c) {c : List Int} : c ∈ probCs ds ↔ c ∈ ds := by
  rw [tell_all h, (byLen_perm _).mem_iff, dedX_mem]
  simp
theorem prob_made {x : Addr} {many : Int} {ds : List (List Int)} {G : GH} {R : KW} {RX : XW} (hx : G x = none) (h0 : 1 ≤ many) (h4 : many ≤ 400) (hds : ∀ c ∈ ds, ClauseOf many c) (hl : ds.length ≤ 400) (q : R (probW many (probCs ds)) G) :
    P_Problem___init__ [.ref x, .int many, .fl (ds.map cTup)] (updG G x (.ins "Problem" [])) (fun w G2 => w = .non ∧ frzK R (.ref x) G2) RX := by
  have e1 : (ds.map fun c => (cTup c, c)).map (·.1) = ds.map cTup := by rw [List.map_map]; rfl
  have e2 : (ds.map fun c => (cTup c, c)).map (·.2) = ds := by rw [List.map_map]; exact List.map_id ds
  refine p_Problem___init__ (zs := ds.map fun c => (cTup c, c)) h0 h4 updG_same (.inl (by rw [e1])) (fun z hz => ?_) (by rw [List.length_map]; omega) ?_ ?_
  · obtain ⟨c, hc, rfl⟩ := List.mem_map.mp hz
    exact ⟨rfl, (hds c hc).tell (by omega) h4⟩
  · rw [e2]
    have := dedX_len (ds.map tidy) ([] : List (List Int))
    rw [List.length_map, List.length_nil] at this
    omega
  · rw [e2, updG_upd]
    refine ⟨rfl, frz_atI updG_same ?_⟩
    rw [offG_upd hx]
    exact q
/-! ### is_bits -/
abbrev N_is_bits : List Str := ["thing", "many", "bit"]
structure P_is_bits (ws : List W) (G : GH) (R : KW) (RX : XW) : Prop where
  ex : ∃ (w : W) (many : Int), ws = [w, .int many] ∧ (Ask G w) ∧ (R (.bl (bitsB many w)) G)
theorem len_is_bits : ∀ ws G R RX, P_is_bits ws G R RX → ws.length = ["thing", "many"].length := by
  rintro ws G R RX ⟨⟨_, _, rfl, _, _⟩⟩; rfl
theorem p_is_bits {w : W} {many : Int} {G : GH} {R : KW} {RX : XW} (ask : Ask G w) (q : R (.bl (bitsB many w)) G) : P_is_bits [w, .int many] G R RX := ⟨w, many, rfl, ask, q⟩
def T_is_bits : TWS :=
  (sSeq (sIf (tOrW (tNotW (tTruW (tCW (isiC .tu) (tCo (tV 0) (tCo (tK (.ty "tuple")) tN))))) (tTestW (tOpW (eqQ true) (tCW lenQ (tCo (tV 0) tN)) (tV 1)))) (sRet (tK (.bl false))) sNext)
    (sRet (tCF (fBols fun bs => bs.all fun b => b) (tCompI (tISeq (tV 0)) (gN 2) tYesW (tAndE (tCall0 P_is_number [] (tCo (tV 2) tN)) (tChainW leW leW (tK (.int 0)) (tV 2) (tK (.int 1)))) [2]))))
theorem rd_is_bits (ws : List W) (G : GH) (R : KW) (RX : XW) (h : P_is_bits ws G R RX) : T_is_bits { nx := fun _ G' => fgt R .non G', rt := fgt R } (startW N_is_bits ws) G := by
  obtain ⟨w, many, rfl, ask, q⟩ := h
  conv => whnf
  refine ⟨rfl, ?_⟩
  cases e : tyW w G with
  | none => exact absurd e ask.ty
  | some t =>
    refine isiW_of e ?_
    by_cases ht : isaT t .tu = true
    · rw [ht]
      obtain ⟨xs, rfl⟩ := (tyTup e ask.nk).mp ht
      obtain ⟨hl, hx⟩ := ask.it xs rfl
      conv => whnf
      by_cases hlen : (xs.length : Int) = many
      · rw [decide_eq_true hlen]
        conv => whnf
        have tb : bitsB many (.tup xs) = xs.all bitB := by
          unfold bitsB; dsimp only; rw [decide_eq_true hlen]; rfl
        rw [tb] at q
        refine compW_pureW (v := fun x => W.bl (bitB x)) trivial (by rw [sizeLine_eq]; omega) (fun x hm R' q' => ?_) ?_
        · conv => whnf
          refine p_is_number (let ⟨_, pd, _⟩ := hx x hm; pd.ty) ?_
          cases x with
          | int i =>
            conv => whnf
            unfold bitB at q'
            dsimp only at q'
            by_cases h1 : 0 ≤ i
            · rw [decide_eq_true h1] at q' ⊢
              conv => whnf
              rw [Bool.true_and] at q'
              exact q'
            · rw [decide_eq_false h1] at q' ⊢
              conv => whnf
              exact q'
          | _ => exact q'
        rw [show (xs.map fun x => W.bl (bitB x)) = (xs.map bitB).map W.bl by rw [List.map_map]; rfl]
        unfold fBols
        rw [blsOf_map]
        dsimp only
        rw [show ((xs.map bitB).all fun b => b) = xs.all bitB by rw [List.all_map]; rfl]
        exact ret q
      · rw [decide_eq_false hlen]
        conv => whnf
        rw [show bitsB many (.tup xs) = false by unfold bitsB; dsimp only; rw [decide_eq_false hlen]; rfl] at q
        exact ret q
    · rw [show isaT t .tu = false by simpa using ht]
      rw [notTupB fun xs z => ht ((tyTup e ask.nk).mpr ⟨xs, z⟩)] at q
      exact ret q
/-! ### is_answer -/
abbrev N_is_answer : List Str := ["problem", "thing", "clause"]
structure P_is_answer (ws : List W) (G : GH) (R : KW) (RX : XW) : Prop where
  ex : ∃ (many : Int) (cs : List (List Int)) (w : W), ws = [probW many cs, w] ∧ (Ask G w) ∧ (∀ c ∈ cs, ClauseOf many c) ∧ (0 ≤ many ∧ many ≤ 1000) ∧ (cs.length ≤ 4000) ∧ (R (.bl (ansB many cs w)) G)
theorem len_is_answer : ∀ ws G R RX, P_is_answer ws G R RX → ws.length = ["problem", "thing"].length := by
  rintro ws G R RX ⟨⟨_, _, _, rfl, _, _, _, _, _⟩⟩; rfl
theorem p_is_answer {many : Int} {cs : List (List Int)} {w : W} {G : GH} {R : KW} {RX : XW} (ask : Ask G w) (hc : ∀ c ∈ cs, ClauseOf many c) (h0 : 0 ≤ many ∧ many ≤ 1000) (hl : cs.length ≤ 4000) (q : R (.bl (ansB many cs w)) G) : P_is_answer [probW many cs, w] G R RX := ⟨many, cs, w, rfl, ask, hc, h0, hl, q⟩
def T_is_answer : TWS :=
  (sRet (tAndE (tCall0 P_is_bits [] (tCo (tV 1) (tCo (tFldW "Problem" "many" (tV 0)) tN))) (tCF (fBols fun bs => bs.all fun b => b) (tCompI (tISeq (tFldW "Problem" "clauses" (tV 0))) (gN 2) tYesW (tCall0 P_holds [] (tCo (tV 2) (tCo (tV 1) tN))) [2]))))
theorem rd_is_answer (ws : List W) (G : GH) (R : KW) (RX : XW) (h : P_is_answer ws G R RX) : T_is_answer { nx := fun _ G' => fgt R .non G', rt := fgt R } (startW N_is_answer ws) G := by
  obtain ⟨many, cs, w, rfl, ask, hc, h0, hl, q⟩ := h
  (try conv => whnf); (repeat (first | (refine Exists.intro _ (And.intro rfl ?_); conv => whnf) | (refine And.intro rfl ?_; conv => whnf) | (refine frz_lst ?_; conv => whnf) | (refine frz_dK ?_; conv => whnf) | (refine frz_dT ?_; conv => whnf)))
  refine p_is_bits ask ?_
  unfold ansB at q
  by_cases ht : bitsB many w = true
  · rw [ht] at q ⊢
    obtain ⟨bs, rfl, B⟩ := bits_of_yes ht
    rw [Bool.true_and, show intsW (.tup (bs.map W.int)) = bs by show (intsOf (bs.map W.int)).getD [] = bs; rw [intsOf_map]; rfl] at q
    (try conv => whnf); (repeat (first | (refine Exists.intro _ (And.intro rfl ?_); conv => whnf) | (refine And.intro rfl ?_; conv => whnf) | (refine frz_lst ?_; conv => whnf) | (refine frz_dK ?_; conv => whnf) | (refine frz_dT ?_; conv => whnf) | (refine ⟨by (try simp only [List.length_cons, List.length_nil, List.length_map, List.length_append, List.length_drop, List.length_take, sizeLine_eq]); omega, ?_⟩; conv => whnf)))
    refine compW_pure (f := cTup) (v := fun c => W.bl (holdsB c bs)) trivial cs [] (by rw [sizeLine_eq]; simp; omega) (fun c hm R' q' => p_holds (hc c hm).mem (by have := (hc c hm).len h0.1; omega) B q') ?_
    rw [List.nil_append, show (cs.map fun c => W.bl (holdsB c bs)) = (cs.map fun c => holdsB c bs).map W.bl by rw [List.map_map]; rfl]
    unfold fBols
    rw [blsOf_map]
    dsimp only
    rw [show ((cs.map fun c => holdsB c bs).all fun b => b) = allB cs bs by rw [List.all_map]; rfl]
    exact ret q
  · have ht : bitsB many w = false := by simpa using ht
    rw [ht] at q ⊢
    exact ret q
end WS
set_option Elab.async false
set_option linter.all false
set_option maxRecDepth 100000
set_option maxHeartbeats 4000000
/-! WL, part kk: more methods of lists. -/
namespace WL
open PySem PySem.Spec PyProof.Rows L2
section
variable {X : Cx}
theorem recL_upd {p : Addr} {G : GH} {ws : List W} : recL (.ref p) (updG G p (.lst ws)) := by unfold recL; dsimp only; rw [updG_same]; trivial
theorem recL_of {p : Addr} {G : GH} {ws : List W} (h : G p = some (.lst ws)) : recL (.ref p) G := by unfold recL; dsimp only; rw [h]; trivial
def reverseW : MW := fun w ws G R => match w, ws with
  | .ref p, [] => match G p with
    | some (.lst xs) => R .non (updG G p (.lst xs.reverse))
    | _ => False
  | _, _ => False
theorem mt_reverseW : MetW X "list.reverse" reverseW := by
  intro pins s σ H x xs v us Q I rx rs h
  obtain ⟨w, ws, G, R, r1, r2, rh, t, k⟩ := h
  unfold reverseW at t
  split at t
  · rename_i p
    cases r1; cases r2
    split at t
    · rename_i ys e
      obtain ⟨vs, h1, rv⟩ := rh _ _ e
      exact mt_reverse pins s σ H _ _ v us Q I rx rs ⟨p, vs, rfl, rfl, h1, k _ _ _ _ t (.put e) .non (rh.put e ⟨_, upd_same, rv.rev.mono (FR.put (o := .lst []) e) rh⟩)⟩
    · exact t.elim
  · exact t.elim
def clearW : MW := fun w ws G R => match w, ws with
  | .ref p, [] => match G p with
    | some (.lst _) => R .non (updG G p (.lst []))
    | _ => False
  | _, _ => False
theorem mt_clearW : MetW X "list.clear" clearW := by
  intro pins s σ H x xs v us Q I rx rs h
  obtain ⟨w, ws, G, R, r1, r2, rh, t, k⟩ := h
  unfold clearW at t
  split at t
  · rename_i p
    cases r1; cases r2
    split at t
    · rename_i ys e
      obtain ⟨vs, h1, rv⟩ := rh _ _ e
      exact mt_clear pins s σ H _ _ v us Q I rx rs ⟨p, vs, rfl, rfl, h1, k _ _ _ _ t (.put e) .non (rh.put e ⟨_, upd_same, .nil⟩)⟩
    · exact t.elim
  · exact t.elim
/-- insert(i, y), i not below 0 -/
def insertW : MW := fun w ws G R => match w, ws with
  | .ref p, [.int i, y] => match G p with
    | some (.lst xs) => xs.length < sizeLine ∧ 0 ≤ i ∧ i < 2 ^ 63 ∧ R .non (updG G p (.lst (xs.take i.toNat ++ [y] ++ xs.drop i.toNat)))
    | _ => False
  | _, _ => False
theorem mt_insertW : MetW X "list.insert" insertW := by
  intro pins s σ H x xs v us Q I rx rs h
  obtain ⟨w, ws, G, R, r1, r2, rh, t, k⟩ := h
  unfold insertW at t
  split at t
  · rename_i p i y
    cases r1
    cases r2 with
    | cons ri r2 =>
      obtain ⟨z, rfl, rz⟩ := r2.one
      cases ri
      split at t
      · rename_i ys e
        obtain ⟨vs, h1, rv⟩ := rh _ _ e
        exact mt_insert pins s σ H _ _ v us Q I rx rs ⟨p, vs, i, z, rfl, rfl, h1, by rw [rv.length]; exact t.1, t.2.1, t.2.2.1, k _ _ _ _ t.2.2.2 (.put e) .non (rh.put e ⟨_, upd_same, (((rv.take _).append (.cons rz .nil)).append (rv.drop _)).mono (FR.put (o := .lst []) e) rh⟩)⟩
      · exact t.elim
  · exact t.elim
end
end WL
set_option Elab.async false
set_option linter.all false
set_option maxRecDepth 100000
set_option maxHeartbeats 4000000
/-! WL, part kl: calls with keywords. -/
namespace WL
open PySem PySem.Spec PyProof.Rows L2
section
variable {X : Cx} {Z : GH × Hp} {CX : CXT} {k j n : Nat} {f C : Addr} {fd : FuncData} {ps ks : List Str} {sp : Sp} {E0 : XK} {x : Str} {p pos kpos : Pos} {e : Expr} {es : List Expr} {kws : List Keyword} {nm : Option Str} {t tk : TA} {P : SpW} {Te : TW} {Tr Tk : TWA} {g : List Value → List Value → List Value} {gV : List V → List V → List V} {gW : List W → List W → List W}
theorem run_gN {pins : List (Addr × Obj)} {σ : L2.St} {H : Hp} {s : Shared} {Q : VK} {us ws : List Value} {vs zs : List V} (F : FnG X.prog X.w X.K X.mg X.base CX k f fd ps sp) (hgd : X.A.guards = some []) (hr : Room k X.A) (hb : KBn X.K fd ps n ks g gV) (hx : Passes CX X E0)
    (I : Inv X pins σ H s) (r : Vals vs us) (rz : Vals zs ws) (l1 : vs.length = n) (l2 : zs.length = ks.length) (h : sp (gV vs zs) H Q E0) : wpAny (model X.prog X.w) X.A (call (.ref f) us (ks.zip ws)) (EP X pins σ Q) X.xe s := by
  have r2 := hb.rel r rz
  refine wpAny_call (codeAny_mono (F.goes hgd hr I.env0 (hb.to s us ws I.kIn (r.length.symm.trans l1) (rz.length.symm.trans l2)) r2 h) ?_)
  intro res s' hq
  match res, hq with
  | .error e, hq => exact hx pins σ H s e s' I hq
  | .ok (.ret u), hq => exact I.after hq
theorem pe_callGN (F : FnG X.prog X.w X.K X.mg X.base CX k f fd ps sp) (hgd : X.A.guards = some []) (hr : Room k X.A) (hg : Gl X x) (hm : X.mg x = some (.ref f)) (hk : PySem.W.keepIn X.K (.ref f) = true) (hb : KBn X.K fd ps n ks g gV) (hx : Passes CX X E0)
    (ha : PA X (e :: es) t) (hkw : PK X kws tk) (hall : (backToKw pos (keywordEach kws X.env)).all (·.1.isSome) = true := by rfl) (hks : (backToKw pos (keywordEach kws X.env)).filterMap (·.1) = ks := by rfl)
    (hdb : (x == ("__debug__" : Str)) = false := by decide) (he : starEach (e :: es) X.env = (false, eval e X.env) :: starEach es X.env := by rfl)
    (hpl : ((backTo pos (starEach (e :: es) X.env)).any (·.1) || (backToKw pos (keywordEach kws X.env)).any (·.1.isNone)) = false := by rfl) :
    PE X (.Call (.Name x p) (e :: es) kws pos) (tCallN n ks.length sp gV E0 t tk) := by
  refine ⟨fun pins s σ H Q I h => ?_⟩
  refine wpAny_Call_Name_kw (ld_glob I hg hm ?_ hdb)
  refine PySem.W.callWith_KW (h₀ := X.base) I.ok.mod.kin hk hall (thn (ha.run pos pins s σ H _ I h) fun us s1 ⟨vs, H1, I1, r, q⟩ => ?_) hpl he
  refine thn (hkw.run pos pins s1 σ H1 _ I1 q) fun ws s2 ⟨zs, H2, I2, rz, l1, l2, q2⟩ => ⟨I2.kIn, ?_⟩
  rw [hks]
  exact run_gN F hgd hr hb hx I2 r rz l1 l2 q2
/-- keywords' values -/
def WKw (X : Cx) (Z : GH × Hp) (kws : List Keyword) (T : TWA) : Prop := PK X kws (LfA X.K Z T)
theorem pk_weak {t u : TA} (h : PK X kws t) (hw : ∀ σ H Q, u σ H Q → t σ H Q) : PK X kws u := ⟨fun ep pins s σ H Q I hu => h.run ep pins s σ H Q I (hw σ H Q hu)⟩
theorem wk_nil : WKw X Z [] tN := pk_weak pk_nil fun σ H Q h => by
  obtain ⟨S, G, R, sr, t, k⟩ := h
  exact k _ _ _ _ t .refl .nil sr.rh
theorem wk_cons (ha : WE X Z e Te) (hr : WKw X Z kws Tk) : WKw X Z (⟨nm, e, kpos⟩ :: kws) (tCo Te Tk) := pk_weak (pk_cons ha hr) fun σ H Q h => by
  obtain ⟨S, G, R, sr, t, k⟩ := h
  refine Lf.go sr t fun w G1 v H1 t1 tk rv rh => ?_
  refine LfA.go (sr.next tk rh) t1 fun ws G2 vs H2 t2 tk2 rv2 rh2 => ?_
  exact k _ _ _ _ t2 (tk.trans tk2) (.cons (rv.mono tk2 rh) rv2) rh2
/-- a def of the module called with keywords: n values by place, the keywords' names, what fills the parameters -/
structure KfG (P : Program) (w : World) (K : PySem.W.Frag) (mg : Str → Option Value) (base : Heap) (CX : CXT) (k : Nat) (x : Str) (ps : List Str) (n : Nat) (ks : List Str) (gW : List W → List W → List W) (sp : SpW) : Prop where
  ex : ∃ f fd g gV, FnG P w K mg base CX k f fd ps (spL K sp) ∧ mg x = some (.ref f) ∧ PySem.W.keepIn K (.ref f) = true ∧ KBn K fd ps n ks g gV ∧ ∀ H vs zs ws us, RVs K H vs ws → RVs K H zs us → RVs K H (gV vs zs) (gW ws us)
def tCallKW (n : Nat) (ks : List Str) (P : SpW) (gW : List W → List W → List W) (RX : XW) (Ta Tk : TWA) : TW := fun S G R => Ta S G fun ws G1 => Tk S G1 fun us G2 => ws.length = n ∧ us.length = ks.length ∧ P (gW ws us) G2 R RX
theorem lfCallK {K : PySem.W.Frag} {E : XK} (hgw : ∀ H vs zs ws us, RVs K H vs ws → RVs K H zs us → RVs K H (gV vs zs) (gW ws us)) (σ : L2.St) (H : Hp) (Q : VK) (h : Lf K Z (tCallKW n ks P gW XF Tr Tk) σ H Q) : tCallN n ks.length (spL K P) gV E (LfA K Z Tr) (LfA K Z Tk) σ H Q := by
  obtain ⟨S, G, R, sr, t, k⟩ := h
  refine LfA.go sr t fun ws G1 vs H1 t1 f1 rs h1 => ?_
  refine LfA.go (sr.next f1 h1) t1 fun us G2 zs H2 t2 f2 rz h2 => ?_
  exact ⟨by rw [rs.length]; exact t2.1, by rw [rz.length]; exact t2.2.1, _, G2, R, XF, hgw _ _ _ _ _ (rs.mono f2 h1) rz, h2, t2.2.2, fun w G' v H' q f rv rh => k w G' v H' q (f1.trans (f2.trans f)) rv rh, .no⟩
theorem we_hK (D : KfG X.prog X.w X.K X.mg X.base CX0 k x ps n ks gW P) (hgd : X.A.guards = some []) (hr : Room j X.A) (ha : WA X Z (e :: es) Tr) (hkw : WKw X Z kws Tk) (hk : k ≤ j := by decide) (hg : Gl X x := by rfl)
    (hall : (backToKw pos (keywordEach kws X.env)).all (·.1.isSome) = true := by rfl) (hks : (backToKw pos (keywordEach kws X.env)).filterMap (·.1) = ks := by rfl)
    (hdb : (x == ("__debug__" : Str)) = false := by decide) (he : starEach (e :: es) X.env = (false, eval e X.env) :: starEach es X.env := by rfl)
    (hpl : ((backTo pos (starEach (e :: es) X.env)).any (·.1) || (backToKw pos (keywordEach kws X.env)).any (·.1.isNone)) = false := by rfl) :
    WE X Z (.Call (.Name x p) (e :: es) kws pos) (tCallKW n ks P gW XF Tr Tk) := by
  obtain ⟨f, fd, g, gV, F, hm, hk', hb, hgw⟩ := D.ex
  exact (pe_callGN F hgd (hr.mono hk) hg hm hk' hb pass0 ha hkw hall hks hdb he hpl).weak (lfCallK hgw)
theorem we_hKX (D : KfG X.prog X.w X.K X.mg X.base (L2.CX X.prog X.w) k x ps n ks gW P) (hgd : X.A.guards = some []) (hr : Room j X.A) (ha : WA X Z (e :: es) Tr) (hkw : WKw X Z kws Tk) (hk : k ≤ j := by decide) (hg : Gl X x := by rfl)
    (hall : (backToKw pos (keywordEach kws X.env)).all (·.1.isSome) = true := by rfl) (hks : (backToKw pos (keywordEach kws X.env)).filterMap (·.1) = ks := by rfl)
    (hdb : (x == ("__debug__" : Str)) = false := by decide) (he : starEach (e :: es) X.env = (false, eval e X.env) :: starEach es X.env := by rfl)
    (hpl : ((backTo pos (starEach (e :: es) X.env)).any (·.1) || (backToKw pos (keywordEach kws X.env)).any (·.1.isNone)) = false := by rfl) :
    WE X Z (.Call (.Name x p) (e :: es) kws pos) (tCallKW n ks P gW XF Tr Tk) := by
  obtain ⟨f, fd, g, gV, F, hm, hk', hb, hgw⟩ := D.ex
  exact (pe_callGN F hgd (hr.mono hk) hg hm hk' hb passL ha hkw hall hks hdb he hpl).weak (lfCallK hgw)
end
end WL
set_option Elab.async false
set_option linter.all false
set_option maxRecDepth 100000
set_option maxHeartbeats 4000000
namespace WS
open PySem PySem.Spec PyProof.Rows L2 WL
theorem extG_none {G G' : GH} {a : Addr} (x : ExtG G G') (h : G' a = none) : G a = none := by
  cases e : G a with
  | none => rfl
  | some o => rw [x _ _ e] at h; cases h
/-! ### the written form of lists of tuples of numbers -/
def tupD (c : List Int) : PyData := .tuple (c.map .int)
def listD (cs : List (List Int)) : PyData := .list (cs.map tupD)
def shownC (cs : List (List Int)) : Str := (listD cs).shown
theorem showable_all : ∀ {ds : List PyData}, (∀ d ∈ ds, d.showable = true) → PyData.showableAll ds = true
  | [], _ => rfl
  | d :: ds, h => by
    rw [PyData.showableAll, h d List.mem_cons_self, showable_all fun x hx => h x (List.mem_cons_of_mem _ hx)]; rfl
theorem shown_all {B : Nat} : ∀ {ds : List PyData}, (∀ d ∈ ds, d.shown.length ≤ B) → ((PyData.shownAll ds).map (·.length)).sum ≤ ds.length * B ∧ (PyData.shownAll ds).length = ds.length
  | [], _ => ⟨by simp [PyData.shownAll], by simp [PyData.shownAll]⟩
  | d :: ds, h => by
    have ih := shown_all (ds := ds) fun x hx => h x (List.mem_cons_of_mem _ hx)
    have e := h d List.mem_cons_self
    rw [PyData.shownAll]
    simp only [List.map_cons, List.sum_cons, List.length_cons, Nat.add_mul, Nat.one_mul]
    exact ⟨by have := ih.1; omega, by rw [ih.2]⟩
theorem depth_all {k : Nat} : ∀ {ds : List PyData}, (∀ d ∈ ds, d.depth ≤ k) → PyData.depthAll ds ≤ k
  | [], _ => by rw [PyData.depthAll]; omega
  | d :: ds, h => by
    have ih := depth_all (ds := ds) fun x hx => h x (List.mem_cons_of_mem _ hx)
    have e := h d List.mem_cons_self
    rw [PyData.depthAll]
    omega
/-- what may be written: within a depth, a length -/
structure Sh (d : PyData) (k B : Nat) : Prop where
  able : d.showable = true
  dep : d.depth ≤ k
  len : d.shown.length ≤ B
theorem Sh.list {ds : List PyData} {k B N : Nat} (h : ∀ d ∈ ds, Sh d k B) (hn : ds.length ≤ N) : Sh (.list ds) (k + 1) (N * (B + 2) + 3) := by
  have e := shown_all fun d hd => (h d hd).len
  have := listText_len_le (PyData.shownAll ds)
  have h2 := Nat.mul_le_mul_right (B + 2) hn
  have h3 := Nat.mul_add ds.length B 2
  exact ⟨by rw [PyData.showable]; exact showable_all fun d hd => (h d hd).able, by rw [PyData.depth]; have := depth_all fun d hd => (h d hd).dep; omega, by rw [PyData.shown]; omega⟩
theorem Sh.tuple {ds : List PyData} {k B N : Nat} (h : ∀ d ∈ ds, Sh d k B) (hn : ds.length ≤ N) : Sh (.tuple ds) (k + 1) (N * (B + 2) + 3) := by
  have e := shown_all fun d hd => (h d hd).len
  have := tupleText_len_le (PyData.shownAll ds)
  have h2 := Nat.mul_le_mul_right (B + 2) hn
  have h3 := Nat.mul_add ds.length B 2
  exact ⟨by rw [PyData.showable]; exact showable_all fun d hd => (h d hd).able, by rw [PyData.depth]; have := depth_all fun d hd => (h d hd).dep; omega, by rw [PyData.shown]; omega⟩
theorem Sh.int {n : Int} (h : n.natAbs < 10 ^ 9) : Sh (.int n) 1 10 := ⟨by rw [PyData.showable]; exact decide_eq_true (log2_lt (Nat.lt_of_lt_of_le h (Nat.le_trans (by decide : 10 ^ 9 ≤ 2 ^ 30) (Nat.pow_le_pow_right (by decide) (by decide)))) (by decide)), by rw [PyData.depth]; omega, by rw [PyData.shown]; exact txt_int_len (k := 9) (by decide) h⟩
theorem Sh.ints {c : List Int} {N : Nat} (h : ∀ l ∈ c, l.natAbs < 10 ^ 9) (hn : c.length ≤ N) : Sh (tupD c) 2 (N * 12 + 3) := Sh.tuple (fun d hd => by
  obtain ⟨n, hn, rfl⟩ := List.mem_map.mp hd
  exact Sh.int (h n hn)) (by rw [List.length_map]; exact hn)
theorem Sh.repr {w : W} {d : PyData} {k B : Nat} {G : GH} {R : KW} (p : PD G w d) (s : Sh d k B) (hk : k ≤ 60) (hB : B ≤ 16777216) (q : R (.str d.shown) G) : ReprS w G R :=
  ⟨d, p, s.able, Nat.le_trans s.dep hk, Nat.le_trans s.len (by rw [sizeLine_eq]; exact hB), q⟩
theorem pds_tups {G : GH} (cs : List (List Int)) : PDs G (cs.map cTup) (cs.map tupD) := PDs.map cs fun c _ => .tup (PDs.ints c)
theorem sh_cs {cs : List (List Int)} (h : ∀ c ∈ cs, (∀ l ∈ c, l.natAbs < 10 ^ 9) ∧ c.length ≤ 400) (hl : cs.length ≤ 2000) : Sh (listD cs) 3 9610003 :=
  Sh.list (N := 2000) (B := 4803) (fun d hd => by
    obtain ⟨c, hc, rfl⟩ := List.mem_map.mp hd
    exact Sh.ints (N := 400) (h c hc).1 (h c hc).2) (by rw [List.length_map]; exact hl)
theorem repr_fl {cs : List (List Int)} {G : GH} {R : KW} (h : ∀ c ∈ cs, (∀ l ∈ c, l.natAbs < 10 ^ 9) ∧ c.length ≤ 400) (hl : cs.length ≤ 2000) (q : R (.str (shownC cs)) G) : ReprS (.fl (cs.map cTup)) G R := Sh.repr (.fl (pds_tups cs)) (sh_cs h hl) (by decide) (by decide) q
theorem repr_rl {p : Addr} {cs : List (List Int)} {G : GH} {R : KW} (hp : G p = some (.lst (cs.map cTup))) (h : ∀ c ∈ cs, (∀ l ∈ c, l.natAbs < 10 ^ 9) ∧ c.length ≤ 400) (hl : cs.length ≤ 2000) (q : R (.str (shownC cs)) G) : ReprS (.ref p) G R := Sh.repr (.lst hp (pds_tups cs)) (sh_cs h hl) (by decide) (by decide) q
/-! ### all rows, in another order -/
def rows2 : Nat → List (List Int)
  | 0 => [[]]
  | n + 1 => (rows2 n).map (fun r => r ++ [0]) ++ (rows2 n).map fun r => r ++ [1]
theorem rows2_len : ∀ n, (rows2 n).length = 2 ^ n
  | 0 => rfl
  | n + 1 => by
    show ((rows2 n).map (fun r => r ++ [0]) ++ (rows2 n).map fun r => r ++ [1]).length = _
    rw [List.length_append, List.length_map, List.length_map, rows2_len n, Nat.pow_succ]; omega
theorem mem_rows2 : ∀ {n : Nat} {r : List Int}, r ∈ rows2 n ↔ BitsOf n r
  | 0, r => mem_rows (n := 0)
  | n + 1, r => by
    rw [← mem_rows]
    show r ∈ (rows2 n).map (fun r => r ++ [0]) ++ (rows2 n).map (fun r => r ++ [1]) ↔ r ∈ (rows n).flatMap fun r => [r ++ [0], r ++ [1]]
    rw [List.mem_append, List.mem_flatMap, List.mem_map, List.mem_map]
    constructor
    · rintro (⟨s, hs, rfl⟩ | ⟨s, hs, rfl⟩)
      · exact ⟨s, mem_rows.mpr (mem_rows2.mp hs), List.mem_cons_self⟩
      · exact ⟨s, mem_rows.mpr (mem_rows2.mp hs), List.mem_cons_of_mem _ List.mem_cons_self⟩
    · rintro ⟨s, hs, h⟩
      have hs := mem_rows2.mpr (mem_rows.mp hs)
      rcases List.mem_cons.mp h with rfl | h
      · exact .inl ⟨s, hs, rfl⟩
      · rw [List.mem_singleton.mp h]; exact .inr ⟨s, hs, rfl⟩
theorem snoc_inj {a b : List Int} {x y : Int} (h : a ++ [x] = b ++ [y]) : a = b ∧ x = y := by
  have := List.append_inj' h rfl
  exact ⟨this.1, (List.cons.inj this.2).1⟩
theorem rows2_nodup : ∀ n, (rows2 n).Nodup
  | 0 => by simp [rows2]
  | n + 1 => by
    have ih := rows2_nodup n
    show ((rows2 n).map (fun r => r ++ [0]) ++ (rows2 n).map fun r => r ++ [1]).Nodup
    rw [List.nodup_append]
    refine ⟨?_, ?_, ?_⟩
    · rw [List.Nodup, List.pairwise_map]; exact ih.imp fun hne e => hne (snoc_inj e).1
    · rw [List.Nodup, List.pairwise_map]; exact ih.imp fun hne e => hne (snoc_inj e).1
    · intro a ha b hb e
      obtain ⟨x, _, rfl⟩ := List.mem_map.mp ha
      obtain ⟨y, _, rfl⟩ := List.mem_map.mp hb
      exact absurd (snoc_inj e).2 (by decide)
theorem rows2_sorted (n : Nat) (cs : List (List Int)) : byTup ((rows2 n).filter (allB cs)) = ansAll n cs := by
  refine byTup_of ?_ (ansAll_le n cs)
  refine (List.perm_ext_iff_of_nodup ((rows2_nodup n).filter _) (ansAll_nodup n cs)).mpr fun r => ?_
  unfold ansAll
  rw [List.mem_filter, List.mem_filter, mem_rows2, mem_rows]
/-! ### _law_answers -/
abbrev N__law_answers : List Str := ["many", "clauses", "found", "k", "answer", "clause"]
structure P__law_answers (ws : List W) (G : GH) (R : KW) (RX : XW) : Prop where
  ex : ∃ (many : Int) (cs : List (List Int)), ws = [.int many, .fl (cs.map cTup)] ∧ (0 ≤ many) ∧ (many ≤ 12) ∧ (∀ c ∈ cs, ClauseOf many c) ∧ (cs.length ≤ 4000) ∧ (R (.fl ((ansAll many.toNat cs).map cTup)) G)
theorem len__law_answers : ∀ ws G R RX, P__law_answers ws G R RX → ws.length = ["many", "clauses"].length := by
  rintro ws G R RX ⟨⟨_, _, rfl, _, _, _, _, _⟩⟩; rfl
theorem p__law_answers {many : Int} {cs : List (List Int)} {G : GH} {R : KW} {RX : XW} (h0 : 0 ≤ many) (h1 : many ≤ 12) (hc : ∀ c ∈ cs, ClauseOf many c) (hl : cs.length ≤ 4000) (q : R (.fl ((ansAll many.toNat cs).map cTup)) G) : P__law_answers [.int many, .fl (cs.map cTup)] G R RX := ⟨many, cs, rfl, h0, h1, hc, hl, q⟩
def T__law_answers : TWS :=
  (sSeq (sSet 2 (tFz (tLstW (tCo (tTupW tN) tN))))
    (sSeq (sFor (tIRng1 (tCo (tV 0) tN)) (gN 3) (sSet 2 (tFz (tOpW addW (tFz (tComp (tISeq (tV 2)) (gN 4) tYesW (tOpW addW (tV 4) (tTupW (tCo (tK (.int 0)) tN))) [4])) (tFz (tComp (tISeq (tV 2)) (gN 4) tYesW (tOpW addW (tV 4) (tTupW (tCo (tK (.int 1)) tN))) [4]))))))
    (sRet (tFz (tCF fSortedT (tCompI (tISeq (tV 2)) (gN 4) (tTruW (tCF (fBols fun bs => bs.all fun b => b) (tCompI (tISeq (tV 1)) (gN 5) tYesW (tCall0 P__law_holds [] (tCo (tV 5) (tCo (tV 4) tN))) [5]))) (tV 4) [4]))))))
theorem rd__law_answers (ws : List W) (G : GH) (R : KW) (RX : XW) (h : P__law_answers ws G R RX) : T__law_answers { nx := fun _ G' => fgt R .non G', rt := fgt R } (startW N__law_answers ws) G := by
  obtain ⟨many, cs, rfl, h0, h1, hc, hl, q⟩ := h
  (try conv => whnf); (repeat (first | (refine Exists.intro _ (And.intro rfl ?_); conv => whnf) | (refine And.intro rfl ?_; conv => whnf) | (refine frz_lst ?_; conv => whnf) | (refine frz_dK ?_; conv => whnf) | (refine frz_dT ?_; conv => whnf) | (refine And.intro trivial ?_; conv => whnf) | (refine And.intro recL_upd ?_; conv => whnf) | (refine ⟨by (try simp only [List.length_cons, List.length_nil, List.length_map, List.length_append, List.length_drop, List.length_take, sizeLine_eq]); omega, ?_⟩; conv => whnf)))
  refine forW_map (f := fun k : Nat => W.int (0 + (k : Int))) (I := fun xs S G' => ∃ (k : Nat) (x3 x4 x5 : Option W), k + xs.length = many.toNat ∧ S = [some (.int many), some (.fl (cs.map cTup)), some (.fl ((rows2 k).map cTup)), x3, x4, x5] ∧ G' = G) ?_ ?_ _ _ _ ?_
  rotate_left
  · rintro S G1 ⟨k, x3, x4, x5, ek, rfl, rfl⟩
    refine ⟨trivial, ?_⟩
    have ek : k = many.toNat := ek
    subst ek
    conv => whnf
    have hk : (rows2 many.toNat).length ≤ 4096 := by rw [rows2_len]; exact Nat.le_trans (Nat.pow_le_pow_right (by decide) (show many.toNat ≤ 12 by omega)) (by decide)
    refine compW_pureF (f := cTup) (v := cTup) (keep := allB cs) trivial (rows2 many.toNat) [] (by rw [sizeLine_eq]; simp; omega) (fun r hm R' N' e1 e2 => ?_) ?_
    · have B : BitsOf many r := by have := mem_rows2.mp hm; rwa [show ((many.toNat : Nat) : Int) = many by omega] at this
      conv => whnf
      refine compW_pure (f := cTup) (v := fun c => W.bl (holdsB c r)) trivial cs [] (by rw [sizeLine_eq]; simp; omega) (fun c hc' R' q' => p__law_holds (hc c hc').mem (by have := (hc c hc').len h0; omega) B q') ?_
      rw [List.nil_append, show (cs.map fun c => W.bl (holdsB c r)) = (cs.map fun c => holdsB c r).map W.bl by rw [List.map_map]; rfl]
      unfold fBols
      rw [blsOf_map]
      dsimp only
      rw [show ((cs.map fun c => holdsB c r).all fun b => b) = allB cs r by rw [List.all_map]; rfl]
      cases eb : allB cs r with
      | true => exact e1 eb
      | false => exact e2 eb
    rw [List.nil_append]
    unfold fSortedT
    rw [show ((rows2 many.toNat).filter (allB cs)).map cTup = ((rows2 many.toNat).filter (allB cs)).map fun b => W.tup (b.map W.int) from rfl, tupsOf_map]
    dsimp only
    refine ⟨fun b hb => ?_, ?_⟩
    · have := (mem_rows2.mp (List.mem_filter.mp hb).1).len
      rw [sizeLine_eq]; omega
    refine frz_lst ?_
    rw [rows2_sorted]
    exact ret q
  · exact ⟨0, none, none, none, by rw [List.length_range]; omega, rfl, rfl⟩
  rintro x xs S G1 ⟨k, x3, x4, x5, ek, rfl, rfl⟩ N hN
  rw [List.length_cons] at ek
  refine ⟨trivial, ?_⟩
  conv => whnf
  have hk : (rows2 k).length ≤ 4096 := by rw [rows2_len]; exact Nat.le_trans (Nat.pow_le_pow_right (by decide) (show k ≤ 12 by omega)) (by decide)
  have hr : ∀ r ∈ rows2 k, r.length ≤ 12 := fun r h => by have := (mem_rows2.mp h).len; omega
  refine compW_pure (f := cTup) (v := fun r => cTup (r ++ [0])) trivial (rows2 k) [] (by rw [sizeLine_eq]; simp; omega) (fun r hm R' q' => ?_) ?_
  · have := hr r hm
    (try conv => whnf); (repeat (first | (refine Exists.intro _ (And.intro rfl ?_); conv => whnf) | (refine And.intro rfl ?_; conv => whnf) | (refine frz_lst ?_; conv => whnf) | (refine frz_dK ?_; conv => whnf) | (refine frz_dT ?_; conv => whnf) | (refine And.intro trivial ?_; conv => whnf) | (refine And.intro recL_upd ?_; conv => whnf) | (refine ⟨by (try simp only [List.length_cons, List.length_nil, List.length_map, List.length_append, List.length_drop, List.length_take, sizeLine_eq]); omega, ?_⟩; conv => whnf)))
    rw [show cTup (r ++ [0]) = W.tup (r.map W.int ++ [W.int 0]) by rw [show cTup (r ++ [0]) = W.tup ((r ++ [0]).map W.int) from rfl, List.map_append]; rfl] at q'
    exact q'
  rw [List.nil_append]
  refine frz_lst ?_
  conv => whnf
  refine compW_pure (f := cTup) (v := fun r => cTup (r ++ [1])) trivial (rows2 k) [] (by rw [sizeLine_eq]; simp; omega) (fun r hm R' q' => ?_) ?_
  · have := hr r hm
    (try conv => whnf); (repeat (first | (refine Exists.intro _ (And.intro rfl ?_); conv => whnf) | (refine And.intro rfl ?_; conv => whnf) | (refine frz_lst ?_; conv => whnf) | (refine frz_dK ?_; conv => whnf) | (refine frz_dT ?_; conv => whnf) | (refine And.intro trivial ?_; conv => whnf) | (refine And.intro recL_upd ?_; conv => whnf) | (refine ⟨by (try simp only [List.length_cons, List.length_nil, List.length_map, List.length_append, List.length_drop, List.length_take, sizeLine_eq]); omega, ?_⟩; conv => whnf)))
    rw [show cTup (r ++ [1]) = W.tup (r.map W.int ++ [W.int 1]) by rw [show cTup (r ++ [1]) = W.tup ((r ++ [1]).map W.int) from rfl, List.map_append]; rfl] at q'
    exact q'
  rw [List.nil_append]
  refine frz_lst ?_
  conv => whnf
  refine ⟨by rw [List.length_map, List.length_map, sizeLine_eq]; omega, frz_lst ?_⟩
  exact hN _ _ ⟨k + 1, _, _, _, by omega, by rw [show (rows2 (k + 1)).map cTup = (rows2 k).map (fun r => cTup (r ++ [0])) ++ (rows2 k).map fun r => cTup (r ++ [1]) by show ((rows2 k).map (fun r => r ++ [0]) ++ (rows2 k).map fun r => r ++ [1]).map cTup = _; rw [List.map_append, List.map_map, List.map_map]; rfl]; rfl, rfl⟩
/-! ### _law_rows -/
abbrev N__law_rows : List Str := ["many", "found", "k", "row"]
structure P__law_rows (ws : List W) (G : GH) (R : KW) (RX : XW) : Prop where
  ex : ∃ (many : Int), ws = [.int many] ∧ (0 ≤ many) ∧ (many ≤ 12) ∧ (R (.fl ((rows2 many.toNat).map cTup)) G)
theorem len__law_rows : ∀ ws G R RX, P__law_rows ws G R RX → ws.length = ["many"].length := by
  rintro ws G R RX ⟨⟨_, rfl, _, _, _⟩⟩; rfl
theorem p__law_rows {many : Int} {G : GH} {R : KW} {RX : XW} (h0 : 0 ≤ many) (h1 : many ≤ 12) (q : R (.fl ((rows2 many.toNat).map cTup)) G) : P__law_rows [.int many] G R RX := ⟨many, rfl, h0, h1, q⟩
def T__law_rows : TWS :=
  (sSeq (sSet 1 (tFz (tLstW (tCo (tTupW tN) tN))))
    (sSeq (sFor (tIRng1 (tCo (tV 0) tN)) (gN 2) (sSet 1 (tFz (tOpW addW (tFz (tComp (tISeq (tV 1)) (gN 3) tYesW (tOpW addW (tV 3) (tTupW (tCo (tK (.int 0)) tN))) [3])) (tFz (tComp (tISeq (tV 1)) (gN 3) tYesW (tOpW addW (tV 3) (tTupW (tCo (tK (.int 1)) tN))) [3]))))))
    (sRet (tV 1))))
theorem rd__law_rows (ws : List W) (G : GH) (R : KW) (RX : XW) (h : P__law_rows ws G R RX) : T__law_rows { nx := fun _ G' => fgt R .non G', rt := fgt R } (startW N__law_rows ws) G := by
  obtain ⟨many, rfl, h0, h1, q⟩ := h
  (try conv => whnf); (repeat (first | (refine Exists.intro _ (And.intro rfl ?_); conv => whnf) | (refine And.intro rfl ?_; conv => whnf) | (refine frz_lst ?_; conv => whnf) | (refine frz_dK ?_; conv => whnf) | (refine frz_dT ?_; conv => whnf) | (refine And.intro trivial ?_; conv => whnf) | (refine And.intro recL_upd ?_; conv => whnf) | (refine ⟨by (try simp only [List.length_cons, List.length_nil, List.length_map, List.length_append, List.length_drop, List.length_take, sizeLine_eq]); omega, ?_⟩; conv => whnf)))
  refine forW_map (f := fun k : Nat => W.int (0 + (k : Int))) (I := fun xs S G' => ∃ (k : Nat) (x3 x4 : Option W), k + xs.length = many.toNat ∧ S = [some (.int many), some (.fl ((rows2 k).map cTup)), x3, x4] ∧ G' = G) ?_ ?_ _ _ _ ?_
  rotate_left
  · rintro S G1 ⟨k, x3, x4, ek, rfl, rfl⟩
    refine ⟨trivial, ?_⟩
    have ek : k = many.toNat := ek
    subst ek
    conv => whnf
    exact ret q
  · exact ⟨0, none, none, by rw [List.length_range]; omega, rfl, rfl⟩
  rintro x xs S G1 ⟨k, x3, x4, ek, rfl, rfl⟩ N hN
  rw [List.length_cons] at ek
  refine ⟨trivial, ?_⟩
  conv => whnf
  have hk : (rows2 k).length ≤ 4096 := by rw [rows2_len]; exact Nat.le_trans (Nat.pow_le_pow_right (by decide) (show k ≤ 12 by omega)) (by decide)
  have hr : ∀ r ∈ rows2 k, r.length ≤ 12 := fun r h => by have := (mem_rows2.mp h).len; omega
  refine compW_pure (f := cTup) (v := fun r => cTup (r ++ [0])) trivial (rows2 k) [] (by rw [sizeLine_eq]; simp; omega) (fun r hm R' q' => ?_) ?_
  · have := hr r hm
    (try conv => whnf); (repeat (first | (refine Exists.intro _ (And.intro rfl ?_); conv => whnf) | (refine And.intro rfl ?_; conv => whnf) | (refine frz_lst ?_; conv => whnf) | (refine frz_dK ?_; conv => whnf) | (refine frz_dT ?_; conv => whnf) | (refine And.intro trivial ?_; conv => whnf) | (refine And.intro recL_upd ?_; conv => whnf) | (refine ⟨by (try simp only [List.length_cons, List.length_nil, List.length_map, List.length_append, List.length_drop, List.length_take, sizeLine_eq]); omega, ?_⟩; conv => whnf)))
    rw [show cTup (r ++ [0]) = W.tup (r.map W.int ++ [W.int 0]) by rw [show cTup (r ++ [0]) = W.tup ((r ++ [0]).map W.int) from rfl, List.map_append]; rfl] at q'
    exact q'
  rw [List.nil_append]
  refine frz_lst ?_
  conv => whnf
  refine compW_pure (f := cTup) (v := fun r => cTup (r ++ [1])) trivial (rows2 k) [] (by rw [sizeLine_eq]; simp; omega) (fun r hm R' q' => ?_) ?_
  · have := hr r hm
    (try conv => whnf); (repeat (first | (refine Exists.intro _ (And.intro rfl ?_); conv => whnf) | (refine And.intro rfl ?_; conv => whnf) | (refine frz_lst ?_; conv => whnf) | (refine frz_dK ?_; conv => whnf) | (refine frz_dT ?_; conv => whnf) | (refine And.intro trivial ?_; conv => whnf) | (refine And.intro recL_upd ?_; conv => whnf) | (refine ⟨by (try simp only [List.length_cons, List.length_nil, List.length_map, List.length_append, List.length_drop, List.length_take, sizeLine_eq]); omega, ?_⟩; conv => whnf)))
    rw [show cTup (r ++ [1]) = W.tup (r.map W.int ++ [W.int 1]) by rw [show cTup (r ++ [1]) = W.tup ((r ++ [1]).map W.int) from rfl, List.map_append]; rfl] at q'
    exact q'
  rw [List.nil_append]
  refine frz_lst ?_
  conv => whnf
  refine ⟨by rw [List.length_map, List.length_map, sizeLine_eq]; omega, frz_lst ?_⟩
  exact hN _ _ ⟨k + 1, _, _, by omega, by rw [show (rows2 (k + 1)).map cTup = (rows2 k).map (fun r => cTup (r ++ [0])) ++ (rows2 k).map fun r => cTup (r ++ [1]) by show ((rows2 k).map (fun r => r ++ [0]) ++ (rows2 k).map fun r => r ++ [1]).map cTup = _; rw [List.map_append, List.map_map, List.map_map]; rfl]; rfl, rfl⟩
end WS
set_option Elab.async false
set_option linter.all false
set_option maxRecDepth 100000
set_option maxHeartbeats 4000000
/-! LPn: the order of clauses, plainly: shorter ones first, then as tuples. -/
namespace WS
open PySem PySem.Spec PyProof.Rows L2 WL PySem.W
def LenLe (p q : List Int) : Prop := p.length < q.length ∨ (p.length = q.length ∧ p ≤ q)
instance (p q : List Int) : Decidable (LenLe p q) := by unfold LenLe; exact inferInstance
theorem alikeAll_ints : ∀ a b : List Int, alikeAll (a.map .int) (b.map .int) = true
  | [], [] => by simp [alikeAll]
  | [], _ :: _ => by simp [alikeAll]
  | _ :: _, [] => by simp [alikeAll]
  | x :: a, y :: b => by
    rw [List.map_cons, List.map_cons, alikeAll, alikeAll_ints a b, Bool.and_true]
    simp [alike]
theorem eqvAll_ints : ∀ a b : List Int, PyData.eqvAll (a.map .int) (b.map .int) = decide (a = b)
  | [], [] => by simp [PyData.eqvAll]
  | [], _ :: _ => by simp [PyData.eqvAll]
  | _ :: _, [] => by simp [PyData.eqvAll]
  | x :: a, y :: b => by
    rw [List.map_cons, List.map_cons, PyData.eqvAll, eqvAll_ints a b]
    simp only [PyData.eqv]
    by_cases h : x = y <;> by_cases h2 : a = b <;> simp [h, h2]
theorem dataLt_len (p q : List Int) : dataLt (lenKey p) (lenKey q) = decide (p.length < q.length ∨ (p.length = q.length ∧ p < q)) := by
  unfold lenKey
  rw [dataLt_pair (by simp [alike]) (by rw [alike]; exact alikeAll_ints p q)]
  have e1 : PyData.eqv (.int (p.length : Int)) (.int (q.length : Int)) = decide (p.length = q.length) := by
    simp only [PyData.eqv]
    by_cases h : p.length = q.length <;> simp [h] <;> omega
  have e2 : PyData.eqv (.tuple (p.map .int)) (.tuple (q.map .int)) = decide (p = q) := by
    simp only [PyData.eqv]; exact eqvAll_ints p q
  have e3 : dataLt (.tuple (p.map .int)) (.tuple (q.map .int)) = decide (p < q) := by
    rw [dataLt_tuple]; exact dataLt_ints p q
  rw [e1, e2, e3, dataLt_int]
  by_cases h : p.length = q.length
  · rw [decide_eq_true h, if_pos rfl]
    by_cases h2 : p = q
    · subst h2
      rw [decide_eq_true rfl, if_pos rfl]
      simp [List.lt_irrefl]
    · rw [decide_eq_false h2, if_neg (by decide)]
      refine decide_eq_decide.mpr ⟨fun z => .inr ⟨h, z⟩, fun z => ?_⟩
      rcases z with z | z
      · omega
      · exact z.2
  · rw [decide_eq_false h, if_neg (by decide)]
    refine decide_eq_decide.mpr ⟨fun z => .inl (by omega), fun z => ?_⟩
    rcases z with z | z
    · omega
    · exact absurd z.1 h
theorem dataLe_len : dataLe false lenKey = fun p q => decide (LenLe p q) := by
  funext p q
  show (!dataLt (lenKey q) (lenKey p)) = _
  rw [dataLt_len, Bool.eq_iff_iff, Bool.not_eq_true', decide_eq_false_iff_not, decide_eq_true_iff]
  unfold LenLe
  constructor
  · intro h
    by_cases h1 : p.length < q.length
    · exact .inl h1
    · have h2 : p.length = q.length := by
        have : ¬ q.length < p.length := fun z => h (.inl z)
        omega
      exact .inr ⟨h2, List.not_lt.mp fun z => h (.inr ⟨h2.symm, z⟩)⟩
  · rintro (h | ⟨h, h2⟩) (z | ⟨z, z2⟩)
    · omega
    · omega
    · omega
    · exact List.not_lt.mpr h2 z2
theorem LenLe.trans {p q r : List Int} (a : LenLe p q) (b : LenLe q r) : LenLe p r := by
  unfold LenLe at *
  rcases a with a | ⟨a, a2⟩ <;> rcases b with b | ⟨b, b2⟩
  · exact .inl (by omega)
  · exact .inl (by omega)
  · exact .inl (by omega)
  · exact .inr ⟨by omega, List.le_trans a2 b2⟩
theorem LenLe.total (p q : List Int) : LenLe p q ∨ LenLe q p := by
  unfold LenLe
  rcases Nat.lt_trichotomy p.length q.length with h | h | h
  · exact .inl (.inl h)
  · rcases List.le_total p q with z | z
    · exact .inl (.inr ⟨h, z⟩)
    · exact .inr (.inr ⟨h.symm, z⟩)
  · exact .inr (.inl h)
theorem LenLe.anti {p q : List Int} (a : LenLe p q) (b : LenLe q p) : p = q := by
  unfold LenLe at *
  rcases a with a | ⟨a, a2⟩ <;> rcases b with b | ⟨b, b2⟩
  · omega
  · omega
  · omega
  · exact List.le_antisymm a2 b2
theorem byLen_pw (bs : List (List Int)) : (byLen bs).Pairwise LenLe := by
  unfold byLen
  rw [dataLe_len]
  have := List.pairwise_mergeSort (le := fun p q : List Int => decide (LenLe p q)) (fun a b c h1 h2 => decide_eq_true ((of_decide_eq_true h1).trans (of_decide_eq_true h2))) (fun a b => by
    rw [Bool.or_eq_true, decide_eq_true_iff, decide_eq_true_iff]
    exact LenLe.total a b) bs
  exact this.imp fun h => of_decide_eq_true h
theorem len_uniq : ∀ {l m : List (List Int)}, l.Perm m → l.Pairwise LenLe → m.Pairwise LenLe → l = m
  | [], m, pm, _, _ => (List.nil_perm.mp pm).symm
  | a :: l, [], pm, _, _ => absurd pm.length_eq (by simp)
  | a :: l, b :: m, pm, p1, p2 => by
    rw [List.pairwise_cons] at p1 p2
    have e : a = b := by
      rcases List.mem_cons.mp (pm.mem_iff.mp List.mem_cons_self) with h | h
      · exact h
      · rcases List.mem_cons.mp (pm.mem_iff.mpr List.mem_cons_self) with h2 | h2
        · exact h2.symm
        · exact (p1.1 b h2).anti (p2.1 a h)
    subst e
    rw [len_uniq ((List.perm_cons a).mp pm) p1.2 p2.2]
theorem byLen_of {as bs : List (List Int)} (pm : as.Perm bs) (h : bs.Pairwise LenLe) : byLen as = bs := len_uniq ((byLen_perm as).trans pm) (byLen_pw as) h
theorem byLen_same {as bs : List (List Int)} (pm : as.Perm bs) : byLen as = byLen bs := byLen_of (pm.trans (byLen_perm bs).symm) (byLen_pw bs)
/-- the clauses of a problem hang on which clauses are told alone -/
theorem probCs_same {as bs : List (List Int)} (h : ∀ c, (∃ k ∈ as, tidy k = c) ↔ ∃ k ∈ bs, tidy k = c) : probCs as = probCs bs := by
  unfold probCs
  refine byLen_same ((List.perm_ext_iff_of_nodup (dedX_nodup _ _ .nil) (dedX_nodup _ _ .nil)).mpr fun c => ?_)
  rw [dedX_mem, dedX_mem, List.mem_map, List.mem_map]
  simp only [List.not_mem_nil, false_or]
  exact h c
theorem probCs_nodup (cs : List (List Int)) : (probCs cs).Nodup := by unfold probCs; exact (byLen_perm _).nodup_iff.mpr (dedX_nodup _ _ .nil)
/-- a problem's clauses make the problem again -/
theorem probCs_self {many : Int} {cs : List (List Int)} (hc : ∀ c ∈ probCs cs, ClauseOf many c) : probCs (probCs cs) = probCs cs := by
  refine probCs_same fun c => ?_
  constructor
  · rintro ⟨k, hk, rfl⟩
    rw [(hc k hk).tidy]
    exact probCs_mem.mp hk
  · rintro h
    have h := probCs_mem.mpr h
    exact ⟨c, h, (hc c h).tidy⟩
theorem dedX_self_len {many : Int} {cs : List (List Int)} (hc : ∀ c ∈ cs, ClauseOf many c) (nd : cs.Nodup) : dedX [] (cs.map tidy) = cs := by
  rw [show cs.map tidy = cs by conv => rhs; rw [← List.map_id cs]
                               exact List.map_congr_left fun c h => (hc c h).tidy]
  rw [dedX_self _ _ (by simpa using nd)]; rfl
/-- told backwards -/
theorem tidy_rev {many : Int} {c : List Int} (t : TellOf many c) : tidy c.reverse = tidy c := by
  refine abs_uniq ?_ (byAbs_pw _) (byAbs_pw _) t.tidy.nd
  refine (List.perm_ext_iff_of_nodup t.rev.tidy.nd0 t.tidy.nd0).mpr fun l => ?_
  rw [tidy_mem, tidy_mem, List.mem_reverse]
end WS
set_option Elab.async false
set_option linter.all false
set_option maxRecDepth 100000
set_option maxHeartbeats 4000000
/-! LTa: the texts of small numbers, by going through them. -/
namespace WS
open PySem PySem.Spec PyProof.Rows L2 WL
theorem num_facts : ∀ n : Fin 1000, 1 ≤ n.val → (1 ≤ (Str.ofString (toString ((n.val : Int)))).length ∧ (Str.ofString (toString ((n.val : Int)))).length ≤ 3 ∧ (Str.ofString (toString ((n.val : Int)))).cps.toList.all (fun c => decide (48 ≤ c) && decide (c ≤ 57)) = true ∧ (Str.ofString (toString ((n.val : Int)))).cps.toList.head? ≠ some 48) := by decide +kernel
theorem cut_facts : ∀ n : Fin 1000, 1 ≤ n.val → (cutS (Str.ofString (toString ((n.val : Int)))) none (some 1) ≠ "-" ∧ (Str.ofString (toString (-(n.val : Int)))).length ≤ 4 ∧ cutS (Str.ofString (toString (-(n.val : Int)))) none (some 1) = "-" ∧ cutS (Str.ofString (toString (-(n.val : Int)))) (some 1) none = Str.ofString (toString ((n.val : Int)))) := by decide +kernel
theorem neg_facts : ∀ n : Fin 1000, 1 ≤ n.val → (Str.ofString (toString (-(n.val : Int)))).cps.toList = 45 :: (Str.ofString (toString ((n.val : Int)))).cps.toList := by decide +kernel
/-- the signs of a letter's text -/
theorem let_signs {l : Int} (h : LetOf 999 l) : ∀ c ∈ (Str.ofString (toString l)).cps.toList, c = 45 ∨ (48 ≤ c ∧ c ≤ 57) := by
  have pos : ∀ n : Int, 1 ≤ n → n ≤ 999 → ∀ c ∈ (Str.ofString (toString n)).cps.toList, 48 ≤ c ∧ c ≤ 57 := fun n h1 h2 c hc => by
    have f := (num_facts ⟨n.toNat, by omega⟩ (by show 1 ≤ n.toNat; omega)).2.2.1
    have e : ((n.toNat : Nat) : Int) = n := by omega
    dsimp only at f
    rw [e] at f
    have := List.all_eq_true.mp f c hc
    rw [Bool.and_eq_true, decide_eq_true_iff, decide_eq_true_iff] at this
    exact this
  intro c hc
  rcases h.cases with ⟨a, b⟩ | ⟨k, rfl, a, b⟩
  · exact .inr (pos l a b c hc)
  · have f := neg_facts ⟨k.toNat, by omega⟩ (by show 1 ≤ k.toNat; omega)
    have e : ((k.toNat : Nat) : Int) = k := by omega
    dsimp only at f
    rw [e] at f
    rw [f] at hc
    rcases List.mem_cons.mp hc with rfl | hc
    · exact .inl rfl
    · exact .inr (pos k a b c hc)
end WS
set_option Elab.async false
set_option linter.all false
set_option maxRecDepth 100000
set_option maxHeartbeats 4000000
namespace WS
open PySem PySem.Spec PyProof.Rows L2 WL
/-- a clause, as it is written -/
def ltT (ns : List Int) : Str := if ns = [] then "-" else Str.join " " (ns.map fun n => Str.ofString (toString n))
/-- a number's text -/
abbrev nT (n : Int) : Str := Str.ofString (toString n)
theorem nT_facts {n : Int} (h1 : 1 ≤ n) (h2 : n ≤ 999) : 1 ≤ (nT n).length ∧ (nT n).length ≤ 3 ∧ (nT n).cps.toList.all (fun c => decide (48 ≤ c) && decide (c ≤ 57)) = true ∧ (nT n).cps.toList.head? ≠ some 48 := by
  have := num_facts ⟨n.toNat, by omega⟩ (by show 1 ≤ n.toNat; omega)
  have e : ((n.toNat : Nat) : Int) = n := by omega
  dsimp only at this
  rwa [e] at this
theorem cut_num {n : Int} (h1 : 1 ≤ n) (h2 : n ≤ 999) : cutS (nT n) none (some 1) ≠ "-" ∧ (nT (-n)).length ≤ 4 ∧ cutS (nT (-n)) none (some 1) = "-" ∧ cutS (nT (-n)) (some 1) none = nT n := by
  have := cut_facts ⟨n.toNat, by omega⟩ (by show 1 ≤ n.toNat; omega)
  have e : ((n.toNat : Nat) : Int) = n := by omega
  dsimp only at this
  rwa [e] at this
/-! ### letters_text -/
abbrev N_letters_text : List Str := ["letters", "letter"]
structure P_letters_text (ws : List W) (G : GH) (R : KW) (RX : XW) : Prop where
  ex : ∃ (ns : List Int), ws = [cTup ns] ∧ (ns.length ≤ 1000) ∧ (∀ n ∈ ns, n.natAbs < 1000) ∧ (R (.str (ltT ns)) G)
theorem len_letters_text : ∀ ws G R RX, P_letters_text ws G R RX → ws.length = ["letters"].length := by
  rintro ws G R RX ⟨⟨_, rfl, _, _, _⟩⟩; rfl
theorem p_letters_text {ns : List Int} {G : GH} {R : KW} {RX : XW} (hl : ns.length ≤ 1000) (hb : ∀ n ∈ ns, n.natAbs < 1000) (q : R (.str (ltT ns)) G) : P_letters_text [cTup ns] G R RX := ⟨ns, rfl, hl, hb, q⟩
def T_letters_text : TWS :=
  (sRet (tIfE (tTestW (tOpW gtW (tCW lenQ (tCo (tV 0) tN)) (tK (.int 0)))) (tJoinC (tK (.str " ")) (tCompI (tISeq (tV 0)) (gN 1) tYesW (tCW toStrW (tCo (tV 1) tN)) [1])) (tK (.str "-"))))
theorem rd_letters_text (ws : List W) (G : GH) (R : KW) (RX : XW) (h : P_letters_text ws G R RX) : T_letters_text { nx := fun _ G' => fgt R .non G', rt := fgt R } (startW N_letters_text ws) G := by
  obtain ⟨ns, rfl, hl, hb, q⟩ := h
  conv => whnf
  by_cases hn : ns = []
  · subst hn
    conv => whnf
    exact ret q
  · have h0 : 0 < ns.length := List.length_pos_iff.mpr hn
    rw [decide_eq_true (show (0 : Int) < ((ns.map W.int).length : Nat) by rw [List.length_map]; omega)]
    conv => whnf
    refine ⟨⟨_, rfl⟩, ?_⟩
    conv => whnf
    refine compW_pure (f := W.int) (v := fun n => W.str (Str.ofString (toString n))) trivial ns [] (by simp only [List.length_nil, sizeLine_eq]; omega) (fun n hn R' q' => ?_) ?_
    · conv => whnf
      exact ⟨log2_lt (Nat.lt_trans (hb n hn) (by decide)) (by decide), q'⟩
    · rw [List.nil_append, show (ns.map fun n => W.str (Str.ofString (toString n))) = (ns.map fun n => Str.ofString (toString n)).map W.str by rw [List.map_map]; rfl]
      refine joinW_of 5 (fun x hx => ?_) ?_ ?_
      · obtain ⟨n, hn, rfl⟩ := List.mem_map.mp hx
        exact txt_int_len (k := 4) (by decide) (Nat.lt_trans (hb n hn) (by decide))
      · rw [List.length_map]
        have e : (" " : Str).length = 1 := by decide
        rw [e]; omega
      · have e : ltT ns = Str.join " " (ns.map fun n => Str.ofString (toString n)) := if_neg hn
        rw [e] at q
        exact ret q
/-! ### number_of -/
abbrev N_number_of : List Str := ["word", "sign"]
structure P_number_of (ws : List W) (G : GH) (R : KW) (RX : XW) : Prop where
  ex : ∃ (n : Int), ws = [.str (nT n)] ∧ (1 ≤ n) ∧ (n ≤ 999) ∧ (R (.int n) G)
theorem len_number_of : ∀ ws G R RX, P_number_of ws G R RX → ws.length = ["word"].length := by
  rintro ws G R RX ⟨⟨_, rfl, _, _, _⟩⟩; rfl
theorem p_number_of {n : Int} {G : GH} {R : KW} {RX : XW} (h1 : 1 ≤ n) (h2 : n ≤ 999) (q : R (.int n) G) : P_number_of [.str (nT n)] G R RX := ⟨n, rfl, h1, h2, q⟩
def T_number_of : TWS :=
  (sSeq (sIf (tOrW (tNotW (tTestW (tChainW leW leW (tK (.int 1)) (tCW lenQ (tCo (tV 0) tN)) (tK (.int 3))))) (tOrW (tTestW (tOpW (eqQ false) (tOpW ixW (tV 0) (tK (.int 0))) (tK (.str "0")))) (tNotW (tTruW (tCF (fBols fun bs => bs.all fun b => b) (tCompI (tIStr (tV 0)) (gN 1) tYesW (tOpW (inQ false) (tV 1) (tK (.str "0123456789"))) [1])))))) (sRet (tK .non)) sNext)
    (sRet (tCW toIntW (tCo (tV 0) tN))))
theorem rd_number_of (ws : List W) (G : GH) (R : KW) (RX : XW) (h : P_number_of ws G R RX) : T_number_of { nx := fun _ G' => fgt R .non G', rt := fgt R } (startW N_number_of ws) G := by
  obtain ⟨n, rfl, h1, h2, q⟩ := h
  obtain ⟨f1, f2, f3, f4⟩ := nT_facts h1 h2
  have hn : PySem.intText? (nT n) = some n := PySem.W.KIN.num_reads (n := n) (by omega) (by omega)
  generalize ex : nT n = x at f1 f2 f3 f4 hn
  have hlen : x.length = x.cps.toList.length := by show x.cps.size = _; rw [Array.length_toList]
  obtain ⟨c, cs, ec⟩ : ∃ c cs, x.cps.toList = c :: cs := by
    cases e : x.cps.toList with
    | nil => rw [e] at hlen; rw [hlen] at f1; exact absurd f1 (by decide)
    | cons a b => exact ⟨a, b, rfl⟩
  have hc48 : c ≠ 48 := by
    rw [ec] at f4
    intro e
    exact f4 (by rw [e]; rfl)
  conv => whnf
  refine ⟨by rw [sizeLine_eq]; omega, ?_⟩
  conv => whnf
  rw [decide_eq_true (show (1 : Int) ≤ (x.length : Int) by omega)]
  conv => whnf
  rw [decide_eq_true (show (x.length : Int) ≤ 3 by omega)]
  conv => whnf
  refine ⟨by rw [sizeLine_eq]; omega, c, by rw [ec]; exact atI_hd _ _, ?_⟩
  refine eq_str ?_
  have hne : ((⟨#[c]⟩ : Str) = ("0" : Str)) = False := by
    refine eq_false fun e => hc48 ?_
    have := congrArg (fun s : Str => s.cps.toList) e
    have h48 : ("0" : Str).cps.toList = [48] := by decide
    rw [h48] at this
    exact (List.cons.inj this).1
  rw [show decide ((⟨#[c]⟩ : Str) = ("0" : Str)) = false from decide_eq_false (by rw [hne]; exact id)]
  conv => whnf
  refine compW_pure (f := fun c : Nat => W.str ⟨#[c]⟩) (v := fun _ => W.bl true) trivial x.cps.toList [] (by rw [sizeLine_eq, ← hlen]; simp; omega) (fun u hu R' q' => ?_) ?_
  · conv => whnf
    have hd := List.all_eq_true.mp f3 u hu
    rw [Bool.and_eq_true, decide_eq_true_iff, decide_eq_true_iff] at hd
    refine ⟨.inl ⟨u, rfl, ?_⟩⟩
    rw [show decide (u ∈ (Str.ofString "0123456789").cps.toList) = true by
      have e : (Str.ofString "0123456789").cps.toList = [48, 49, 50, 51, 52, 53, 54, 55, 56, 57] := by decide
      rw [e, decide_eq_true_iff]
      simp only [List.mem_cons, List.not_mem_nil, or_false]
      omega]
    exact q'
  rw [List.nil_append, show (x.cps.toList.map fun _ => W.bl true) = (x.cps.toList.map fun _ => true).map W.bl by rw [List.map_map]; rfl]
  unfold fBols
  rw [blsOf_map]
  dsimp only
  rw [show ((x.cps.toList.map fun _ => true).all fun b => b) = true by rw [List.all_map]; exact List.all_eq_true.mpr fun _ _ => rfl]
  conv => whnf
  refine ⟨n, hn, by omega, ?_⟩
  exact ret q
/-! ### letter_of -/
abbrev N_letter_of : List Str := ["word", "number"]
structure P_letter_of (ws : List W) (G : GH) (R : KW) (RX : XW) : Prop where
  ex : ∃ (l : Int), ws = [.str (nT l)] ∧ (LetOf 999 l) ∧ (R (.int l) G)
theorem len_letter_of : ∀ ws G R RX, P_letter_of ws G R RX → ws.length = ["word"].length := by
  rintro ws G R RX ⟨⟨_, rfl, _, _⟩⟩; rfl
theorem p_letter_of {l : Int} {G : GH} {R : KW} {RX : XW} (h1 : LetOf 999 l) (q : R (.int l) G) : P_letter_of [.str (nT l)] G R RX := ⟨l, rfl, h1, q⟩
def T_letter_of : TWS :=
  (sSeq (sSet 1 (tCall0 P_number_of [] (tCo (tIfE (tTestW (tOpW (eqQ false) (tFz (tSliceW (tV 0) tNoP (tP (tK (.int 1))))) (tK (.str "-")))) (tFz (tSliceW (tV 0) (tP (tK (.int 1))) tNoP)) (tV 0)) tN)))
    (sRet (tIfE (tTestW (tOpW (isW false) (tV 1) (tK .non))) (tK .non) (tOpW mulW (tV 1) (tOpW ixW (tFz (tLstW (tCo (tK (.int 1)) (tCo (tNegW (tK (.int 1))) tN)))) (tCW toIntW (tCo (tOpW (eqQ false) (tFz (tSliceW (tV 0) tNoP (tP (tK (.int 1))))) (tK (.str "-"))) tN)))))))
theorem rd_letter_of (ws : List W) (G : GH) (R : KW) (RX : XW) (h : P_letter_of ws G R RX) : T_letter_of { nx := fun _ G' => fgt R .non G', rt := fgt R } (startW N_letter_of ws) G := by
  obtain ⟨l, rfl, h1, q⟩ := h
  rcases h1.cases with ⟨a, b⟩ | ⟨k, rfl, a, b⟩
  · have f := nT_facts a b
    obtain ⟨c1, _, _, _⟩ := cut_num a b
    conv => whnf
    refine ⟨by rw [sizeLine_eq]; omega, ?_⟩
    conv => whnf
    refine eq_str ?_
    rw [decide_eq_false (show ¬ cutS (nT l) none (some 1) = Str.ofString "-" from c1)]
    conv => whnf
    refine p_number_of a b ?_
    conv => whnf
    refine ⟨sz2 _ _, frz_lst ?_⟩
    conv => whnf
    refine ⟨by rw [sizeLine_eq]; omega, ?_⟩
    conv => whnf
    refine eq_str ?_
    rw [decide_eq_false (show ¬ cutS (nT l) none (some 1) = Str.ofString "-" from c1)]
    conv => whnf
    refine ⟨_, rfl, ?_⟩
    conv => whnf
    refine ⟨cmul_r (by decide) (by decide), ?_⟩
    rw [Int.mul_one]
    exact ret q
  · obtain ⟨_, c2, c3, c4⟩ := cut_num a b
    conv => whnf
    refine ⟨by rw [sizeLine_eq]; omega, ?_⟩
    conv => whnf
    refine eq_str ?_
    rw [decide_eq_true (show cutS (nT (-k)) none (some 1) = Str.ofString "-" from c3)]
    conv => whnf
    refine ⟨by rw [sizeLine_eq]; omega, ?_⟩
    rw [c4]
    conv => whnf
    refine p_number_of a b ?_
    conv => whnf
    refine ⟨sz2 _ _, frz_lst ?_⟩
    conv => whnf
    refine ⟨by rw [sizeLine_eq]; omega, ?_⟩
    conv => whnf
    refine eq_str ?_
    rw [decide_eq_true (show cutS (nT (-k)) none (some 1) = Str.ofString "-" from c3)]
    conv => whnf
    refine ⟨_, rfl, ?_⟩
    conv => whnf
    refine ⟨cmul_r (by decide) (by decide), ?_⟩
    rw [show k * -1 = -k by omega]
    exact ret q
/-! ### letters_of -/
abbrev N_letters_of : List Str := ["words", "found", "word"]
structure P_letters_of (ws : List W) (G : GH) (R : KW) (RX : XW) : Prop where
  ex : ∃ (c : List Int), ws = [.fl (c.map fun l => W.str (nT l))] ∧ (∀ l ∈ c, LetOf 999 l) ∧ (c.length ≤ 1000) ∧ (R (cTup c) G)
theorem len_letters_of : ∀ ws G R RX, P_letters_of ws G R RX → ws.length = ["words"].length := by
  rintro ws G R RX ⟨⟨_, rfl, _, _, _⟩⟩; rfl
theorem p_letters_of {c : List Int} {G : GH} {R : KW} {RX : XW} (hc : ∀ l ∈ c, LetOf 999 l) (hl : c.length ≤ 1000) (q : R (cTup c) G) : P_letters_of [.fl (c.map fun l => W.str (nT l))] G R RX := ⟨c, rfl, hc, hl, q⟩
def T_letters_of : TWS :=
  (sSeq (sSet 1 (tFz (tComp (tISeq (tV 0)) (gN 2) tYesW (tCall0 P_letter_of [] (tCo (tV 2) tN)) [2])))
    (sRet (tIfE (tTestW (tOpW (inQ false) (tK .non) (tV 1))) (tK .non) (tCW toTupW (tCo (tV 1) tN)))))
theorem rd_letters_of (ws : List W) (G : GH) (R : KW) (RX : XW) (h : P_letters_of ws G R RX) : T_letters_of { nx := fun _ G' => fgt R .non G', rt := fgt R } (startW N_letters_of ws) G := by
  obtain ⟨c, rfl, hc, hl, q⟩ := h
  conv => whnf
  refine compW_pure (f := fun l : Int => W.str (nT l)) (v := W.int) trivial c [] (by rw [sizeLine_eq]; simp; omega) (fun l hm R' q' => ?_) ?_
  · exact p_letter_of (hc l hm) q'
  rw [List.nil_append]
  refine frz_lst ?_
  conv => whnf
  refine ⟨⟨.none, c.map .int, .non, PDs.ints c, by decide, ?_⟩⟩
  rw [show ((c.map PyData.int).any fun y => PyData.eqv y .none) = false by
    rw [List.any_map, List.any_eq_false]
    intro x _
    simp [PyData.eqv]]
  conv => whnf
  exact ret q
/-! ### clause_row -/
abbrev N_clause_row : List Str := ["row"]
structure P_clause_row (ws : List W) (G : GH) (R : KW) (RX : XW) : Prop where
  ex : ∃ (c : List Int), ws = [.str (ltT c)] ∧ (∀ l ∈ c, LetOf 999 l) ∧ (c.length ≤ 1000) ∧ (R (cTup c) G)
theorem len_clause_row : ∀ ws G R RX, P_clause_row ws G R RX → ws.length = ["row"].length := by
  rintro ws G R RX ⟨⟨_, rfl, _, _, _⟩⟩; rfl
theorem p_clause_row {c : List Int} {G : GH} {R : KW} {RX : XW} (hc : ∀ l ∈ c, LetOf 999 l) (hl : c.length ≤ 1000) (q : R (cTup c) G) : P_clause_row [.str (ltT c)] G R RX := ⟨c, rfl, hc, hl, q⟩
def T_clause_row : TWS :=
  (sRet (tIfE (tTestW (tOpW (eqQ false) (tV 0) (tK (.str "-")))) (tTupW tN) (tCall0 P_letters_of [] (tCo (tFz (tSplitW (tV 0) (tK (.str " ")))) tN))))
theorem rd_clause_row (ws : List W) (G : GH) (R : KW) (RX : XW) (h : P_clause_row ws G R RX) : T_clause_row { nx := fun _ G' => fgt R .non G', rt := fgt R } (startW N_clause_row ws) G := by
  obtain ⟨c, rfl, hc, hl, q⟩ := h
  conv => whnf
  refine eq_str ?_
  by_cases hn : c = []
  · subst hn
    rw [show decide (ltT [] = Str.ofString "-") = true by decide]
    conv => whnf
    exact ⟨sz0, ret q⟩
  have hsp : Txt.split (ltT c) (Str.ofString " ") = c.map fun l => nT l := by
    have e : ltT c = Txt.join (Str.ofString " ") (c.map fun l => nT l) := by rw [txt_join]; exact if_neg hn
    rw [e]
    refine TL.split_join (s := 32) (S := []) (by decide) (by decide +kernel) (by simpa using hn) fun p hp hm => ?_
    obtain ⟨l, hl, rfl⟩ := List.mem_map.mp hp
    have := let_signs (hc l hl) 32 hm
    omega
  have hlen : (ltT c).length ≤ 5000 := by
    have e : ltT c = Str.join (Str.ofString " ") (c.map fun l => nT l) := if_neg hn
    rw [e]
    have := join_len (sep := Str.ofString " ") (B := 4) (xs := c.map fun l => nT l) fun x hx => by
      obtain ⟨l, hl, rfl⟩ := List.mem_map.mp hx
      rcases (hc l hl).cases with ⟨a, b⟩ | ⟨k, rfl, a, b⟩
      · have := (nT_facts a b).2.1; omega
      · exact (cut_num a b).2.1
    rw [List.length_map, show (Str.ofString " ").length = 1 by decide] at this
    omega
  have hne : ¬ ltT c = Str.ofString "-" := fun e => by
    rw [e, show Txt.split (Str.ofString "-") (Str.ofString " ") = [Str.ofString "-"] by decide +kernel] at hsp
    cases c with
    | nil => exact hn rfl
    | cons l c =>
      rw [List.map_cons] at hsp
      injection hsp with hsp _
      rcases (hc l List.mem_cons_self).cases with ⟨a, b⟩ | ⟨k, rfl, a, b⟩
      · have f := (nT_facts a b).2.2.1
        rw [← hsp] at f
        exact absurd f (by decide)
      · have f := neg_facts ⟨k.toNat, by omega⟩ (by show 1 ≤ k.toNat; omega)
        have g := (nT_facts a b).1
        have e : ((k.toNat : Nat) : Int) = k := by omega
        dsimp only at f
        rw [e, ← show Str.ofString "-" = Str.ofString (toString (-k)) from hsp] at f
        have h45 : (Str.ofString "-").cps.toList = [45] := by decide
        rw [h45] at f
        have f2 : (nT k).cps.toList = [] := (List.cons.inj f).2.symm
        have : (nT k).length = 0 := by show (nT k).cps.size = 0; rw [← Array.length_toList, f2]; rfl
        omega
  rw [decide_eq_false hne]
  conv => whnf
  refine ⟨by decide, by rw [sizeLine_eq]; omega, ?_⟩
  rw [hsp]
  refine frz_lst ?_
  conv => whnf
  rw [List.map_map]
  refine p_letters_of hc hl ?_
  exact ret q
end WS
set_option Elab.async false
set_option linter.all false
set_option maxRecDepth 100000
set_option maxHeartbeats 4000000
/-! LTb: a problem's first row, by going through the numbers. -/
namespace WS
open PySem PySem.Spec PyProof.Rows L2 WL
theorem head_facts : ∀ n : Fin 1000, cutS ("truths " ++ Str.ofString (toString ((n.val : Int)))) none (some 7) = "truths " ∧ cutS ("truths " ++ Str.ofString (toString ((n.val : Int)))) (some 7) none = Str.ofString (toString ((n.val : Int))) := by decide +kernel
theorem cut_head {n : Int} (h1 : 0 ≤ n) (h2 : n ≤ 999) : cutS ("truths " ++ nT n) none (some 7) = "truths " ∧ cutS ("truths " ++ nT n) (some 7) none = nT n := by
  have := head_facts ⟨n.toNat, by omega⟩
  have e : ((n.toNat : Nat) : Int) = n := by omega
  dsimp only at this
  rwa [e] at this
theorem mem_join {sep : Str} {c : Nat} : ∀ {xs : List Str}, c ∈ (Str.join sep xs).cps.toList → c ∈ sep.cps.toList ∨ ∃ x ∈ xs, c ∈ x.cps.toList
  | [], h => by cases h
  | [x], h => .inr ⟨x, List.mem_cons_self, h⟩
  | x :: y :: xs, h => by
    have h : c ∈ (x ++ sep ++ Str.join sep (y :: xs)).cps.toList := h
    rw [Str.cps_append, Str.cps_append, Array.toList_append, Array.toList_append] at h
    rcases List.mem_append.mp h with h | h
    · rcases List.mem_append.mp h with h | h
      · exact .inr ⟨x, List.mem_cons_self, h⟩
      · exact .inl h
    · rcases mem_join h with h | ⟨z, hz, h⟩
      · exact .inl h
      · exact .inr ⟨z, List.mem_cons_of_mem _ hz, h⟩
theorem ltT_signs {c : List Int} (hc : ∀ l ∈ c, LetOf 999 l) : (10 : Nat) ∉ (ltT c).cps.toList := by
  intro h
  by_cases hn : c = []
  · subst hn; revert h; decide
  have e : ltT c = Str.join (Str.ofString " ") (c.map fun l => nT l) := if_neg hn
  rw [e] at h
  rcases mem_join h with h | ⟨x, hx, h⟩
  · revert h; decide
  · obtain ⟨l, hl, rfl⟩ := List.mem_map.mp hx
    have := let_signs (hc l hl) 10 h
    omega
theorem head_signs {n : Int} (h1 : 1 ≤ n) (h2 : n ≤ 999) : (10 : Nat) ∉ ("truths " ++ nT n : Str).cps.toList := by
  intro h
  rw [Str.cps_append, Array.toList_append] at h
  rcases List.mem_append.mp h with h | h
  · revert h; decide
  · have := let_signs (l := n) (LetOf.ofPos h1 h2) 10 h
    omega
end WS
set_option Elab.async false
set_option linter.all false
set_option maxRecDepth 100000
set_option maxHeartbeats 4000000
namespace WS
open PySem PySem.Spec PyProof.Rows L2 WL
theorem prob_tell {x : Addr} {many : Int} {ds : List (List Int)} {G : GH} {R : KW} {RX : XW} (hx : G x = none) (h0 : 1 ≤ many) (h4 : many ≤ 400) (hds : ∀ c ∈ ds, TellOf many c) (hl : ds.length ≤ 4000) (hk : (dedX [] (ds.map tidy)).length ≤ 400) (q : R (probW many (probCs ds)) G) :
    P_Problem___init__ [.ref x, .int many, .fl (ds.map cTup)] (updG G x (.ins "Problem" [])) (fun w G2 => w = .non ∧ frzK R (.ref x) G2) RX := by
  have e1 : (ds.map fun c => (cTup c, c)).map (·.1) = ds.map cTup := by rw [List.map_map]; rfl
  have e2 : (ds.map fun c => (cTup c, c)).map (·.2) = ds := by rw [List.map_map]; exact List.map_id ds
  refine p_Problem___init__ (zs := ds.map fun c => (cTup c, c)) h0 h4 updG_same (.inl (by rw [e1])) (fun z hz => ?_) (by rw [List.length_map]; omega) ?_ ?_
  · obtain ⟨c, hc, rfl⟩ := List.mem_map.mp hz
    exact ⟨rfl, hds c hc⟩
  · rw [e2]; exact hk
  · rw [e2, updG_upd]
    refine ⟨rfl, frz_atI updG_same ?_⟩
    rw [offG_upd hx]
    exact q
theorem ltT_len {c : List Int} (hc : ∀ l ∈ c, LetOf 999 l) (hl : c.length ≤ 1000) : (ltT c).length ≤ 5000 := by
  by_cases hn : c = []
  · subst hn; decide
  have e : ltT c = Str.join (Str.ofString " ") (c.map fun l => nT l) := if_neg hn
  rw [e]
  have := join_len (sep := Str.ofString " ") (B := 4) (xs := c.map fun l => nT l) fun x hx => by
    obtain ⟨l, hl, rfl⟩ := List.mem_map.mp hx
    rcases (hc l hl).cases with ⟨a, b⟩ | ⟨k, rfl, a, b⟩
    · have := (nT_facts a b).2.1; omega
    · exact (cut_num a b).2.1
  rw [List.length_map, show (Str.ofString " ").length = 1 by decide] at this
  omega
/-- a problem's lines, and its text -/
def probRows (many : Int) (cs : List (List Int)) : List Str := ("truths " ++ nT many) :: cs.map ltT
def probT (many : Int) (cs : List (List Int)) : Str := Str.join "" ((probRows many cs).map fun r => r ++ "\n")
/-! ### problem_text -/
abbrev N_problem_text : List Str := ["problem", "rows", "clause", "row"]
structure P_problem_text (ws : List W) (G : GH) (R : KW) (RX : XW) : Prop where
  ex : ∃ (many : Int) (cs : List (List Int)), ws = [probW many cs] ∧ (1 ≤ many) ∧ (many ≤ 400) ∧ (∀ c ∈ cs, ClauseOf many c) ∧ (cs.length ≤ 400) ∧ (R (.str (probT many cs)) G)
theorem len_problem_text : ∀ ws G R RX, P_problem_text ws G R RX → ws.length = ["problem"].length := by
  rintro ws G R RX ⟨⟨_, _, rfl, _, _, _, _, _⟩⟩; rfl
theorem p_problem_text {many : Int} {cs : List (List Int)} {G : GH} {R : KW} {RX : XW} (h0 : 1 ≤ many) (h4 : many ≤ 400) (hc : ∀ c ∈ cs, ClauseOf many c) (hl : cs.length ≤ 400) (q : R (.str (probT many cs)) G) : P_problem_text [probW many cs] G R RX := ⟨many, cs, rfl, h0, h4, hc, hl, q⟩
def T_problem_text : TWS :=
  (sSeq (sSet 1 (tFz (tOpW addW (tFz (tLstW (tCo (tJoinedW [(tK (.str "truths ")), (tFmtW (tFldW "Problem" "many" (tV 0)))]) tN))) (tFz (tComp (tISeq (tFldW "Problem" "clauses" (tV 0))) (gN 2) tYesW (tCall0 P_letters_text [] (tCo (tV 2) tN)) [2])))))
    (sRet (tJoinC (tK (.str "")) (tCompI (tISeq (tV 1)) (gN 3) tYesW (tOpW addW (tV 3) (tK (.str "\n"))) [3]))))
theorem rd_problem_text (ws : List W) (G : GH) (R : KW) (RX : XW) (h : P_problem_text ws G R RX) : T_problem_text { nx := fun _ G' => fgt R .non G', rt := fgt R } (startW N_problem_text ws) G := by
  obtain ⟨many, cs, rfl, h0, h4, hc, hl, q⟩ := h
  have e1 : (nT many).length ≤ 3 := (nT_facts h0 (by omega)).2.1
  have e2 : (Str.ofString "truths ").length = 7 := by decide
  conv => whnf
  refine ⟨_, rfl, by rw [Str.empty_append, e2, sizeLine_eq]; decide, ?_⟩
  rw [Str.empty_append]
  conv => whnf
  refine ⟨rfl, ?_⟩
  conv => whnf
  refine ⟨log2_lt (n := many.natAbs) (k := 1920) (Nat.lt_trans (show many.natAbs < 2 ^ 10 by omega) (Nat.pow_lt_pow_right (by decide) (by decide))) (by decide), ?_⟩
  conv => whnf
  refine ⟨_, rfl, by rw [Str.length_append, e2, sizeLine_eq]; have : (Str.ofString (toString many)).length ≤ 3 := e1; omega, ?_⟩
  conv => whnf
  refine ⟨sz1 _, frz_lst ?_⟩
  conv => whnf
  refine ⟨rfl, ?_⟩
  conv => whnf
  have hc9 : ∀ c ∈ cs, (∀ l ∈ c, LetOf 999 l) ∧ c.length ≤ 1000 := fun c hm => ⟨fun l hl => let h := (hc c hm).mem l hl; ⟨h.1, Int.le_trans h.2 (by omega)⟩, by have := (hc c hm).len (by omega); omega⟩
  refine compW_pure (f := cTup) (v := fun c => W.str (ltT c)) trivial cs [] (by rw [sizeLine_eq]; simp; omega) (fun c hm R' q' => ?_) ?_
  · conv => whnf
    exact p_letters_text (hc9 c hm).2 (fun n hn => by have := (hc9 c hm).1 n hn; rcases this.cases with ⟨a, b⟩ | ⟨k, rfl, a, b⟩ <;> omega) q'
  rw [List.nil_append, show (cs.map fun c => W.str (ltT c)) = (cs.map ltT).map W.str by rw [List.map_map]; rfl]
  refine frz_lst ?_
  conv => whnf
  refine ⟨by rw [sizeLine_eq, List.length_map, List.length_map]; show 1 + cs.length ≤ _; omega, frz_lst ?_⟩
  conv => whnf
  refine ⟨⟨_, rfl⟩, ?_⟩
  conv => whnf
  have eR : [W.str (Str.ofString "truths " ++ Str.ofString (toString many))] ++ (cs.map ltT).map W.str = (probRows many cs).map W.str := rfl
  rw [eR]
  have hrl : ∀ r ∈ probRows many cs, r.length ≤ 5000 := fun r hr => by
    rcases List.mem_cons.mp hr with rfl | hr
    · rw [Str.length_append]; have : ("truths " : Str).length = 7 := by decide
      omega
    · obtain ⟨c, hm, rfl⟩ := List.mem_map.mp hr
      exact ltT_len (hc9 c hm).1 (hc9 c hm).2
  have en : ("\n" : Str).length = 1 := by decide
  have eL : (probRows many cs).length = cs.length + 1 := by unfold probRows; rw [List.length_cons, List.length_map]
  refine compW_pure (f := W.str) (v := fun r => W.str (r ++ "\n")) trivial (probRows many cs) [] (by rw [sizeLine_eq, eL]; simp; omega) (fun r hr R' q' => ?_) ?_
  · conv => whnf
    refine ⟨by rw [sizeLine_eq]; have := hrl r hr; rw [show (Str.ofString "\n").length = 1 by decide]; omega, q'⟩
  rw [List.nil_append, show ((probRows many cs).map fun r => W.str (r ++ Str.ofString "\n")) = ((probRows many cs).map fun r => r ++ Str.ofString "\n").map W.str by rw [List.map_map]; rfl]
  refine joinW_of 5001 (fun x hx => ?_) ?_ ?_
  · obtain ⟨r, hr, rfl⟩ := List.mem_map.mp hx
    rw [Str.length_append, en]; have := hrl r hr; omega
  · rw [List.length_map, eL, show (Str.ofString "").length = 0 by decide]; omega
  · exact ret q
/-! ### rows_of -/
abbrev N_rows_of : List Str := ["text", "rows", "rest"]
structure P_rows_of (ws : List W) (G : GH) (R : KW) (RX : XW) : Prop where
  ex : ∃ (rs : List Str), ws = [.str (Str.join "" (rs.map fun r => r ++ "\n"))] ∧ (rs ≠ []) ∧ (∀ r ∈ rs, 10 ∉ r.cps.toList) ∧ ((Str.join "" (rs.map fun r => r ++ "\n")).length ≤ 16000000) ∧ (rs.length ≤ 16000) ∧ (R (.tup [.fl (rs.map W.str), .bl true]) G)
theorem len_rows_of : ∀ ws G R RX, P_rows_of ws G R RX → ws.length = ["text"].length := by
  rintro ws G R RX ⟨⟨_, rfl, _, _, _, _, _⟩⟩; rfl
theorem p_rows_of {rs : List Str} {G : GH} {R : KW} {RX : XW} (hne : rs ≠ []) (hn : ∀ r ∈ rs, 10 ∉ r.cps.toList) (hz : (Str.join "" (rs.map fun r => r ++ "\n")).length ≤ 16000000) (hl : rs.length ≤ 16000) (q : R (.tup [.fl (rs.map W.str), .bl true]) G) : P_rows_of [.str (Str.join "" (rs.map fun r => r ++ "\n"))] G R RX := ⟨rs, rfl, hne, hn, hz, hl, q⟩
def T_rows_of : TWS :=
  (sSeq (sIf (tOrW (tNotW (tTruW (tCW (isiC .st) (tCo (tV 0) (tCo (tK (.ty "str")) tN))))) (tTestW (tOpW (eqQ false) (tV 0) (tK (.str ""))))) sNever sNext)
    (sSeq (sAsg (tFz (tSplitW (tV 0) (tK (.str "\n")))) (gStarW 2 0 (gsC (gN 1) (gsC (gN 2) gsN))))
    (sRet (tIfE (tTestW (tOpW (eqQ false) (tV 2) (tK (.str "")))) (tTupW (tCo (tFz (tV 1)) (tCo (tK (.bl true)) tN))) (tTupW (tCo (tFz (tOpW addW (tV 1) (tFz (tLstW (tCo (tV 2) tN))))) (tCo (tK (.bl false)) tN)))))))
theorem rows_join : ∀ {rs : List Str}, rs ≠ [] → Str.join "" (rs.map fun r => r ++ "\n") = Str.join "\n" (rs ++ [Str.empty])
  | [], h => absurd rfl h
  | [r], _ => by show r ++ "\n" = r ++ "\n" ++ Str.empty; rw [Str.append_empty]
  | r :: s :: rs, _ => by
    have ih := rows_join (rs := s :: rs) (by simp)
    show (r ++ "\n") ++ "" ++ Str.join "" ((s :: rs).map fun r => r ++ "\n") = r ++ "\n" ++ Str.join "\n" ((s :: rs) ++ [Str.empty])
    rw [ih]
    congr 1
theorem rd_rows_of (ws : List W) (G : GH) (R : KW) (RX : XW) (h : P_rows_of ws G R RX) : T_rows_of { nx := fun _ G' => fgt R .non G', rt := fgt R } (startW N_rows_of ws) G := by
  obtain ⟨rs, rfl, hne, hn, hz, hl, q⟩ := h
  have hsp : Txt.split (Str.join "" (rs.map fun r => r ++ "\n")) (Str.ofString "\n") = rs ++ [Str.empty] := by
    rw [rows_join hne, show ("\n" : Str) = Str.ofString "\n" from rfl, ← txt_join]
    refine TL.split_join (s := 10) (S := []) (by decide) (by decide +kernel) (by simp) fun p hp hm => ?_
    rcases List.mem_append.mp hp with hp | hp
    · exact hn p hp hm
    · rw [List.mem_singleton.mp hp] at hm
      cases hm
  have hne2 : ¬ Str.join "" (rs.map fun r => r ++ "\n") = Str.ofString "" := fun e => by
    rw [e, show Txt.split (Str.ofString "") (Str.ofString "\n") = [Str.empty] by decide +kernel] at hsp
    cases rs with
    | nil => exact hne rfl
    | cons a b => have := congrArg List.length hsp; simp at this
  conv => whnf
  refine ⟨rfl, isiW_of (t := .st) rfl ?_⟩
  conv => whnf
  refine eq_str ?_
  rw [decide_eq_false hne2]
  conv => whnf
  refine ⟨by decide, by rw [sizeLine_eq]; omega, ?_⟩
  rw [hsp]
  refine frz_lst ?_
  conv => whnf
  refine ⟨by rw [List.length_map, List.length_append, List.length_singleton]; omega, by rw [List.length_map, List.length_append, List.length_singleton]; omega, fun D hD => ?_⟩
  have el : (List.map W.str (rs ++ [Str.empty])).length + 1 - 2 = (rs.map W.str).length := by rw [List.length_map, List.length_append, List.length_singleton, List.length_map]; omega
  rw [el, List.take_zero, List.drop_zero, List.map_append, List.take_left' rfl, List.drop_left' rfl]
  conv => whnf
  refine ⟨rfl, ?_⟩
  conv => whnf
  refine eq_str ?_
  rw [decide_eq_true (show Str.empty = Str.ofString "" from rfl)]
  conv => whnf
  rw [updG_same]
  conv => whnf
  refine ⟨sz2 _ _, ?_⟩
  rw [offG_upd hD]
  exact ret q
/-! ### many_of -/
abbrev N_many_of : List Str := ["row"]
structure P_many_of (ws : List W) (G : GH) (R : KW) (RX : XW) : Prop where
  ex : ∃ (n : Int), ws = [.str ("truths " ++ nT n)] ∧ (1 ≤ n) ∧ (n ≤ 999) ∧ (R (.int n) G)
theorem len_many_of : ∀ ws G R RX, P_many_of ws G R RX → ws.length = ["row"].length := by
  rintro ws G R RX ⟨⟨_, rfl, _, _, _⟩⟩; rfl
theorem p_many_of {n : Int} {G : GH} {R : KW} {RX : XW} (h1 : 1 ≤ n) (h2 : n ≤ 999) (q : R (.int n) G) : P_many_of [.str ("truths " ++ nT n)] G R RX := ⟨n, rfl, h1, h2, q⟩
def T_many_of : TWS :=
  (sRet (tIfE (tTestW (tOpW (eqQ false) (tFz (tSliceW (tV 0) tNoP (tP (tK (.int 7))))) (tK (.str "truths ")))) (tCall0 P_number_of [] (tCo (tFz (tSliceW (tV 0) (tP (tK (.int 7))) tNoP)) tN)) (tK .non)))
theorem rd_many_of (ws : List W) (G : GH) (R : KW) (RX : XW) (h : P_many_of ws G R RX) : T_many_of { nx := fun _ G' => fgt R .non G', rt := fgt R } (startW N_many_of ws) G := by
  obtain ⟨n, rfl, h1, h2, q⟩ := h
  obtain ⟨c1, c2⟩ := cut_head (n := n) (by omega) h2
  have e1 : (nT n).length ≤ 3 := (nT_facts h1 h2).2.1
  have e2 : (Str.ofString "truths ").length = 7 := by decide
  have hz : (Str.ofString "truths " ++ nT n).length ≤ sizeLine := by rw [Str.length_append, e2, sizeLine_eq]; omega
  conv => whnf
  refine ⟨hz, ?_⟩
  rw [c1]
  conv => whnf
  refine eq_str ?_
  rw [decide_eq_true rfl]
  conv => whnf
  refine ⟨hz, ?_⟩
  rw [c2]
  conv => whnf
  refine p_number_of h1 h2 ?_
  exact ret q
/-! ### read_problem -/
abbrev N_read_problem : List Str := ["text", "rows", "is_ended", "many", "found", "at", "row", "letters"]
structure P_read_problem (ws : List W) (G : GH) (R : KW) (RX : XW) : Prop where
  ex : ∃ (many : Int) (cs : List (List Int)), ws = [.str (probT many cs)] ∧ (1 ≤ many) ∧ (many ≤ 400) ∧ (∀ c ∈ cs, TellOf many c ∧ c.length ≤ 1000) ∧ (cs.length ≤ 800) ∧ ((dedX [] (cs.map tidy)).length ≤ 400) ∧ (R (probW many (probCs cs)) G)
theorem len_read_problem : ∀ ws G R RX, P_read_problem ws G R RX → ws.length = ["text"].length := by
  rintro ws G R RX ⟨⟨_, _, rfl, _, _, _, _, _, _⟩⟩; rfl
theorem p_read_problem {many : Int} {cs : List (List Int)} {G : GH} {R : KW} {RX : XW} (h0 : 1 ≤ many) (h4 : many ≤ 400) (hc : ∀ c ∈ cs, TellOf many c ∧ c.length ≤ 1000) (hl : cs.length ≤ 800) (hk : (dedX [] (cs.map tidy)).length ≤ 400) (q : R (probW many (probCs cs)) G) : P_read_problem [.str (probT many cs)] G R RX := ⟨many, cs, rfl, h0, h4, hc, hl, hk, q⟩
def T_read_problem : TWS :=
  (sSeq (sAsg (tCall0 P_rows_of [] (tCo (tV 0) tN)) (gU 2 (gsC (gN 1) (gsC (gN 2) gsN))))
    (sSeq (sPar 3 4 (tCo (tCall0 P_many_of [] (tCo (tOpW ixW (tV 1) (tK (.int 0))) tN)) (tCo (tLstW tN) tN)))
    (sSeq (sFor (tIEnum1 (tV 1)) (gU 2 (gsC (gN 5) (gsC (gN 6) gsN))) (sSeq (sSet 7 (tIfE (tTestW (tOpW (eqQ false) (tV 5) (tK (.int 0)))) (tTupW tN) (tCall0 P_clause_row [] (tCo (tV 6) tN))))
    (sSeq (sIf (tOrW (tTestW (tOpW (isW false) (tV 3) (tK .non))) (tOrW (tTestW (tOpW (isW false) (tV 7) (tK .non))) (tAndW (tTestW (tOpW (eqQ false) (tV 5) (tOpW subW (tCW lenQ (tCo (tV 1) tN)) (tK (.int 1))))) (tNotW (tTruW (tV 2)))))) sNever sNext)
    (sDrop (tMetL appendW (tV 4) (tCo (tV 7) tN))))))
    (sRet (tFz (tMakeW "Problem" P_Problem___init__ [] (tCo (tV 3) (tCo (tFz (tSliceW (tV 4) (tP (tK (.int 1))) tNoP)) tN))))))))
theorem rd_read_problem (ws : List W) (G : GH) (R : KW) (RX : XW) (h : P_read_problem ws G R RX) : T_read_problem { nx := fun _ G' => fgt R .non G', rt := fgt R } (startW N_read_problem ws) G := by
  obtain ⟨many, cs, rfl, h0, h4, hc, hl, hk, q⟩ := h
  have hc9 : ∀ c ∈ cs, (∀ l ∈ c, LetOf 999 l) ∧ c.length ≤ 1000 := fun c hm => ⟨fun l hl => let h := (hc c hm).1.mem l hl; ⟨h.1, Int.le_trans h.2 (by omega)⟩, (hc c hm).2⟩
  have e1 : (nT many).length ≤ 3 := (nT_facts h0 (by omega)).2.1
  have e2 : (Str.ofString "truths ").length = 7 := by decide
  have en : (Str.ofString "\n").length = 1 := by decide
  have hrl : ∀ r ∈ probRows many cs, r.length ≤ 5000 := fun r hr => by
    rcases List.mem_cons.mp hr with rfl | hr
    · rw [Str.length_append]; have : ("truths " : Str).length = 7 := by decide
      omega
    · obtain ⟨c, hm, rfl⟩ := List.mem_map.mp hr
      exact ltT_len (hc9 c hm).1 (hc9 c hm).2
  have eL : (probRows many cs).length = cs.length + 1 := by unfold probRows; rw [List.length_cons, List.length_map]
  conv => whnf
  refine p_rows_of (by unfold probRows; simp) (fun r hr => ?_) ?_ (by omega) ?_
  · rcases List.mem_cons.mp hr with rfl | hr
    · exact head_signs h0 (by omega)
    · obtain ⟨c, hm, rfl⟩ := List.mem_map.mp hr
      exact ltT_signs (hc9 c hm).1
  · have := join_len (sep := Str.ofString "") (B := 5001) (xs := (probRows many cs).map fun r => r ++ Str.ofString "\n") fun x hx => by
      obtain ⟨r, hr, rfl⟩ := List.mem_map.mp hx
      rw [Str.length_append, en]; have := hrl r hr; omega
    rw [List.length_map, eL, show (Str.ofString "").length = 0 by decide] at this
    omega
  conv => whnf
  refine ⟨rfl, ?_⟩
  conv => whnf
  refine ⟨rfl, ?_⟩
  conv => whnf
  refine ⟨.str ("truths " ++ nT many), atI_hd _ _, ?_⟩
  conv => whnf
  refine p_many_of h0 (by omega) ?_
  conv => whnf
  refine ⟨sz0, fun D hD => ?_⟩
  conv => whnf
  refine ⟨trivial, ?_⟩
  conv => whnf
  refine ⟨rfl, ?_⟩
  (try conv => whnf); (repeat (first | (rw [updG_same]; conv => whnf) | (refine Exists.intro _ (And.intro rfl ?_); conv => whnf) | (refine And.intro rfl ?_; conv => whnf) | (refine frz_lst ?_; conv => whnf) | (refine frz_dK ?_; conv => whnf) | (refine frz_dT ?_; conv => whnf) | (refine And.intro trivial ?_; conv => whnf) | (refine And.intro recL_upd ?_; conv => whnf) | (refine ⟨by (try simp only [List.length_cons, List.length_nil, List.length_map, List.length_append, List.length_drop, List.length_take, sizeLine_eq]); omega, ?_⟩; conv => whnf)))
  by_cases c0 : (0 : Int) = (((probRows many cs).map W.str).length : Int) - 1
  rotate_left
  · rw [decide_eq_false c0]
    (try conv => whnf); (repeat (first | (rw [updG_same]; conv => whnf) | (refine Exists.intro _ (And.intro rfl ?_); conv => whnf) | (refine And.intro rfl ?_; conv => whnf) | (refine frz_lst ?_; conv => whnf) | (refine frz_dK ?_; conv => whnf) | (refine frz_dT ?_; conv => whnf) | (refine And.intro trivial ?_; conv => whnf) | (refine And.intro recL_upd ?_; conv => whnf) | (refine ⟨by (try simp only [List.length_cons, List.length_nil, List.length_map, List.length_append, List.length_drop, List.length_take, sizeLine_eq]); omega, ?_⟩; conv => whnf)))
    rw [updG_upd]
    have e3 : enumP (0 + 1) ((cs.map ltT).map W.str) = (enumI (0 + 1) cs).map fun p : Int × List Int => W.tup [W.int p.1, (W.str ∘ ltT) p.2] := by rw [List.map_map, enumP_map]
    rw [e3]
    refine forW_map (f := fun p : Int × List Int => W.tup [W.int p.1, (W.str ∘ ltT) p.2]) (I := fun xs S G' => ∃ (acc : List (List Int)) (x5 x6 x7 : Option W), S = [some (.str (probT many cs)), some (.fl ((probRows many cs).map W.str)), some (.bl true), some (.int many), some (.ref D), x5, x6, x7] ∧ G' = updG G D (.lst (([] :: acc).map cTup)) ∧ acc ++ xs.map (fun p => p.2) = cs ∧ (∀ x ∈ xs, 1 ≤ x.1 ∧ x.2 ∈ cs)) ?_ ?_ _ _ _ ?_
    rotate_left
    · rintro S G1 ⟨acc, x5, x6, x7, rfl, rfl, hacc, _⟩
      refine ⟨trivial, ?_⟩
      rw [List.map_nil, List.append_nil] at hacc
      subst hacc
      conv => whnf
      rw [updG_same]
      dsimp only
      rw [cutG_lo (f := cTup) (L := [] :: acc) (v := 1) (by decide) (by rw [List.length_cons]; omega), show (1 : Int).toNat = 1 from rfl, List.drop_succ_cons, List.drop_zero]
      refine frz_lst ?_
      conv => whnf
      intro x hx
      exact prob_tell hx h0 h4 (fun c hm => (hc c hm).1) (by omega) hk (ret_ext (.new hD) q)
    · refine ⟨[], _, _, _, rfl, rfl, by rw [List.nil_append, enum_snd], fun x hx => ?_⟩
      have := enumI_mem hx
      exact ⟨this.1, this.2.2⟩
    rintro x xs S G1 ⟨acc, x5, x6, x7, rfl, rfl, hacc, hm⟩ N hN
    refine ⟨trivial, ?_⟩
    obtain ⟨m0, m1⟩ := hm x List.mem_cons_self
    (try conv => whnf); (repeat (first | (rw [updG_same]; conv => whnf) | (rw [decide_eq_false (show ¬ x.1 = 0 by omega)]; conv => whnf) | (refine Exists.intro _ (And.intro rfl ?_); conv => whnf) | (refine And.intro rfl ?_; conv => whnf) | (refine frz_lst ?_; conv => whnf) | (refine frz_dK ?_; conv => whnf) | (refine frz_dT ?_; conv => whnf) | (refine And.intro trivial ?_; conv => whnf) | (refine And.intro recL_upd ?_; conv => whnf) | (refine ⟨by (try simp only [List.length_cons, List.length_nil, List.length_map, List.length_append, List.length_drop, List.length_take, sizeLine_eq]); omega, ?_⟩; conv => whnf)))
    refine p_clause_row (hc9 _ m1).1 (hc9 _ m1).2 ?_
    conv => whnf
    have hlen : acc.length < cs.length := by have := congrArg List.length hacc; rw [List.length_append, List.length_map, List.length_cons] at this; omega
    have fin : ∀ (x5 x6 x7 : Option W), N [some (.str (probT many cs)), some (.fl ((probRows many cs).map W.str)), some (.bl true), some (.int many), some (.ref D), x5, x6, x7] (updG G D (.lst (([] :: acc).map cTup ++ [cTup x.2]))) := fun x5 x6 x7 => by
      refine hN _ _ ⟨acc ++ [x.2], x5, x6, x7, rfl, by rw [← List.cons_append, List.map_append]; rfl, by rw [List.append_assoc]; exact hacc, fun y hy => hm y (List.mem_cons_of_mem _ hy)⟩
    by_cases c1 : x.1 = (((probRows many cs).map W.str).length : Int) - 1
    · rw [decide_eq_true c1]
      (try conv => whnf); (repeat (first | (rw [updG_same]; conv => whnf) | (refine Exists.intro _ (And.intro rfl ?_); conv => whnf) | (refine And.intro rfl ?_; conv => whnf) | (refine frz_lst ?_; conv => whnf) | (refine frz_dK ?_; conv => whnf) | (refine frz_dT ?_; conv => whnf) | (refine And.intro trivial ?_; conv => whnf) | (refine And.intro recL_upd ?_; conv => whnf) | (refine ⟨by (try simp only [List.length_cons, List.length_nil, List.length_map, List.length_append, List.length_drop, List.length_take, sizeLine_eq]); omega, ?_⟩; conv => whnf)))
      rw [updG_upd]
      exact fin _ _ _
    · rw [decide_eq_false c1]
      (try conv => whnf); (repeat (first | (rw [updG_same]; conv => whnf) | (refine Exists.intro _ (And.intro rfl ?_); conv => whnf) | (refine And.intro rfl ?_; conv => whnf) | (refine frz_lst ?_; conv => whnf) | (refine frz_dK ?_; conv => whnf) | (refine frz_dT ?_; conv => whnf) | (refine And.intro trivial ?_; conv => whnf) | (refine And.intro recL_upd ?_; conv => whnf) | (refine ⟨by (try simp only [List.length_cons, List.length_nil, List.length_map, List.length_append, List.length_drop, List.length_take, sizeLine_eq]); omega, ?_⟩; conv => whnf)))
      rw [updG_upd]
      exact fin _ _ _
  · rw [decide_eq_true c0]
    rw [List.length_map, eL] at c0
    have : cs = [] := List.length_eq_zero_iff.mp (by omega)
    subst this
    (try conv => whnf); (repeat (first | (rw [updG_same]; conv => whnf) | (refine Exists.intro _ (And.intro rfl ?_); conv => whnf) | (refine And.intro rfl ?_; conv => whnf) | (refine frz_lst ?_; conv => whnf) | (refine frz_dK ?_; conv => whnf) | (refine frz_dT ?_; conv => whnf) | (refine And.intro trivial ?_; conv => whnf) | (refine And.intro recL_upd ?_; conv => whnf) | (refine ⟨by (try simp only [List.length_cons, List.length_nil, List.length_map, List.length_append, List.length_drop, List.length_take, sizeLine_eq]); omega, ?_⟩; conv => whnf)))
    intro x hx
    rw [updG_upd] at hx ⊢
    exact prob_tell (ds := []) hx h0 h4 (fun c hm => (hc c hm).1) (by simp) hk (ret_ext (.new hD) q)
end WS
set_option Elab.async false
set_option linter.all false
set_option maxRecDepth 100000
set_option maxHeartbeats 4000000
namespace K03
open PySem PySem.Spec PyProof.Rows L2 WL WS
def topS (i : Nat) : Stmt := PySem.Challenge.pw_turnless_k03_whole_answers_one_by_one.main.body.getD i (.Pass ⟨0, 0, 0, 0⟩)
section
variable {P : Program} {w : World} {K : PySem.W.Frag} {mg : Str → Option Value} {base : Heap}
/-! ### is_number -/
abbrev s_is_number : Stmt := topS 9
theorem sc_is_number : FnScope N_is_number ["thing"] (defScope s_is_number) := ⟨rfl, rfl, rfl, by decide +kernel, rfl, by decide +kernel, by decide +kernel⟩
theorem dv_is_number (z_isinstance : mg "isinstance" = none) (z_int : mg "int" = none) (z_bool : mg "bool" = none) {f : Addr} {cdv : Value} {A : Around} {outer : List Env} {s : Shared} {H : Hp} {E : XK} {G : GH} (hgd : A.guards = some []) (hr : Room 0 (A.deeper (envOfC "is_number" (defScope s_is_number) s.heap.objs.size f cdv))) :
    WSs (cxOf CX0 P w K mg base N_is_number "is_number" (defScope s_is_number) f cdv A outer s H E).nox (G, H) (defBody s_is_number) T_is_number :=
  (wss_one (ws_ret (we_and (we_cb (call_isiW .it) (by rfl) z_isinstance bt_isinstance (wa_cons (we_v 0) (wa_cons (we_ty (by rfl) z_int bt_int) wa_nil))) (we_one (we_not (we_cb (call_isiW .bo) (by rfl) z_isinstance bt_isinstance (wa_cons (we_v 0) (wa_cons (we_ty (by rfl) z_bool bt_bool) wa_nil))))))))
theorem ok_is_number (z_isinstance : mg "isinstance" = none) (z_int : mg "int" = none) (z_bool : mg "bool" = none) {f : Addr} {fd : FuncData} (F : Fun K "is_number" "is_number" s_is_number f fd) : FnG P w K mg base CX0 1 f fd ["thing"] (spL K P_is_number) :=
  okF F sc_is_number len_is_number fun cdv A outer s H E ws G R RX hgd hr h => ⟨T_is_number, dv_is_number z_isinstance z_int z_bool hgd hr, rd_is_number ws G R RX h⟩
/-! ### is_letter -/
abbrev s_is_letter : Stmt := topS 10
theorem sc_is_letter : FnScope N_is_letter ["thing", "many"] (defScope s_is_letter) := ⟨rfl, rfl, rfl, by decide +kernel, rfl, by decide +kernel, by decide +kernel⟩
theorem dv_is_letter (D_is_number : DfG P w K mg base CX0 1 "is_number" ["thing"] [] P_is_number) (z_abs : mg "abs" = none) {f : Addr} {cdv : Value} {A : Around} {outer : List Env} {s : Shared} {H : Hp} {E : XK} {G : GH} (hgd : A.guards = some []) (hr : Room 1 (A.deeper (envOfC "is_letter" (defScope s_is_letter) s.heap.objs.size f cdv))) :
    WSs (cxOf CX0 P w K mg base N_is_letter "is_letter" (defScope s_is_letter) f cdv A outer s H E).nox (G, H) (defBody s_is_letter) T_is_letter :=
  (wss_one (ws_ret (we_and (we_h D_is_number hgd hr (wa_cons (we_v 0) wa_nil)) (we_one (we_chain op_leW op_leW we_int (we_cb call_absW (by rfl) z_abs bt_abs (wa_cons (we_v 0) wa_nil)) (we_v 1))))))
theorem ok_is_letter (D_is_number : DfG P w K mg base CX0 1 "is_number" ["thing"] [] P_is_number) (z_abs : mg "abs" = none) {f : Addr} {fd : FuncData} (F : Fun K "is_letter" "is_letter" s_is_letter f fd) : FnG P w K mg base CX0 2 f fd ["thing", "many"] (spL K P_is_letter) :=
  okF F sc_is_letter len_is_letter fun cdv A outer s H E ws G R RX hgd hr h => ⟨T_is_letter, dv_is_letter D_is_number z_abs hgd hr, rd_is_letter ws G R RX h⟩
/-! ### clause_of -/
abbrev s_clause_of : Stmt := topS 11
theorem sc_clause_of : FnScope N_clause_of ["letters"] (defScope s_clause_of) := ⟨rfl, rfl, rfl, by decide +kernel, rfl, by decide +kernel, by decide +kernel⟩
theorem dv_clause_of (z_sorted : mg "sorted" = none) (z_abs : mg "abs" = none) (z_tuple : mg "tuple" = none) {f : Addr} {cdv : Value} {A : Around} {outer : List Env} {s : Shared} {H : Hp} {E : XK} {G : GH} (hgd : A.guards = some []) (hr : Room 0 (A.deeper (envOfC "clause_of" (defScope s_clause_of) s.heap.objs.size f cdv))) :
    WSs (cxOf CX0 P w K mg base N_clause_of "clause_of" (defScope s_clause_of) f cdv A outer s H E).nox (G, H) (defBody s_clause_of) T_clause_of :=
  (wss_one (ws_ret (we_ct call_tupW (by rfl) z_tuple bt_tuple (wa_cons (we_fz (we_sortAbs rfl (hu20 hr) (by rfl) z_sorted (by rfl) z_abs (we_fz (we_dictC (own := [("letter", 1)]) rfl sc_clause_of.nd (wi_seq (we_v 0)) (blkOk_by (own := [("letter", 1)]) (N := N_clause_of) (sc := defScope s_clause_of) (by decide +kernel)) (gok_name (by decide)) (fun _ _ _ _ _ => pg_n 1 sc_clause_of.nd) (fun _ _ _ _ _ => wts_nil) (fun _ _ _ _ _ => (we_v 1)) (fun _ _ _ _ _ => we_bl))))) wa_nil))))
theorem ok_clause_of (z_sorted : mg "sorted" = none) (z_abs : mg "abs" = none) (z_tuple : mg "tuple" = none) {f : Addr} {fd : FuncData} (F : Fun K "clause_of" "clause_of" s_clause_of f fd) : FnG P w K mg base CX0 1 f fd ["letters"] (spL K P_clause_of) :=
  okF F sc_clause_of len_clause_of fun cdv A outer s H E ws G R RX hgd hr h => ⟨T_clause_of, dv_clause_of z_sorted z_abs z_tuple hgd hr, rd_clause_of ws G R RX h⟩
/-! ### clause_in -/
abbrev s_clause_in : Stmt := topS 12
theorem sc_clause_in : FnScope N_clause_in ["thing", "many"] (defScope s_clause_in) := ⟨rfl, rfl, rfl, by decide +kernel, rfl, by decide +kernel, by decide +kernel⟩
theorem dv_clause_in (z_isinstance : mg "isinstance" = none) (z_list : mg "list" = none) (z_tuple : mg "tuple" = none) (D_is_letter : DfG P w K mg base CX0 2 "is_letter" ["thing", "many"] [] P_is_letter) (z_all : mg "all" = none) (D_clause_of : DfG P w K mg base CX0 1 "clause_of" ["letters"] [] P_clause_of) (z_any : mg "any" = none) {f : Addr} {cdv : Value} {A : Around} {outer : List Env} {s : Shared} {H : Hp} {E : XK} {G : GH} (hgd : A.guards = some []) (hr : Room 2 (A.deeper (envOfC "clause_in" (defScope s_clause_in) s.heap.objs.size f cdv))) :
    WSs (cxOf CX0 P w K mg base N_clause_in "clause_in" (defScope s_clause_in) f cdv A outer s H E).nox (G, H) (defBody s_clause_in) T_clause_in :=
  (wss_cons (ws_if (wp_t (wp_or (wt_not (wt_truth (we_cb (call_isi2W .li .tu) (by rfl) z_isinstance bt_isinstance (wa_cons (we_v 0) (wa_cons (we_tup (wa_cons (we_ty (by rfl) z_list bt_list) (wa_cons (we_ty (by rfl) z_tuple bt_tuple) wa_nil))) wa_nil))))) (wp_or1 (wt_not (wt_truth (we_cbC (own := [("letter", 2)]) (tmp_all rfl) (by rfl) z_all bt_all rfl sc_clause_in.nd (wi_seq (we_v 0)) (blkOk_by (own := [("letter", 2)]) (N := N_clause_in) (sc := defScope s_clause_in) (by decide +kernel)) (gok_name (by decide)) (fun _ _ _ _ _ => pg_n 2 sc_clause_in.nd) (fun _ _ _ _ _ => wts_nil) (fun _ _ _ _ _ => (we_h D_is_letter hgd hr (wa_cons (we_v 2) (wa_cons (we_v 1) wa_nil)))))))))) (wss_one (ws_ret we_non)) wss_nil)
    (wss_cons (ws_s 3 sc_clause_in.nd (we_h D_clause_of hgd hr (wa_cons (we_v 0) wa_nil)))
    (wss_one (ws_ret (we_if (wt_truth (we_cbC (own := [("letter", 2)]) (tmp_any rfl) (by rfl) z_any bt_any rfl sc_clause_in.nd (wi_seq (we_v 3)) (blkOk_by (own := [("letter", 2)]) (N := N_clause_in) (sc := defScope s_clause_in) (by decide +kernel)) (gok_name (by decide)) (fun _ _ _ _ _ => pg_n 2 sc_clause_in.nd) (fun _ _ _ _ _ => wts_nil) (fun _ _ _ _ _ => (we_cmp (op_inQ (hu65 hr)) (we_neg (we_v 2)) (we_v 3) (by rfl))))) we_non (we_v 3))))))
theorem ok_clause_in (z_isinstance : mg "isinstance" = none) (z_list : mg "list" = none) (z_tuple : mg "tuple" = none) (D_is_letter : DfG P w K mg base CX0 2 "is_letter" ["thing", "many"] [] P_is_letter) (z_all : mg "all" = none) (D_clause_of : DfG P w K mg base CX0 1 "clause_of" ["letters"] [] P_clause_of) (z_any : mg "any" = none) {f : Addr} {fd : FuncData} (F : Fun K "clause_in" "clause_in" s_clause_in f fd) : FnG P w K mg base CX0 3 f fd ["thing", "many"] (spL K P_clause_in) :=
  okF F sc_clause_in len_clause_in fun cdv A outer s H E ws G R RX hgd hr h => ⟨T_clause_in, dv_clause_in z_isinstance z_list z_tuple D_is_letter z_all D_clause_of z_any hgd hr, rd_clause_in ws G R RX h⟩
/-! ### Problem___init__ -/
abbrev s_Problem___init__ : Stmt := inClass (topS 14) 0
theorem sc_Problem___init__ : FnScope N_Problem___init__ ["self", "many", "clauses"] (defScope s_Problem___init__) := ⟨rfl, rfl, rfl, by decide +kernel, rfl, by decide +kernel, by decide +kernel⟩
theorem dv_Problem___init__ (D_is_number : DfG P w K mg base CX0 1 "is_number" ["thing"] [] P_is_number) (c_MOST : Gv K mg "MOST" (.int 400)) (z_isinstance : mg "isinstance" = none) (z_list : mg "list" = none) (z_tuple : mg "tuple" = none) (z_enumerate : mg "enumerate" = none) (D_clause_in : DfG P w K mg base CX0 3 "clause_in" ["thing", "many"] [] P_clause_in) (z_len : mg "len" = none) (c_MOST_CLAUSES : Gv K mg "MOST_CLAUSES" (.int 400)) (Cn_Problem : ClsD K mg "Problem") (NA_Problem_many : NoA K "Problem" "many") (KD_clause_key : KeyDef P w K mg base "clause_key") (z_sorted : mg "sorted" = none) (NA_Problem_clauses : NoA K "Problem" "clauses") {f : Addr} {cdv : Value} {A : Around} {outer : List Env} {s : Shared} {H : Hp} {E : XK} {G : GH} (hgd : A.guards = some []) (hr : Room 3 (A.deeper (envOfC "Problem.__init__" (defScope s_Problem___init__) s.heap.objs.size f cdv))) :
    WSs (cxOf CX0 P w K mg base N_Problem___init__ "Problem.__init__" (defScope s_Problem___init__) f cdv A outer s H E).nox (G, H) (defBody s_Problem___init__) T_Problem___init__ :=
  (wss_cons (ws_if (wp_t (wp_or (wt_not (wt_truth (we_h D_is_number hgd hr (wa_cons (we_v 1) wa_nil)))) (wp_or1 (wt_not (wt_chain op_leW op_leW we_int (we_v 1) (we_g c_MOST)))))) (wss_one ws_never) wss_nil)
    (wss_cons (ws_if (wt_not (wt_truth (we_cb (call_isi2W .li .tu) (by rfl) z_isinstance bt_isinstance (wa_cons (we_v 2) (wa_cons (we_tup (wa_cons (we_ty (by rfl) z_list bt_list) (wa_cons (we_ty (by rfl) z_tuple bt_tuple) wa_nil))) wa_nil))))) (wss_one ws_never) wss_nil)
    (wss_cons (ws_s 3 sc_Problem___init__.nd we_dict0T)
    (wss_cons (ws_for PassesOwn.never rfl (wi_enum1 (by rfl) z_enumerate (we_v 2)) (wg_unp rfl (wgs_cons (wg_n 4 sc_Problem___init__.nd) (wgs_cons (wg_n 5 sc_Problem___init__.nd) wgs_nil))) (wss_cons (ws_s 6 sc_Problem___init__.nd (we_h D_clause_in hgd hr (wa_cons (we_v 5) (wa_cons (we_v 1) wa_nil))))
    (wss_cons (ws_if (wt_cmp op_isW (we_v 6) we_non (nomark _)) (wss_one ws_never) wss_nil)
    (wss_one (ws_asg we_bl (wg_sub (we_v 3) (we_v 6) (set_Q (hu1 hr))))))))
    (wss_cons (ws_if (wt_cmp op_gtW (we_cb call_lenQ (by rfl) z_len bt_len (wa_cons (we_v 3) wa_nil)) (we_g c_MOST_CLAUSES) (nomark _)) (wss_one ws_never) wss_nil)
    (wss_cons (ws_fld Cn_Problem NA_Problem_many (we_v 0) (we_v 1))
    (wss_one (ws_fld Cn_Problem NA_Problem_clauses (we_v 0) (we_ct call_tupW (by rfl) z_tuple bt_tuple (wa_cons (we_fz (we_sortLen KD_clause_key hr (by decide) rfl (by rfl) z_sorted (by rfl) (by decide) (we_v 3))) wa_nil))))))))))
theorem ok_Problem___init__ (D_is_number : DfG P w K mg base CX0 1 "is_number" ["thing"] [] P_is_number) (c_MOST : Gv K mg "MOST" (.int 400)) (z_isinstance : mg "isinstance" = none) (z_list : mg "list" = none) (z_tuple : mg "tuple" = none) (z_enumerate : mg "enumerate" = none) (D_clause_in : DfG P w K mg base CX0 3 "clause_in" ["thing", "many"] [] P_clause_in) (z_len : mg "len" = none) (c_MOST_CLAUSES : Gv K mg "MOST_CLAUSES" (.int 400)) (Cn_Problem : ClsD K mg "Problem") (NA_Problem_many : NoA K "Problem" "many") (KD_clause_key : KeyDef P w K mg base "clause_key") (z_sorted : mg "sorted" = none) (NA_Problem_clauses : NoA K "Problem" "clauses") {f : Addr} {fd : FuncData} {dvs : List V} {kws : List (Str × V)} (F : FunD K "__init__" "Problem.__init__" (defArgs s_Problem___init__) (defBody s_Problem___init__) (defScope s_Problem___init__) dvs kws f fd) : FnG P w K mg base CX0 4 f fd ["self", "many", "clauses"] (spL K P_Problem___init__) :=
  okFD F sc_Problem___init__ len_Problem___init__ fun cdv A outer s H E ws G R RX hgd hr h => ⟨T_Problem___init__, dv_Problem___init__ D_is_number c_MOST z_isinstance z_list z_tuple z_enumerate D_clause_in z_len c_MOST_CLAUSES Cn_Problem NA_Problem_many KD_clause_key z_sorted NA_Problem_clauses hgd hr, rd_Problem___init__ ws G R RX h⟩
/-! ### holds -/
abbrev s_holds : Stmt := topS 15
theorem sc_holds : FnScope N_holds ["clause", "answer"] (defScope s_holds) := ⟨rfl, rfl, rfl, by decide +kernel, rfl, by decide +kernel, by decide +kernel⟩
theorem dv_holds (z_abs : mg "abs" = none) (z_int : mg "int" = none) (z_any : mg "any" = none) {f : Addr} {cdv : Value} {A : Around} {outer : List Env} {s : Shared} {H : Hp} {E : XK} {G : GH} (hgd : A.guards = some []) (hr : Room 0 (A.deeper (envOfC "holds" (defScope s_holds) s.heap.objs.size f cdv))) :
    WSs (cxOf CX0 P w K mg base N_holds "holds" (defScope s_holds) f cdv A outer s H E).nox (G, H) (defBody s_holds) T_holds :=
  (wss_one (ws_ret (we_cbC (own := [("letter", 2)]) (tmp_any rfl) (by rfl) z_any bt_any rfl sc_holds.nd (wi_seq (we_v 0)) (blkOk_by (own := [("letter", 2)]) (N := N_holds) (sc := defScope s_holds) (by decide +kernel)) (gok_name (by decide)) (fun _ _ _ _ _ => pg_n 2 sc_holds.nd) (fun _ _ _ _ _ => wts_nil) (fun _ _ _ _ _ => (we_cmp (op_eqQ (hu64 hr)) (we_ix (hu1 hr) (we_v 1) (we_op op_subW (we_cb call_absW (by rfl) z_abs bt_abs (wa_cons (we_v 2) wa_nil)) we_int)) (we_ct call_intW (by rfl) z_int bt_int (wa_cons (we_cmp op_gtW (we_v 2) we_int (nomark _)) wa_nil)) (nomark _))))))
theorem ok_holds (z_abs : mg "abs" = none) (z_int : mg "int" = none) (z_any : mg "any" = none) {f : Addr} {fd : FuncData} (F : Fun K "holds" "holds" s_holds f fd) : FnG P w K mg base CX0 1 f fd ["clause", "answer"] (spL K P_holds) :=
  okF F sc_holds len_holds fun cdv A outer s H E ws G R RX hgd hr h => ⟨T_holds, dv_holds z_abs z_int z_any hgd hr, rd_holds ws G R RX h⟩
/-! ### is_bits -/
abbrev s_is_bits : Stmt := topS 16
theorem sc_is_bits : FnScope N_is_bits ["thing", "many"] (defScope s_is_bits) := ⟨rfl, rfl, rfl, by decide +kernel, rfl, by decide +kernel, by decide +kernel⟩
theorem dv_is_bits (z_isinstance : mg "isinstance" = none) (z_tuple : mg "tuple" = none) (z_len : mg "len" = none) (D_is_number : DfG P w K mg base CX0 1 "is_number" ["thing"] [] P_is_number) (z_all : mg "all" = none) {f : Addr} {cdv : Value} {A : Around} {outer : List Env} {s : Shared} {H : Hp} {E : XK} {G : GH} (hgd : A.guards = some []) (hr : Room 1 (A.deeper (envOfC "is_bits" (defScope s_is_bits) s.heap.objs.size f cdv))) :
    WSs (cxOf CX0 P w K mg base N_is_bits "is_bits" (defScope s_is_bits) f cdv A outer s H E).nox (G, H) (defBody s_is_bits) T_is_bits :=
  (wss_cons (ws_if (wp_t (wp_or (wt_not (wt_truth (we_cb (call_isiW .tu) (by rfl) z_isinstance bt_isinstance (wa_cons (we_v 0) (wa_cons (we_ty (by rfl) z_tuple bt_tuple) wa_nil))))) (wp_or1 (wt_cmp (op_neQ (hu64 hr)) (we_cb call_lenQ (by rfl) z_len bt_len (wa_cons (we_v 0) wa_nil)) (we_v 1) (nomark _))))) (wss_one (ws_ret we_bl)) wss_nil)
    (wss_one (ws_ret (we_cbC (own := [("bit", 2)]) (tmp_all rfl) (by rfl) z_all bt_all rfl sc_is_bits.nd (wi_seq (we_v 0)) (blkOk_by (own := [("bit", 2)]) (N := N_is_bits) (sc := defScope s_is_bits) (by decide +kernel)) (gok_name (by decide)) (fun _ _ _ _ _ => pg_n 2 sc_is_bits.nd) (fun _ _ _ _ _ => wts_nil) (fun _ _ _ _ _ => (we_and (we_h D_is_number hgd hr (wa_cons (we_v 2) wa_nil)) (we_one (we_chain op_leW op_leW we_int (we_v 2) we_int))))))))
theorem ok_is_bits (z_isinstance : mg "isinstance" = none) (z_tuple : mg "tuple" = none) (z_len : mg "len" = none) (D_is_number : DfG P w K mg base CX0 1 "is_number" ["thing"] [] P_is_number) (z_all : mg "all" = none) {f : Addr} {fd : FuncData} (F : Fun K "is_bits" "is_bits" s_is_bits f fd) : FnG P w K mg base CX0 2 f fd ["thing", "many"] (spL K P_is_bits) :=
  okF F sc_is_bits len_is_bits fun cdv A outer s H E ws G R RX hgd hr h => ⟨T_is_bits, dv_is_bits z_isinstance z_tuple z_len D_is_number z_all hgd hr, rd_is_bits ws G R RX h⟩
/-! ### is_answer -/
abbrev s_is_answer : Stmt := topS 17
theorem sc_is_answer : FnScope N_is_answer ["problem", "thing"] (defScope s_is_answer) := ⟨rfl, rfl, rfl, by decide +kernel, rfl, by decide +kernel, by decide +kernel⟩
theorem dv_is_answer (D_is_bits : DfG P w K mg base CX0 2 "is_bits" ["thing", "many"] [] P_is_bits) (Cn_Problem : ClsD K mg "Problem") (NA_Problem_many : NoA K "Problem" "many") (NA_Problem_clauses : NoA K "Problem" "clauses") (D_holds : DfG P w K mg base CX0 1 "holds" ["clause", "answer"] [] P_holds) (z_all : mg "all" = none) {f : Addr} {cdv : Value} {A : Around} {outer : List Env} {s : Shared} {H : Hp} {E : XK} {G : GH} (hgd : A.guards = some []) (hr : Room 2 (A.deeper (envOfC "is_answer" (defScope s_is_answer) s.heap.objs.size f cdv))) :
    WSs (cxOf CX0 P w K mg base N_is_answer "is_answer" (defScope s_is_answer) f cdv A outer s H E).nox (G, H) (defBody s_is_answer) T_is_answer :=
  (wss_one (ws_ret (we_and (we_h D_is_bits hgd hr (wa_cons (we_v 1) (wa_cons (we_fld Cn_Problem NA_Problem_many (we_v 0)) wa_nil))) (we_one (we_cbC (own := [("clause", 2)]) (tmp_all rfl) (by rfl) z_all bt_all rfl sc_is_answer.nd (wi_seq (we_fld Cn_Problem NA_Problem_clauses (we_v 0))) (blkOk_by (own := [("clause", 2)]) (N := N_is_answer) (sc := defScope s_is_answer) (by decide +kernel)) (gok_name (by decide)) (fun _ _ _ _ _ => pg_n 2 sc_is_answer.nd) (fun _ _ _ _ _ => wts_nil) (fun _ _ _ _ _ => (we_h D_holds hgd hr (wa_cons (we_v 2) (wa_cons (we_v 1) wa_nil)))))))))
theorem ok_is_answer (D_is_bits : DfG P w K mg base CX0 2 "is_bits" ["thing", "many"] [] P_is_bits) (Cn_Problem : ClsD K mg "Problem") (NA_Problem_many : NoA K "Problem" "many") (NA_Problem_clauses : NoA K "Problem" "clauses") (D_holds : DfG P w K mg base CX0 1 "holds" ["clause", "answer"] [] P_holds) (z_all : mg "all" = none) {f : Addr} {fd : FuncData} (F : Fun K "is_answer" "is_answer" s_is_answer f fd) : FnG P w K mg base CX0 3 f fd ["problem", "thing"] (spL K P_is_answer) :=
  okF F sc_is_answer len_is_answer fun cdv A outer s H E ws G R RX hgd hr h => ⟨T_is_answer, dv_is_answer D_is_bits Cn_Problem NA_Problem_many NA_Problem_clauses D_holds z_all hgd hr, rd_is_answer ws G R RX h⟩
/-! ### answers -/
abbrev N_answers : List Str := ["problem", "most", "found", "k", "due", "longer", "clause", "some", "bit"]
structure P_answers (ws : List W) (G : GH) (R : KW) (RX : XW) : Prop where
  ex : ∃ (many most : Int) (cs : List (List Int)), ws = [probW many cs, .int most] ∧ (1 ≤ many) ∧ (many ≤ most) ∧ (many ≤ 20) ∧ (∀ c ∈ cs, ClauseOf many c) ∧ (cs.length ≤ 4000) ∧ (∀ (p : Addr), G p = none → R (.ref p) (updG G p (.lst ((ansAll many.toNat cs).map cTup))))
theorem len_answers : ∀ ws G R RX, P_answers ws G R RX → ws.length = ["problem", "most"].length := by
  rintro ws G R RX ⟨⟨_, _, _, rfl, _, _, _, _, _, _⟩⟩; rfl
theorem p_answers {many most : Int} {cs : List (List Int)} {G : GH} {R : KW} {RX : XW} (h0 : 1 ≤ many) (hm : many ≤ most) (h12 : many ≤ 20) (hc : ∀ c ∈ cs, ClauseOf many c) (hl : cs.length ≤ 4000) (q : ∀ (p : Addr), G p = none → R (.ref p) (updG G p (.lst ((ansAll many.toNat cs).map cTup)))) : P_answers [probW many cs, .int most] G R RX := ⟨many, most, cs, rfl, h0, hm, h12, hc, hl, q⟩
def T_answers : TWS :=
  (sSeq (sIf (tTestW (tOpW gtW (tFldW "Problem" "many" (tV 0)) (tV 1))) sNever sNext)
    (sSeq (sSet 2 (tIfE (tTestW (tOpW (inQ false) (tTupW tN) (tFldW "Problem" "clauses" (tV 0)))) (tLstW tN) (tLstW (tCo (tTupW tN) tN))))
    (sSeq (sFor (tIRng2 (tCo (tK (.int 1)) (tCo (tOpW addW (tFldW "Problem" "many" (tV 0)) (tK (.int 1))) tN))) (gN 3) (sSeq (sSet 4 (tFz (tComp (tISeq (tFldW "Problem" "clauses" (tV 0))) (gN 6) (tAndW (tTestW (tOpW (eqQ true) (tV 6) (tTupW tN))) (tTestW (tOpW (eqQ false) (tCW absW (tCo (tOpW ixW (tV 6) (tNegW (tK (.int 1)))) tN)) (tV 3)))) (tV 6) [6])))
    (sSeq (sSet 5 (tFz (tComp2 (tISeq (tV 2)) (gN 7) tYesW (tIDisp (tCo (tK (.int 0)) (tCo (tK (.int 1)) tN))) (gN 8) tYesW (tOpW addW (tV 7) (tTupW (tCo (tV 8) tN))) [7, 8] [8])))
    (sSet 2 (tComp (tISeq (tV 5)) (gN 7) (tTruW (tCF (fBols fun bs => bs.all fun b => b) (tCompI (tISeq (tV 4)) (gN 6) tYesW (tCall0 P_holds [] (tCo (tV 6) (tCo (tV 7) tN))) [6]))) (tV 7) [7])))))
    (sRet (tV 2)))))
theorem rd_answers (ws : List W) (G : GH) (R : KW) (RX : XW) (h : P_answers ws G R RX) : T_answers { nx := fun _ G' => fgt R .non G', rt := fgt R } (startW N_answers ws) G := by
  obtain ⟨many, most, cs, rfl, h0, hm, h12, hc, hl, q⟩ := h
  have e0 : ansAll 0 (upto 0 cs) = if [] ∈ cs then [] else [[]] := by
    unfold ansAll rows WS.allB upto
    by_cases hn : [] ∈ cs
    · rw [if_pos hn, List.filter_cons_of_neg, List.filter_nil]
      intro z
      have := List.all_eq_true.mp z [] (List.mem_filter.mpr ⟨hn, by decide⟩)
      cases this
    · rw [if_neg hn, List.filter_cons_of_pos, List.filter_nil]
      refine List.all_eq_true.mpr fun c hm => ?_
      obtain ⟨h1, h2⟩ := List.mem_filter.mp hm
      have h2 := of_decide_eq_true h2
      by_cases e : c = []
      · subst e; exact absurd h1 hn
      · have h3 := lastA_le (hc c h1) _ (List.getLast_mem e)
        have h4 := h3.1
        have h5 := h3.2
        omega
  (try conv => whnf); (repeat (first | (refine Exists.intro _ (And.intro rfl ?_); conv => whnf) | (refine And.intro rfl ?_; conv => whnf) | (refine frz_lst ?_; conv => whnf) | (refine frz_dK ?_; conv => whnf) | (refine frz_dT ?_; conv => whnf) | (refine ⟨by (try simp only [List.length_cons, List.length_nil, List.length_map, List.length_append, List.length_drop, List.length_take, sizeLine_eq]); omega, ?_⟩; conv => whnf)))
  rw [decide_eq_false (show ¬ most < many by omega)]
  (try conv => whnf); (repeat (first | (refine Exists.intro _ (And.intro rfl ?_); conv => whnf) | (refine And.intro rfl ?_; conv => whnf) | (refine frz_lst ?_; conv => whnf) | (refine frz_dK ?_; conv => whnf) | (refine frz_dT ?_; conv => whnf) | (refine ⟨by (try simp only [List.length_cons, List.length_nil, List.length_map, List.length_append, List.length_drop, List.length_take, sizeLine_eq]); omega, ?_⟩; conv => whnf)))
  refine in_cTups (a := []) ?_
  by_cases hn : [] ∈ cs
  · rw [decide_eq_true hn]
    rw [if_pos hn] at e0
    (try conv => whnf); (repeat (first | (refine Exists.intro _ (And.intro rfl ?_); conv => whnf) | (refine And.intro rfl ?_; conv => whnf) | (refine frz_lst ?_; conv => whnf) | (refine frz_dK ?_; conv => whnf) | (refine frz_dT ?_; conv => whnf) | (refine ⟨by (try simp only [List.length_cons, List.length_nil, List.length_map, List.length_append, List.length_drop, List.length_take, sizeLine_eq]); omega, ?_⟩; conv => whnf)))
    intro p0 hp0
    conv => whnf
    (try conv => whnf); (repeat (first | (refine Exists.intro _ (And.intro rfl ?_); conv => whnf) | (refine And.intro rfl ?_; conv => whnf) | (refine frz_lst ?_; conv => whnf) | (refine frz_dK ?_; conv => whnf) | (refine frz_dT ?_; conv => whnf) | (refine ⟨by (try simp only [List.length_cons, List.length_nil, List.length_map, List.length_append, List.length_drop, List.length_take, sizeLine_eq]); omega, ?_⟩; conv => whnf)))
    rw [show (many + 1 - 1).toNat = many.toNat by omega, List.range_eq_range']
    refine forW_map (f := fun k : Nat => W.int (1 + (k : Int))) (I := fun xs S G' => ∃ (k : Nat) (p : Addr) (x3 x4 x5 x6 x7 x8 : Option W), xs = List.range' k xs.length ∧ k + xs.length = many.toNat ∧ S = [some (probW many cs), some (.int most), some (.ref p), x3, x4, x5, x6, x7, x8] ∧ G p = none ∧ G' p = some (.lst ((ansAll k (upto k cs)).map cTup)) ∧ ExtG G G') ?_ ?_ _ _ _ ?_
    rotate_left
    · rintro S G1 ⟨k, p, x3, x4, x5, x6, x7, x8, ex, ek, rfl, hp, hG, xG⟩
      refine ⟨trivial, ?_⟩
      conv => whnf
      have : k = many.toNat := by simpa using ek
      subst this
      have e : upto many.toNat cs = cs := by
        unfold upto
        refine List.filter_eq_self.mpr fun c hm => decide_eq_true ?_
        by_cases ec : c = []
        · subst ec; show (0 : Int) ≤ _; omega
        · have h3 := ((hc c hm).mem _ (List.getLast_mem ec)).2
          have e4 : lastA c = absI (c.getLast ec) := by unfold lastA; rw [List.getLast?_eq_some_getLast ec]
          omega
      rw [e] at hG
      refine ret_ext (fun a o h => ?_) (q p hp)
      by_cases ea : a = p
      · subst ea; rw [updG_same] at h; rw [hG, h]
      · rw [updG_ne ea] at h; exact xG _ _ h
    · refine ⟨0, p0, none, none, none, none, none, none, by simp, by simp, rfl, hp0, ?_, .new hp0⟩
      rw [updG_same, show ((0 : Nat) : Int) = 0 from rfl, e0]; rfl
    rintro x xs S G1 ⟨k, p, x3, x4, x5, x6, x7, x8, ex, ek, rfl, hp, hG, xG⟩ N hN
    rw [List.length_cons] at ex ek
    rw [List.range'_succ] at ex
    injection ex with ex1 ex2
    subst ex1
    refine ⟨trivial, ?_⟩
    conv => whnf
    (try conv => whnf); (repeat (first | (refine Exists.intro _ (And.intro rfl ?_); conv => whnf) | (refine And.intro rfl ?_; conv => whnf) | (refine frz_lst ?_; conv => whnf) | (refine frz_dK ?_; conv => whnf) | (refine frz_dT ?_; conv => whnf) | (refine ⟨by (try simp only [List.length_cons, List.length_nil, List.length_map, List.length_append, List.length_drop, List.length_take, sizeLine_eq]); omega, ?_⟩; conv => whnf)))
    refine compW_pureF (f := cTup) (v := cTup) (keep := fun c => decide (c ≠ [] ∧ lastA c = (x : Int) + 1)) trivial cs [] (by rw [sizeLine_eq]; simp; omega) (fun c hm R' N' h1 h2 => ?_) ?_
    · (try conv => whnf); (repeat (first | (refine Exists.intro _ (And.intro rfl ?_); conv => whnf) | (refine And.intro rfl ?_; conv => whnf) | (refine frz_lst ?_; conv => whnf) | (refine frz_dK ?_; conv => whnf) | (refine frz_dT ?_; conv => whnf) | (refine ⟨by (try simp only [List.length_cons, List.length_nil, List.length_map, List.length_append, List.length_drop, List.length_take, sizeLine_eq]); omega, ?_⟩; conv => whnf)))
      refine eq_ints (c := []) ?_
      by_cases ec : c = []
      · rw [decide_eq_true ec]
        conv => whnf
        exact h2 (decide_eq_false fun z => z.1 ec)
      · rw [decide_eq_false ec]
        conv => whnf
        refine ⟨.int (c.getLast ec), atI_last ec, ?_⟩
        conv => whnf
        have e4 : lastA c = absI (c.getLast ec) := by unfold lastA; rw [List.getLast?_eq_some_getLast ec]
        by_cases ed : absI (c.getLast ec) = 1 + (x : Int)
        · rw [show decide ((if c.getLast ec < 0 then -c.getLast ec else c.getLast ec) = 1 + (x : Int)) = true from decide_eq_true ed]
          exact h1 (decide_eq_true ⟨ec, by omega⟩)
        · rw [show decide ((if c.getLast ec < 0 then -c.getLast ec else c.getLast ec) = 1 + (x : Int)) = false from decide_eq_false ed]
          exact h2 (decide_eq_false fun z => ed (by rw [← e4, z.2]; omega))
    rw [List.nil_append]
    (try conv => whnf); (repeat (first | (rw [hG]; conv => whnf) | (refine Exists.intro _ (And.intro rfl ?_); conv => whnf) | (refine And.intro rfl ?_; conv => whnf) | (refine frz_lst ?_; conv => whnf) | (refine frz_dK ?_; conv => whnf) | (refine frz_dT ?_; conv => whnf) | (refine ⟨by (try simp only [List.length_cons, List.length_nil, List.length_map, List.length_append, List.length_drop, List.length_take, sizeLine_eq]); omega, ?_⟩; conv => whnf)))
    intro D hD
    have pD : p ≠ D := fun e => by rw [← e, hG] at hD; cases hD
    have hrl : (ansAll x (upto (x : Int) cs)).length ≤ 1048576 := by
      refine Nat.le_trans (ansAll_len _ _) (Nat.le_trans (Nat.pow_le_pow_right (by decide) (show x ≤ 20 by omega)) (by decide))
    have hlen : ∀ r ∈ ansAll x (upto (x : Int) cs), r.length = x := fun r hr => by have := (mem_ansAll.mp hr).1.len; omega
    have hfl : ((ansAll x (upto (x : Int) cs)).flatMap fun r => [cTup (r ++ [0]), cTup (r ++ [1])]).length ≤ sizeLine := by
      have : ∀ L : List (List Int), (L.flatMap fun r => [cTup (r ++ [0]), cTup (r ++ [(1 : Int)])]).length = L.length * 2 := fun L => by
        induction L with
        | nil => rfl
        | cons x L ih => rw [List.flatMap_cons, List.length_append, ih, List.length_cons]; simp; omega
      rw [this, sizeLine_eq]; omega
    refine compD2_app (e := cTup) (fun r => [cTup (r ++ [0]), cTup (r ++ [1])]) (ansAll x (upto (x : Int) cs)) [] (by simpa using hfl) (fun acc => by rw [updG_ne pD]; exact hG) (fun r hr acc R' hb q' => ?_) ?_
    · have hx := hlen r hr
      have hb : acc.length + 2 ≤ sizeLine := hb
      have hxl : x ≤ 20 := by omega
      (try conv => whnf); (repeat (first | (rw [updG_same]; conv => whnf) | (refine Exists.intro _ (And.intro rfl ?_); conv => whnf) | (refine And.intro rfl ?_; conv => whnf) | (refine frz_lst ?_; conv => whnf) | (refine frz_dK ?_; conv => whnf) | (refine frz_dT ?_; conv => whnf) | (refine ⟨by (try simp only [List.length_cons, List.length_nil, List.length_map, List.length_append, List.length_drop, List.length_take, sizeLine_eq]); omega, ?_⟩; conv => whnf)))
      refine ⟨trivial, ?_⟩
      (try conv => whnf); (repeat (first | (rw [updG_same]; conv => whnf) | (refine Exists.intro _ (And.intro rfl ?_); conv => whnf) | (refine And.intro rfl ?_; conv => whnf) | (refine frz_lst ?_; conv => whnf) | (refine frz_dK ?_; conv => whnf) | (refine frz_dT ?_; conv => whnf) | (refine ⟨by (try simp only [List.length_cons, List.length_nil, List.length_map, List.length_append, List.length_drop, List.length_take, sizeLine_eq]); omega, ?_⟩; conv => whnf)))
      refine ⟨by omega, ?_⟩
      rw [updG_upd]
      conv => whnf
      refine ⟨trivial, ?_⟩
      (try conv => whnf); (repeat (first | (rw [updG_same]; conv => whnf) | (refine Exists.intro _ (And.intro rfl ?_); conv => whnf) | (refine And.intro rfl ?_; conv => whnf) | (refine frz_lst ?_; conv => whnf) | (refine frz_dK ?_; conv => whnf) | (refine frz_dT ?_; conv => whnf) | (refine ⟨by (try simp only [List.length_cons, List.length_nil, List.length_map, List.length_append, List.length_drop, List.length_take, sizeLine_eq]); omega, ?_⟩; conv => whnf)))
      refine ⟨by rw [List.length_append, List.length_singleton]; omega, ?_⟩
      rw [updG_upd]
      conv => whnf
      refine ⟨trivial, ?_⟩
      rw [List.append_assoc]
      have e1 : W.tup (r.map W.int ++ [W.int 0]) = cTup (r ++ [0]) := by rw [show cTup (r ++ [0]) = W.tup ((r ++ [0]).map W.int) from rfl, List.map_append]; rfl
      have e2 : W.tup (r.map W.int ++ [W.int 1]) = cTup (r ++ [1]) := by rw [show cTup (r ++ [1]) = W.tup ((r ++ [1]).map W.int) from rfl, List.map_append]; rfl
      rw [e1, e2]
      exact q'
    rw [List.nil_append]
    conv => whnf
    rw [updG_same]
    dsimp only
    rw [offG_upd hD, show ((ansAll x (upto (x : Int) cs)).flatMap fun r => [cTup (r ++ [0]), cTup (r ++ [1])]) = ((ansAll x (upto (x : Int) cs)).flatMap fun r => [r ++ [0], r ++ [1]]).map cTup by rw [List.map_flatMap]; rfl]
    have hfl2 : ((ansAll x (upto (x : Int) cs)).flatMap fun r => [r ++ [0], r ++ [1]]).length ≤ sizeLine := by
      have := congrArg List.length (show ((ansAll x (upto (x : Int) cs)).flatMap fun r => [cTup (r ++ [0]), cTup (r ++ [1])]) = ((ansAll x (upto (x : Int) cs)).flatMap fun r => [r ++ [0], r ++ [1]]).map cTup by rw [List.map_flatMap]; rfl)
      rw [List.length_map] at this
      omega
    have hrow : ∀ r ∈ ((ansAll x (upto (x : Int) cs)).flatMap fun r => [r ++ [0], r ++ [1]]), BitsOf ((x : Int) + 1) r := fun r hr => by
      obtain ⟨s, hs, h⟩ := List.mem_flatMap.mp hr
      have hs := (mem_ansAll.mp hs).1
      have := mem_rows (n := x + 1) (r := r)
      rw [Int.natCast_add] at this
      exact this.mp (List.mem_flatMap.mpr ⟨s, mem_rows.mpr hs, h⟩)
    have hdl : (dueAt ((x : Int) + 1) cs).length ≤ 4000 := Nat.le_trans (List.length_filter_le _ _) hl
    conv => whnf
    refine compW_pureF (f := cTup) (v := cTup) (keep := WS.allB (dueAt ((x : Int) + 1) cs)) trivial _ [] (by simpa using hfl2) (fun r hr R' N' h1 h2 => ?_) ?_
    · conv => whnf
      refine compW_pure (f := cTup) (v := fun c => W.bl (holdsB c r)) trivial (dueAt ((x : Int) + 1) cs) [] (by rw [sizeLine_eq]; simp; omega) (fun c hm R' q' => ?_) ?_
      · obtain ⟨d1, d2⟩ := List.mem_filter.mp hm
        have d2 := (of_decide_eq_true d2).2
        refine p_holds (many := (x : Int) + 1) (fun l hl => by have := lastA_le (hc c d1) l hl; rwa [d2] at this) (by have := (hc c d1).len (by omega); omega) (hrow r hr) q'
      · rw [List.nil_append, show ((dueAt ((x : Int) + 1) cs).map fun c => W.bl (holdsB c r)) = ((dueAt ((x : Int) + 1) cs).map fun c => holdsB c r).map W.bl by rw [List.map_map]; rfl]
        unfold fBols
        rw [blsOf_map]
        dsimp only
        rw [show (((dueAt ((x : Int) + 1) cs).map fun c => holdsB c r).all fun b => b) = WS.allB (dueAt ((x : Int) + 1) cs) r by rw [List.all_map]; rfl]
        cases eb : WS.allB (dueAt ((x : Int) + 1) cs) r with
        | true => exact h1 eb
        | false => exact h2 eb
    rw [List.nil_append, step_ans hc x]
    intro D2 hD2
    conv => whnf
    exact hN _ _ ⟨x + 1, D2, _, _, _, _, _, _, ex2, by omega, rfl, extG_none xG hD2, by rw [updG_same, Int.natCast_add]; rfl, xG.trans (.new hD2)⟩
  · rw [decide_eq_false hn]
    rw [if_neg hn] at e0
    (try conv => whnf); (repeat (first | (refine Exists.intro _ (And.intro rfl ?_); conv => whnf) | (refine And.intro rfl ?_; conv => whnf) | (refine frz_lst ?_; conv => whnf) | (refine frz_dK ?_; conv => whnf) | (refine frz_dT ?_; conv => whnf) | (refine ⟨by (try simp only [List.length_cons, List.length_nil, List.length_map, List.length_append, List.length_drop, List.length_take, sizeLine_eq]); omega, ?_⟩; conv => whnf)))
    intro p0 hp0
    conv => whnf
    (try conv => whnf); (repeat (first | (refine Exists.intro _ (And.intro rfl ?_); conv => whnf) | (refine And.intro rfl ?_; conv => whnf) | (refine frz_lst ?_; conv => whnf) | (refine frz_dK ?_; conv => whnf) | (refine frz_dT ?_; conv => whnf) | (refine ⟨by (try simp only [List.length_cons, List.length_nil, List.length_map, List.length_append, List.length_drop, List.length_take, sizeLine_eq]); omega, ?_⟩; conv => whnf)))
    rw [show (many + 1 - 1).toNat = many.toNat by omega, List.range_eq_range']
    refine forW_map (f := fun k : Nat => W.int (1 + (k : Int))) (I := fun xs S G' => ∃ (k : Nat) (p : Addr) (x3 x4 x5 x6 x7 x8 : Option W), xs = List.range' k xs.length ∧ k + xs.length = many.toNat ∧ S = [some (probW many cs), some (.int most), some (.ref p), x3, x4, x5, x6, x7, x8] ∧ G p = none ∧ G' p = some (.lst ((ansAll k (upto k cs)).map cTup)) ∧ ExtG G G') ?_ ?_ _ _ _ ?_
    rotate_left
    · rintro S G1 ⟨k, p, x3, x4, x5, x6, x7, x8, ex, ek, rfl, hp, hG, xG⟩
      refine ⟨trivial, ?_⟩
      conv => whnf
      have : k = many.toNat := by simpa using ek
      subst this
      have e : upto many.toNat cs = cs := by
        unfold upto
        refine List.filter_eq_self.mpr fun c hm => decide_eq_true ?_
        by_cases ec : c = []
        · subst ec; show (0 : Int) ≤ _; omega
        · have h3 := ((hc c hm).mem _ (List.getLast_mem ec)).2
          have e4 : lastA c = absI (c.getLast ec) := by unfold lastA; rw [List.getLast?_eq_some_getLast ec]
          omega
      rw [e] at hG
      refine ret_ext (fun a o h => ?_) (q p hp)
      by_cases ea : a = p
      · subst ea; rw [updG_same] at h; rw [hG, h]
      · rw [updG_ne ea] at h; exact xG _ _ h
    · refine ⟨0, p0, none, none, none, none, none, none, by simp, by simp, rfl, hp0, ?_, .new hp0⟩
      rw [updG_same, show ((0 : Nat) : Int) = 0 from rfl, e0]; rfl
    rintro x xs S G1 ⟨k, p, x3, x4, x5, x6, x7, x8, ex, ek, rfl, hp, hG, xG⟩ N hN
    rw [List.length_cons] at ex ek
    rw [List.range'_succ] at ex
    injection ex with ex1 ex2
    subst ex1
    refine ⟨trivial, ?_⟩
    conv => whnf
    (try conv => whnf); (repeat (first | (refine Exists.intro _ (And.intro rfl ?_); conv => whnf) | (refine And.intro rfl ?_; conv => whnf) | (refine frz_lst ?_; conv => whnf) | (refine frz_dK ?_; conv => whnf) | (refine frz_dT ?_; conv => whnf) | (refine ⟨by (try simp only [List.length_cons, List.length_nil, List.length_map, List.length_append, List.length_drop, List.length_take, sizeLine_eq]); omega, ?_⟩; conv => whnf)))
    refine compW_pureF (f := cTup) (v := cTup) (keep := fun c => decide (c ≠ [] ∧ lastA c = (x : Int) + 1)) trivial cs [] (by rw [sizeLine_eq]; simp; omega) (fun c hm R' N' h1 h2 => ?_) ?_
    · (try conv => whnf); (repeat (first | (refine Exists.intro _ (And.intro rfl ?_); conv => whnf) | (refine And.intro rfl ?_; conv => whnf) | (refine frz_lst ?_; conv => whnf) | (refine frz_dK ?_; conv => whnf) | (refine frz_dT ?_; conv => whnf) | (refine ⟨by (try simp only [List.length_cons, List.length_nil, List.length_map, List.length_append, List.length_drop, List.length_take, sizeLine_eq]); omega, ?_⟩; conv => whnf)))
      refine eq_ints (c := []) ?_
      by_cases ec : c = []
      · rw [decide_eq_true ec]
        conv => whnf
        exact h2 (decide_eq_false fun z => z.1 ec)
      · rw [decide_eq_false ec]
        conv => whnf
        refine ⟨.int (c.getLast ec), atI_last ec, ?_⟩
        conv => whnf
        have e4 : lastA c = absI (c.getLast ec) := by unfold lastA; rw [List.getLast?_eq_some_getLast ec]
        by_cases ed : absI (c.getLast ec) = 1 + (x : Int)
        · rw [show decide ((if c.getLast ec < 0 then -c.getLast ec else c.getLast ec) = 1 + (x : Int)) = true from decide_eq_true ed]
          exact h1 (decide_eq_true ⟨ec, by omega⟩)
        · rw [show decide ((if c.getLast ec < 0 then -c.getLast ec else c.getLast ec) = 1 + (x : Int)) = false from decide_eq_false ed]
          exact h2 (decide_eq_false fun z => ed (by rw [← e4, z.2]; omega))
    rw [List.nil_append]
    (try conv => whnf); (repeat (first | (rw [hG]; conv => whnf) | (refine Exists.intro _ (And.intro rfl ?_); conv => whnf) | (refine And.intro rfl ?_; conv => whnf) | (refine frz_lst ?_; conv => whnf) | (refine frz_dK ?_; conv => whnf) | (refine frz_dT ?_; conv => whnf) | (refine ⟨by (try simp only [List.length_cons, List.length_nil, List.length_map, List.length_append, List.length_drop, List.length_take, sizeLine_eq]); omega, ?_⟩; conv => whnf)))
    intro D hD
    have pD : p ≠ D := fun e => by rw [← e, hG] at hD; cases hD
    have hrl : (ansAll x (upto (x : Int) cs)).length ≤ 1048576 := by
      refine Nat.le_trans (ansAll_len _ _) (Nat.le_trans (Nat.pow_le_pow_right (by decide) (show x ≤ 20 by omega)) (by decide))
    have hlen : ∀ r ∈ ansAll x (upto (x : Int) cs), r.length = x := fun r hr => by have := (mem_ansAll.mp hr).1.len; omega
    have hfl : ((ansAll x (upto (x : Int) cs)).flatMap fun r => [cTup (r ++ [0]), cTup (r ++ [1])]).length ≤ sizeLine := by
      have : ∀ L : List (List Int), (L.flatMap fun r => [cTup (r ++ [0]), cTup (r ++ [(1 : Int)])]).length = L.length * 2 := fun L => by
        induction L with
        | nil => rfl
        | cons x L ih => rw [List.flatMap_cons, List.length_append, ih, List.length_cons]; simp; omega
      rw [this, sizeLine_eq]; omega
    refine compD2_app (e := cTup) (fun r => [cTup (r ++ [0]), cTup (r ++ [1])]) (ansAll x (upto (x : Int) cs)) [] (by simpa using hfl) (fun acc => by rw [updG_ne pD]; exact hG) (fun r hr acc R' hb q' => ?_) ?_
    · have hx := hlen r hr
      have hb : acc.length + 2 ≤ sizeLine := hb
      have hxl : x ≤ 20 := by omega
      (try conv => whnf); (repeat (first | (rw [updG_same]; conv => whnf) | (refine Exists.intro _ (And.intro rfl ?_); conv => whnf) | (refine And.intro rfl ?_; conv => whnf) | (refine frz_lst ?_; conv => whnf) | (refine frz_dK ?_; conv => whnf) | (refine frz_dT ?_; conv => whnf) | (refine ⟨by (try simp only [List.length_cons, List.length_nil, List.length_map, List.length_append, List.length_drop, List.length_take, sizeLine_eq]); omega, ?_⟩; conv => whnf)))
      refine ⟨trivial, ?_⟩
      (try conv => whnf); (repeat (first | (rw [updG_same]; conv => whnf) | (refine Exists.intro _ (And.intro rfl ?_); conv => whnf) | (refine And.intro rfl ?_; conv => whnf) | (refine frz_lst ?_; conv => whnf) | (refine frz_dK ?_; conv => whnf) | (refine frz_dT ?_; conv => whnf) | (refine ⟨by (try simp only [List.length_cons, List.length_nil, List.length_map, List.length_append, List.length_drop, List.length_take, sizeLine_eq]); omega, ?_⟩; conv => whnf)))
      refine ⟨by omega, ?_⟩
      rw [updG_upd]
      conv => whnf
      refine ⟨trivial, ?_⟩
      (try conv => whnf); (repeat (first | (rw [updG_same]; conv => whnf) | (refine Exists.intro _ (And.intro rfl ?_); conv => whnf) | (refine And.intro rfl ?_; conv => whnf) | (refine frz_lst ?_; conv => whnf) | (refine frz_dK ?_; conv => whnf) | (refine frz_dT ?_; conv => whnf) | (refine ⟨by (try simp only [List.length_cons, List.length_nil, List.length_map, List.length_append, List.length_drop, List.length_take, sizeLine_eq]); omega, ?_⟩; conv => whnf)))
      refine ⟨by rw [List.length_append, List.length_singleton]; omega, ?_⟩
      rw [updG_upd]
      conv => whnf
      refine ⟨trivial, ?_⟩
      rw [List.append_assoc]
      have e1 : W.tup (r.map W.int ++ [W.int 0]) = cTup (r ++ [0]) := by rw [show cTup (r ++ [0]) = W.tup ((r ++ [0]).map W.int) from rfl, List.map_append]; rfl
      have e2 : W.tup (r.map W.int ++ [W.int 1]) = cTup (r ++ [1]) := by rw [show cTup (r ++ [1]) = W.tup ((r ++ [1]).map W.int) from rfl, List.map_append]; rfl
      rw [e1, e2]
      exact q'
    rw [List.nil_append]
    conv => whnf
    rw [updG_same]
    dsimp only
    rw [offG_upd hD, show ((ansAll x (upto (x : Int) cs)).flatMap fun r => [cTup (r ++ [0]), cTup (r ++ [1])]) = ((ansAll x (upto (x : Int) cs)).flatMap fun r => [r ++ [0], r ++ [1]]).map cTup by rw [List.map_flatMap]; rfl]
    have hfl2 : ((ansAll x (upto (x : Int) cs)).flatMap fun r => [r ++ [0], r ++ [1]]).length ≤ sizeLine := by
      have := congrArg List.length (show ((ansAll x (upto (x : Int) cs)).flatMap fun r => [cTup (r ++ [0]), cTup (r ++ [1])]) = ((ansAll x (upto (x : Int) cs)).flatMap fun r => [r ++ [0], r ++ [1]]).map cTup by rw [List.map_flatMap]; rfl)
      rw [List.length_map] at this
      omega
    have hrow : ∀ r ∈ ((ansAll x (upto (x : Int) cs)).flatMap fun r => [r ++ [0], r ++ [1]]), BitsOf ((x : Int) + 1) r := fun r hr => by
      obtain ⟨s, hs, h⟩ := List.mem_flatMap.mp hr
      have hs := (mem_ansAll.mp hs).1
      have := mem_rows (n := x + 1) (r := r)
      rw [Int.natCast_add] at this
      exact this.mp (List.mem_flatMap.mpr ⟨s, mem_rows.mpr hs, h⟩)
    have hdl : (dueAt ((x : Int) + 1) cs).length ≤ 4000 := Nat.le_trans (List.length_filter_le _ _) hl
    conv => whnf
    refine compW_pureF (f := cTup) (v := cTup) (keep := WS.allB (dueAt ((x : Int) + 1) cs)) trivial _ [] (by simpa using hfl2) (fun r hr R' N' h1 h2 => ?_) ?_
    · conv => whnf
      refine compW_pure (f := cTup) (v := fun c => W.bl (holdsB c r)) trivial (dueAt ((x : Int) + 1) cs) [] (by rw [sizeLine_eq]; simp; omega) (fun c hm R' q' => ?_) ?_
      · obtain ⟨d1, d2⟩ := List.mem_filter.mp hm
        have d2 := (of_decide_eq_true d2).2
        refine p_holds (many := (x : Int) + 1) (fun l hl => by have := lastA_le (hc c d1) l hl; rwa [d2] at this) (by have := (hc c d1).len (by omega); omega) (hrow r hr) q'
      · rw [List.nil_append, show ((dueAt ((x : Int) + 1) cs).map fun c => W.bl (holdsB c r)) = ((dueAt ((x : Int) + 1) cs).map fun c => holdsB c r).map W.bl by rw [List.map_map]; rfl]
        unfold fBols
        rw [blsOf_map]
        dsimp only
        rw [show (((dueAt ((x : Int) + 1) cs).map fun c => holdsB c r).all fun b => b) = WS.allB (dueAt ((x : Int) + 1) cs) r by rw [List.all_map]; rfl]
        cases eb : WS.allB (dueAt ((x : Int) + 1) cs) r with
        | true => exact h1 eb
        | false => exact h2 eb
    rw [List.nil_append, step_ans hc x]
    intro D2 hD2
    conv => whnf
    exact hN _ _ ⟨x + 1, D2, _, _, _, _, _, _, ex2, by omega, rfl, extG_none xG hD2, by rw [updG_same, Int.natCast_add]; rfl, xG.trans (.new hD2)⟩
abbrev s_answers : Stmt := topS 18
theorem sc_answers : FnScope N_answers ["problem", "most"] (defScope s_answers) := ⟨rfl, rfl, rfl, by decide +kernel, rfl, by decide +kernel, by decide +kernel⟩
theorem dv_answers (Cn_Problem : ClsD K mg "Problem") (NA_Problem_many : NoA K "Problem" "many") (NA_Problem_clauses : NoA K "Problem" "clauses") (z_range : mg "range" = none) (z_abs : mg "abs" = none) (D_holds : DfG P w K mg base CX0 1 "holds" ["clause", "answer"] [] P_holds) (z_all : mg "all" = none) {f : Addr} {cdv : Value} {A : Around} {outer : List Env} {s : Shared} {H : Hp} {E : XK} {G : GH} (hgd : A.guards = some []) (hr : Room 1 (A.deeper (envOfC "answers" (defScope s_answers) s.heap.objs.size f cdv))) :
    WSs (cxOf CX0 P w K mg base N_answers "answers" (defScope s_answers) f cdv A outer s H E).nox (G, H) (defBody s_answers) T_answers :=
  (wss_cons (ws_if (wt_cmp op_gtW (we_fld Cn_Problem NA_Problem_many (we_v 0)) (we_v 1) (nomark _)) (wss_one ws_never) wss_nil)
    (wss_cons (ws_s 2 sc_answers.nd (we_if (wt_cmp (op_inQ (hu65 hr)) (we_tup wa_nil) (we_fld Cn_Problem NA_Problem_clauses (we_v 0)) (by rfl)) (we_lst wa_nil) (we_lst (wa_cons (we_tup wa_nil) wa_nil))))
    (wss_cons (ws_for PassesOwn.never rfl (wi_range2 (by rfl) z_range (wa_cons we_int (wa_cons (we_op op_addW (we_fld Cn_Problem NA_Problem_many (we_v 0)) we_int) wa_nil))) (wg_n 3 sc_answers.nd) (wss_cons (ws_s 4 sc_answers.nd (we_fz (we_comp (own := [("clause", 6)]) rfl sc_answers.nd (wi_seq (we_fld Cn_Problem NA_Problem_clauses (we_v 0))) (blkOk_by (own := [("clause", 6)]) (N := N_answers) (sc := defScope s_answers) (by decide +kernel)) (gok_name (by decide)) (fun _ _ _ _ _ => pg_n 6 sc_answers.nd) (fun _ _ _ _ _ => wts_one (wp_t (wp_and (wt_cmp (op_neQ (hu64 hr)) (we_v 6) (we_tup wa_nil) (nomark _)) (wp_and1 (wt_cmp (op_eqQ (hu64 hr)) (we_cb call_absW (by rfl) z_abs bt_abs (wa_cons (we_ix (hu1 hr) (we_v 6) (we_neg we_int)) wa_nil)) (we_v 3) (nomark _)))))) (fun _ _ _ _ _ => (we_v 6)))))
    (wss_cons (ws_setC2F (i := 5) (own := [("some", 7), ("bit", 8)]) (own1 := [("bit", 8)]) rfl sc_answers.nd rfl rfl (sw_true rfl rfl rfl (by decide +kernel)) (wi_seq (we_v 2)) (blkOk_by (own := [("some", 7), ("bit", 8)]) (N := N_answers) (sc := defScope s_answers) (by decide +kernel)) (by decide) (gok_name (by decide)) (gok_name (by decide)) (fun _ _ _ _ _ => pg_n 7 sc_answers.nd) (fun _ _ _ _ _ => wts_nil) (fun _ _ _ _ _ => (wi_dispT (wa_cons we_int (wa_cons we_int wa_nil)))) (fun _ _ _ _ _ => pg_n 8 sc_answers.nd) (fun _ _ _ _ _ => wts_nil) (fun _ _ _ _ _ => (we_op op_addW (we_v 7) (we_tup (wa_cons (we_v 8) wa_nil)))))
    (wss_one (ws_setC (i := 2) (own := [("some", 7)]) rfl sc_answers.nd rfl rfl (sw_true rfl rfl rfl (by decide +kernel)) (wi_seq (we_v 5)) (blkOk_by (own := [("some", 7)]) (N := N_answers) (sc := defScope s_answers) (by decide +kernel)) (gok_name (by decide)) (fun _ _ _ _ _ => pg_n 7 sc_answers.nd) (fun _ _ _ _ _ => wts_one (wt_truth (we_cbC (own := [("clause", 6)]) (tmp_all rfl) (by rfl) z_all bt_all rfl sc_answers.nd (wi_seq (we_v 4)) (blkOk_by (own := [("clause", 6)]) (N := N_answers) (sc := _) (by rfl)) (gok_name (by decide)) (fun _ _ _ _ _ => pg_n 6 sc_answers.nd) (fun _ _ _ _ _ => wts_nil) (fun _ _ _ _ _ => (we_h D_holds hgd hr (wa_cons (we_v 6) (wa_cons (we_v 7) wa_nil))))))) (fun _ _ _ _ _ => (we_v 7)))))))
    (wss_one (ws_ret (we_v 2))))))
theorem ok_answers (Cn_Problem : ClsD K mg "Problem") (NA_Problem_many : NoA K "Problem" "many") (NA_Problem_clauses : NoA K "Problem" "clauses") (z_range : mg "range" = none) (z_abs : mg "abs" = none) (D_holds : DfG P w K mg base CX0 1 "holds" ["clause", "answer"] [] P_holds) (z_all : mg "all" = none) {f : Addr} {fd : FuncData} {dvs : List V} {kws : List (Str × V)} (F : FunD K "answers" "answers" (defArgs s_answers) (defBody s_answers) (defScope s_answers) dvs kws f fd) : FnG P w K mg base CX0 2 f fd ["problem", "most"] (spL K P_answers) :=
  okFD F sc_answers len_answers fun cdv A outer s H E ws G R RX hgd hr h => ⟨T_answers, dv_answers Cn_Problem NA_Problem_many NA_Problem_clauses z_range z_abs D_holds z_all hgd hr, rd_answers ws G R RX h⟩
/-! ### letters_text -/
abbrev s_letters_text : Stmt := topS 22
theorem sc_letters_text : FnScope N_letters_text ["letters"] (defScope s_letters_text) := ⟨rfl, rfl, rfl, by decide +kernel, rfl, by decide +kernel, by decide +kernel⟩
theorem dv_letters_text (z_len : mg "len" = none) (z_str : mg "str" = none) {f : Addr} {cdv : Value} {A : Around} {outer : List Env} {s : Shared} {H : Hp} {E : XK} {G : GH} (hgd : A.guards = some []) (hr : Room 0 (A.deeper (envOfC "letters_text" (defScope s_letters_text) s.heap.objs.size f cdv))) :
    WSs (cxOf CX0 P w K mg base N_letters_text "letters_text" (defScope s_letters_text) f cdv A outer s H E).nox (G, H) (defBody s_letters_text) T_letters_text :=
  (wss_one (ws_ret (we_if (wt_cmp op_gtW (we_cb call_lenQ (by rfl) z_len bt_len (wa_cons (we_v 0) wa_nil)) we_int (nomark _)) (we_joinK (own := [("letter", 1)]) we_str rfl sc_letters_text.nd (wi_seq (we_v 0)) (blkOk_by (own := [("letter", 1)]) (N := N_letters_text) (sc := defScope s_letters_text) (by decide +kernel)) (gok_name (by decide)) (fun _ _ _ _ _ => pg_n 1 sc_letters_text.nd) (fun _ _ _ _ _ => wts_nil) (fun _ _ _ _ _ => (we_ct call_strW (by rfl) z_str bt_str (wa_cons (we_v 1) wa_nil)))) we_str)))
theorem ok_letters_text (z_len : mg "len" = none) (z_str : mg "str" = none) {f : Addr} {fd : FuncData} (F : Fun K "letters_text" "letters_text" s_letters_text f fd) : FnG P w K mg base CX0 1 f fd ["letters"] (spL K P_letters_text) :=
  okF F sc_letters_text len_letters_text fun cdv A outer s H E ws G R RX hgd hr h => ⟨T_letters_text, dv_letters_text z_len z_str hgd hr, rd_letters_text ws G R RX h⟩
/-! ### number_of -/
abbrev s_number_of : Stmt := topS 23
theorem sc_number_of : FnScope N_number_of ["word"] (defScope s_number_of) := ⟨rfl, rfl, rfl, by decide +kernel, rfl, by decide +kernel, by decide +kernel⟩
theorem dv_number_of (z_len : mg "len" = none) (c_MOST_FIGURES : Gv K mg "MOST_FIGURES" (.int 3)) (c_FIGURES : Gv K mg "FIGURES" (.str "0123456789")) (z_all : mg "all" = none) (z_int : mg "int" = none) {f : Addr} {cdv : Value} {A : Around} {outer : List Env} {s : Shared} {H : Hp} {E : XK} {G : GH} (hgd : A.guards = some []) (hr : Room 0 (A.deeper (envOfC "number_of" (defScope s_number_of) s.heap.objs.size f cdv))) :
    WSs (cxOf CX0 P w K mg base N_number_of "number_of" (defScope s_number_of) f cdv A outer s H E).nox (G, H) (defBody s_number_of) T_number_of :=
  (wss_cons (ws_if (wp_t (wp_or (wt_not (wt_chain op_leW op_leW we_int (we_cb call_lenQ (by rfl) z_len bt_len (wa_cons (we_v 0) wa_nil)) (we_g c_MOST_FIGURES))) (wp_or (wt_cmp (op_eqQ (hu64 hr)) (we_ix (hu1 hr) (we_v 0) we_int) we_str (nomark _)) (wp_or1 (wt_not (wt_truth (we_cbC (own := [("sign", 1)]) (tmp_all rfl) (by rfl) z_all bt_all rfl sc_number_of.nd (wi_str (we_v 0)) (blkOk_by (own := [("sign", 1)]) (N := N_number_of) (sc := defScope s_number_of) (by decide +kernel)) (gok_name (by decide)) (fun _ _ _ _ _ => pg_n 1 sc_number_of.nd) (fun _ _ _ _ _ => wts_nil) (fun _ _ _ _ _ => (we_cmp (op_inQ (hu65 hr)) (we_v 1) (we_g c_FIGURES) (by rfl)))))))))) (wss_one (ws_ret we_non)) wss_nil)
    (wss_one (ws_ret (we_ct call_intW (by rfl) z_int bt_int (wa_cons (we_v 0) wa_nil)))))
theorem ok_number_of (z_len : mg "len" = none) (c_MOST_FIGURES : Gv K mg "MOST_FIGURES" (.int 3)) (c_FIGURES : Gv K mg "FIGURES" (.str "0123456789")) (z_all : mg "all" = none) (z_int : mg "int" = none) {f : Addr} {fd : FuncData} (F : Fun K "number_of" "number_of" s_number_of f fd) : FnG P w K mg base CX0 1 f fd ["word"] (spL K P_number_of) :=
  okF F sc_number_of len_number_of fun cdv A outer s H E ws G R RX hgd hr h => ⟨T_number_of, dv_number_of z_len c_MOST_FIGURES c_FIGURES z_all z_int hgd hr, rd_number_of ws G R RX h⟩
/-! ### letter_of -/
abbrev s_letter_of : Stmt := topS 24
theorem sc_letter_of : FnScope N_letter_of ["word"] (defScope s_letter_of) := ⟨rfl, rfl, rfl, by decide +kernel, rfl, by decide +kernel, by decide +kernel⟩
theorem dv_letter_of (D_number_of : DfG P w K mg base CX0 1 "number_of" ["word"] [] P_number_of) (z_int : mg "int" = none) {f : Addr} {cdv : Value} {A : Around} {outer : List Env} {s : Shared} {H : Hp} {E : XK} {G : GH} (hgd : A.guards = some []) (hr : Room 1 (A.deeper (envOfC "letter_of" (defScope s_letter_of) s.heap.objs.size f cdv))) :
    WSs (cxOf CX0 P w K mg base N_letter_of "letter_of" (defScope s_letter_of) f cdv A outer s H E).nox (G, H) (defBody s_letter_of) T_letter_of :=
  (wss_cons (ws_s 1 sc_letter_of.nd (we_h D_number_of hgd hr (wa_cons (we_if (wt_cmp (op_eqQ (hu64 hr)) (we_fz (we_slice (we_v 0) wo_none (wo_some we_int))) we_str (nomark _)) (we_fz (we_slice (we_v 0) (wo_some we_int) wo_none)) (we_v 0)) wa_nil)))
    (wss_one (ws_ret (we_if (wt_cmp op_isW (we_v 1) we_non (nomark _)) we_non (we_op op_mulWW (we_v 1) (we_ix (hu1 hr) (we_fz (we_lst (wa_cons we_int (wa_cons (we_neg we_int) wa_nil)))) (we_ct call_intW (by rfl) z_int bt_int (wa_cons (we_cmp (op_eqQ (hu64 hr)) (we_fz (we_slice (we_v 0) wo_none (wo_some we_int))) we_str (nomark _)) wa_nil))))))))
theorem ok_letter_of (D_number_of : DfG P w K mg base CX0 1 "number_of" ["word"] [] P_number_of) (z_int : mg "int" = none) {f : Addr} {fd : FuncData} (F : Fun K "letter_of" "letter_of" s_letter_of f fd) : FnG P w K mg base CX0 2 f fd ["word"] (spL K P_letter_of) :=
  okF F sc_letter_of len_letter_of fun cdv A outer s H E ws G R RX hgd hr h => ⟨T_letter_of, dv_letter_of D_number_of z_int hgd hr, rd_letter_of ws G R RX h⟩
/-! ### letters_of -/
abbrev s_letters_of : Stmt := topS 25
theorem sc_letters_of : FnScope N_letters_of ["words"] (defScope s_letters_of) := ⟨rfl, rfl, rfl, by decide +kernel, rfl, by decide +kernel, by decide +kernel⟩
theorem dv_letters_of (D_letter_of : DfG P w K mg base CX0 2 "letter_of" ["word"] [] P_letter_of) (z_tuple : mg "tuple" = none) {f : Addr} {cdv : Value} {A : Around} {outer : List Env} {s : Shared} {H : Hp} {E : XK} {G : GH} (hgd : A.guards = some []) (hr : Room 2 (A.deeper (envOfC "letters_of" (defScope s_letters_of) s.heap.objs.size f cdv))) :
    WSs (cxOf CX0 P w K mg base N_letters_of "letters_of" (defScope s_letters_of) f cdv A outer s H E).nox (G, H) (defBody s_letters_of) T_letters_of :=
  (wss_cons (ws_setCF (i := 1) (own := [("word", 2)]) rfl sc_letters_of.nd rfl rfl (sw_true rfl rfl rfl (by decide +kernel)) (wi_seq (we_v 0)) (blkOk_by (own := [("word", 2)]) (N := N_letters_of) (sc := defScope s_letters_of) (by decide +kernel)) (gok_name (by decide)) (fun _ _ _ _ _ => pg_n 2 sc_letters_of.nd) (fun _ _ _ _ _ => wts_nil) (fun _ _ _ _ _ => (we_h D_letter_of hgd hr (wa_cons (we_v 2) wa_nil))))
    (wss_one (ws_ret (we_if (wt_cmp (op_inQ (hu65 hr)) we_non (we_v 1) (by rfl)) we_non (we_ct call_tupW (by rfl) z_tuple bt_tuple (wa_cons (we_v 1) wa_nil))))))
theorem ok_letters_of (D_letter_of : DfG P w K mg base CX0 2 "letter_of" ["word"] [] P_letter_of) (z_tuple : mg "tuple" = none) {f : Addr} {fd : FuncData} (F : Fun K "letters_of" "letters_of" s_letters_of f fd) : FnG P w K mg base CX0 3 f fd ["words"] (spL K P_letters_of) :=
  okF F sc_letters_of len_letters_of fun cdv A outer s H E ws G R RX hgd hr h => ⟨T_letters_of, dv_letters_of D_letter_of z_tuple hgd hr, rd_letters_of ws G R RX h⟩
/-! ### clause_row -/
abbrev s_clause_row : Stmt := topS 26
theorem sc_clause_row : FnScope N_clause_row ["row"] (defScope s_clause_row) := ⟨rfl, rfl, rfl, by decide +kernel, rfl, by decide +kernel, by decide +kernel⟩
theorem dv_clause_row (D_letters_of : DfG P w K mg base CX0 3 "letters_of" ["words"] [] P_letters_of) {f : Addr} {cdv : Value} {A : Around} {outer : List Env} {s : Shared} {H : Hp} {E : XK} {G : GH} (hgd : A.guards = some []) (hr : Room 3 (A.deeper (envOfC "clause_row" (defScope s_clause_row) s.heap.objs.size f cdv))) :
    WSs (cxOf CX0 P w K mg base N_clause_row "clause_row" (defScope s_clause_row) f cdv A outer s H E).nox (G, H) (defBody s_clause_row) T_clause_row :=
  (wss_one (ws_ret (we_if (wt_cmp (op_eqQ (hu64 hr)) (we_v 0) we_str (nomark _)) (we_tup wa_nil) (we_h D_letters_of hgd hr (wa_cons (we_fz (we_split (pe_split (we_v 0) we_str))) wa_nil)))))
theorem ok_clause_row (D_letters_of : DfG P w K mg base CX0 3 "letters_of" ["words"] [] P_letters_of) {f : Addr} {fd : FuncData} (F : Fun K "clause_row" "clause_row" s_clause_row f fd) : FnG P w K mg base CX0 4 f fd ["row"] (spL K P_clause_row) :=
  okF F sc_clause_row len_clause_row fun cdv A outer s H E ws G R RX hgd hr h => ⟨T_clause_row, dv_clause_row D_letters_of hgd hr, rd_clause_row ws G R RX h⟩
/-! ### problem_text -/
abbrev s_problem_text : Stmt := topS 27
theorem sc_problem_text : FnScope N_problem_text ["problem"] (defScope s_problem_text) := ⟨rfl, rfl, rfl, by decide +kernel, rfl, by decide +kernel, by decide +kernel⟩
theorem dv_problem_text (Cn_Problem : ClsD K mg "Problem") (NA_Problem_many : NoA K "Problem" "many") (NA_Problem_clauses : NoA K "Problem" "clauses") (D_letters_text : DfG P w K mg base CX0 1 "letters_text" ["letters"] [] P_letters_text) {f : Addr} {cdv : Value} {A : Around} {outer : List Env} {s : Shared} {H : Hp} {E : XK} {G : GH} (hgd : A.guards = some []) (hr : Room 1 (A.deeper (envOfC "problem_text" (defScope s_problem_text) s.heap.objs.size f cdv))) :
    WSs (cxOf CX0 P w K mg base N_problem_text "problem_text" (defScope s_problem_text) f cdv A outer s H E).nox (G, H) (defBody s_problem_text) T_problem_text :=
  (wss_cons (ws_s 1 sc_problem_text.nd (we_fz (we_op op_addW (we_fz (we_lst (wa_cons (we_joined (WJ.cons we_str (WJ.cons (we_fmt (we_fld Cn_Problem NA_Problem_many (we_v 0))) WJ.nil))) wa_nil))) (we_fz (we_comp (own := [("clause", 2)]) rfl sc_problem_text.nd (wi_seq (we_fld Cn_Problem NA_Problem_clauses (we_v 0))) (blkOk_by (own := [("clause", 2)]) (N := N_problem_text) (sc := defScope s_problem_text) (by decide +kernel)) (gok_name (by decide)) (fun _ _ _ _ _ => pg_n 2 sc_problem_text.nd) (fun _ _ _ _ _ => wts_nil) (fun _ _ _ _ _ => (we_h D_letters_text hgd hr (wa_cons (we_v 2) wa_nil))))))))
    (wss_one (ws_ret (we_joinK (own := [("row", 3)]) we_str rfl sc_problem_text.nd (wi_seq (we_v 1)) (blkOk_by (own := [("row", 3)]) (N := N_problem_text) (sc := defScope s_problem_text) (by decide +kernel)) (gok_name (by decide)) (fun _ _ _ _ _ => pg_n 3 sc_problem_text.nd) (fun _ _ _ _ _ => wts_nil) (fun _ _ _ _ _ => (we_op op_addW (we_v 3) we_str))))))
theorem ok_problem_text (Cn_Problem : ClsD K mg "Problem") (NA_Problem_many : NoA K "Problem" "many") (NA_Problem_clauses : NoA K "Problem" "clauses") (D_letters_text : DfG P w K mg base CX0 1 "letters_text" ["letters"] [] P_letters_text) {f : Addr} {fd : FuncData} (F : Fun K "problem_text" "problem_text" s_problem_text f fd) : FnG P w K mg base CX0 2 f fd ["problem"] (spL K P_problem_text) :=
  okF F sc_problem_text len_problem_text fun cdv A outer s H E ws G R RX hgd hr h => ⟨T_problem_text, dv_problem_text Cn_Problem NA_Problem_many NA_Problem_clauses D_letters_text hgd hr, rd_problem_text ws G R RX h⟩
/-! ### rows_of -/
abbrev s_rows_of : Stmt := topS 28
theorem sc_rows_of : FnScope N_rows_of ["text"] (defScope s_rows_of) := ⟨rfl, rfl, rfl, by decide +kernel, rfl, by decide +kernel, by decide +kernel⟩
theorem dv_rows_of (z_isinstance : mg "isinstance" = none) (z_str : mg "str" = none) {f : Addr} {cdv : Value} {A : Around} {outer : List Env} {s : Shared} {H : Hp} {E : XK} {G : GH} (hgd : A.guards = some []) (hr : Room 2 (A.deeper (envOfC "rows_of" (defScope s_rows_of) s.heap.objs.size f cdv))) :
    WSs (cxOf CX0 P w K mg base N_rows_of "rows_of" (defScope s_rows_of) f cdv A outer s H E).nox (G, H) (defBody s_rows_of) T_rows_of :=
  (wss_cons (ws_if (wp_t (wp_or (wt_not (wt_truth (we_cb (call_isiW .st) (by rfl) z_isinstance bt_isinstance (wa_cons (we_v 0) (wa_cons (we_ty (by rfl) z_str bt_str) wa_nil))))) (wp_or1 (wt_cmp (op_eqQ (hu64 hr)) (we_v 0) we_str (nomark _))))) (wss_one ws_never) wss_nil)
    (wss_cons (ws_asg (we_fz (we_split (pe_split (we_v 0) we_str))) (wg_star rfl (wgs_consS (wg_n 1 sc_rows_of.nd) (wgs_consS (wg_n 2 sc_rows_of.nd) wgs_nil))))
    (wss_one (ws_ret (we_if (wt_cmp (op_eqQ (hu64 hr)) (we_v 2) we_str (nomark _)) (we_tup (wa_cons (we_fz (we_v 1)) (wa_cons we_bl wa_nil))) (we_tup (wa_cons (we_fz (we_op op_addW (we_v 1) (we_fz (we_lst (wa_cons (we_v 2) wa_nil))))) (wa_cons we_bl wa_nil))))))))
theorem ok_rows_of (z_isinstance : mg "isinstance" = none) (z_str : mg "str" = none) {f : Addr} {fd : FuncData} (F : Fun K "rows_of" "rows_of" s_rows_of f fd) : FnG P w K mg base CX0 3 f fd ["text"] (spL K P_rows_of) :=
  okF F sc_rows_of len_rows_of fun cdv A outer s H E ws G R RX hgd hr h => ⟨T_rows_of, dv_rows_of z_isinstance z_str hgd hr, rd_rows_of ws G R RX h⟩
/-! ### many_of -/
abbrev s_many_of : Stmt := topS 29
theorem sc_many_of : FnScope N_many_of ["row"] (defScope s_many_of) := ⟨rfl, rfl, rfl, by decide +kernel, rfl, by decide +kernel, by decide +kernel⟩
theorem dv_many_of (D_number_of : DfG P w K mg base CX0 1 "number_of" ["word"] [] P_number_of) {f : Addr} {cdv : Value} {A : Around} {outer : List Env} {s : Shared} {H : Hp} {E : XK} {G : GH} (hgd : A.guards = some []) (hr : Room 1 (A.deeper (envOfC "many_of" (defScope s_many_of) s.heap.objs.size f cdv))) :
    WSs (cxOf CX0 P w K mg base N_many_of "many_of" (defScope s_many_of) f cdv A outer s H E).nox (G, H) (defBody s_many_of) T_many_of :=
  (wss_one (ws_ret (we_if (wt_cmp (op_eqQ (hu64 hr)) (we_fz (we_slice (we_v 0) wo_none (wo_some we_int))) we_str (nomark _)) (we_h D_number_of hgd hr (wa_cons (we_fz (we_slice (we_v 0) (wo_some we_int) wo_none)) wa_nil)) we_non)))
theorem ok_many_of (D_number_of : DfG P w K mg base CX0 1 "number_of" ["word"] [] P_number_of) {f : Addr} {fd : FuncData} (F : Fun K "many_of" "many_of" s_many_of f fd) : FnG P w K mg base CX0 2 f fd ["row"] (spL K P_many_of) :=
  okF F sc_many_of len_many_of fun cdv A outer s H E ws G R RX hgd hr h => ⟨T_many_of, dv_many_of D_number_of hgd hr, rd_many_of ws G R RX h⟩
/-! ### read_problem -/
abbrev s_read_problem : Stmt := topS 30
theorem sc_read_problem : FnScope N_read_problem ["text"] (defScope s_read_problem) := ⟨rfl, rfl, rfl, by decide +kernel, rfl, by decide +kernel, by decide +kernel⟩
theorem dv_read_problem (D_rows_of : DfG P w K mg base CX0 3 "rows_of" ["text"] [] P_rows_of) (D_many_of : DfG P w K mg base CX0 2 "many_of" ["row"] [] P_many_of) (z_enumerate : mg "enumerate" = none) (D_clause_row : DfG P w K mg base CX0 4 "clause_row" ["row"] [] P_clause_row) (z_len : mg "len" = none) (M_Problem : MakeD P w K mg base CX0 4 "Problem" ["self", "many", "clauses"] [] P_Problem___init__) {f : Addr} {cdv : Value} {A : Around} {outer : List Env} {s : Shared} {H : Hp} {E : XK} {G : GH} (hgd : A.guards = some []) (hr : Room 5 (A.deeper (envOfC "read_problem" (defScope s_read_problem) s.heap.objs.size f cdv))) :
    WSs (cxOf CX0 P w K mg base N_read_problem "read_problem" (defScope s_read_problem) f cdv A outer s H E).nox (G, H) (defBody s_read_problem) T_read_problem :=
  (wss_cons (ws_asg (we_h D_rows_of hgd hr (wa_cons (we_v 0) wa_nil)) (wg_unp rfl (wgs_cons (wg_n 1 sc_read_problem.nd) (wgs_cons (wg_n 2 sc_read_problem.nd) wgs_nil))))
    (wss_cons (ws_par (i := 3) (j := 4) rfl sc_read_problem.nd rfl rfl (by decide) rfl rfl (wa_cons (we_h D_many_of hgd hr (wa_cons (we_ix (hu1 hr) (we_v 1) we_int) wa_nil)) (wa_cons (we_lst wa_nil) wa_nil)) (by rfl))
    (wss_cons (ws_for PassesOwn.never rfl (wi_enum1 (by rfl) z_enumerate (we_v 1)) (wg_unp rfl (wgs_cons (wg_n 5 sc_read_problem.nd) (wgs_cons (wg_n 6 sc_read_problem.nd) wgs_nil))) (wss_cons (ws_s 7 sc_read_problem.nd (we_if (wt_cmp (op_eqQ (hu64 hr)) (we_v 5) we_int (nomark _)) (we_tup wa_nil) (we_h D_clause_row hgd hr (wa_cons (we_v 6) wa_nil))))
    (wss_cons (ws_if (wp_t (wp_or (wt_cmp op_isW (we_v 3) we_non (nomark _)) (wp_or (wt_cmp op_isW (we_v 7) we_non (nomark _)) (wp_or1 (wp_t (wp_and (wt_cmp (op_eqQ (hu64 hr)) (we_v 5) (we_op op_subW (we_cb call_lenQ (by rfl) z_len bt_len (wa_cons (we_v 1) wa_nil)) we_int) (nomark _)) (wp_and1 (wt_not (wt_truth (we_v 2)))))))))) (wss_one ws_never) wss_nil)
    (wss_one (ws_expr (we_mL (pe_bm PySem.F.plainAttrs_list PySem.F.slot_list_append PySem.F.type_list_append mt_appendW (we_v 4) (wa_cons (we_v 7) wa_nil))))))))
    (wss_one (ws_ret (we_fz (we_mk M_Problem hgd hr (by rfl) (wa_cons (we_v 3) (wa_cons (we_fz (we_slice (we_v 4) (wo_some we_int) wo_none)) wa_nil)))))))))
theorem ok_read_problem (D_rows_of : DfG P w K mg base CX0 3 "rows_of" ["text"] [] P_rows_of) (D_many_of : DfG P w K mg base CX0 2 "many_of" ["row"] [] P_many_of) (z_enumerate : mg "enumerate" = none) (D_clause_row : DfG P w K mg base CX0 4 "clause_row" ["row"] [] P_clause_row) (z_len : mg "len" = none) (M_Problem : MakeD P w K mg base CX0 4 "Problem" ["self", "many", "clauses"] [] P_Problem___init__) {f : Addr} {fd : FuncData} (F : Fun K "read_problem" "read_problem" s_read_problem f fd) : FnG P w K mg base CX0 6 f fd ["text"] (spL K P_read_problem) :=
  okF F sc_read_problem len_read_problem fun cdv A outer s H E ws G R RX hgd hr h => ⟨T_read_problem, dv_read_problem D_rows_of D_many_of z_enumerate D_clause_row z_len M_Problem hgd hr, rd_read_problem ws G R RX h⟩
/-! ### _law_mixed -/
abbrev s__law_mixed : Stmt := topS 32
theorem sc__law_mixed : FnScope N__law_mixed ["cell", "k"] (defScope s__law_mixed) := ⟨rfl, rfl, rfl, by decide +kernel, rfl, by decide +kernel, by decide +kernel⟩
theorem dv__law_mixed  {f : Addr} {cdv : Value} {A : Around} {outer : List Env} {s : Shared} {H : Hp} {E : XK} {G : GH} (hgd : A.guards = some []) (hr : Room 0 (A.deeper (envOfC "_law_mixed" (defScope s__law_mixed) s.heap.objs.size f cdv))) :
    WSs (cxOf CX0 P w K mg base N__law_mixed "_law_mixed" (defScope s__law_mixed) f cdv A outer s H E).nox (G, H) (defBody s__law_mixed) T__law_mixed :=
  (wss_cons (ws_s 2 sc__law_mixed.nd (we_op op_modW (we_op op_powW (we_op op_modW (we_op op_mulWW (we_op op_addW (we_op op_addW (we_op op_modW (we_v 0) we_int) (we_op op_mulWW we_int (we_v 1))) we_int) we_int) we_int) we_int) we_int))
    (wss_cons (ws_if (wt_cmp (op_ltW (hu0 hr)) (we_v 0) (we_op op_powW we_int we_int) (nomark _)) (wss_one (ws_ret (we_v 2))) wss_nil)
    (wss_one (ws_ret (we_op op_modW (we_op op_addW (we_v 2) (we_op op_modW (we_op op_fdivWW (we_v 0) (we_op op_powW we_int we_int)) (we_op op_addW we_int (we_op op_mulWW (we_op op_addW (we_v 1) we_int) we_int)))) we_int)))))
theorem ok__law_mixed  {f : Addr} {fd : FuncData} (F : Fun K "_law_mixed" "_law_mixed" s__law_mixed f fd) : FnG P w K mg base CX0 1 f fd ["cell", "k"] (spL K P__law_mixed) :=
  okF F sc__law_mixed len__law_mixed fun cdv A outer s H E ws G R RX hgd hr h => ⟨T__law_mixed, dv__law_mixed  hgd hr, rd__law_mixed ws G R RX h⟩
/-! ### _law_next -/
abbrev s__law_next : Stmt := topS 33
theorem sc__law_next : FnScope N__law_next ["draw", "size"] (defScope s__law_next) := ⟨rfl, rfl, rfl, by decide +kernel, rfl, by decide +kernel, by decide +kernel⟩
theorem dv__law_next (z_len : mg "len" = none) (z_max : mg "max" = none) (D__law_mixed : DfG P w K mg base CX0 1 "_law_mixed" ["cell", "k"] [] P__law_mixed) {f : Addr} {cdv : Value} {A : Around} {outer : List Env} {s : Shared} {H : Hp} {E : XK} {G : GH} (hgd : A.guards = some []) (hr : Room 1 (A.deeper (envOfC "_law_next" (defScope s__law_next) s.heap.objs.size f cdv))) :
    WSs (cxOf CX0 P w K mg base N__law_next "_law_next" (defScope s__law_next) f cdv A outer s H E).nox (G, H) (defBody s__law_next) T__law_next :=
  (wss_cons (ws_s 2 sc__law_next.nd (we_ix (hu1 hr) (we_v 0) we_int))
    (wss_cons (ws_asg (we_op op_addW (we_v 2) we_int) (wg_sub (we_v 0) we_int (set_Q (hu1 hr))))
    (wss_cons (ws_s 3 sc__law_next.nd (we_cb (call_max2W rfl) (by rfl) z_max bt_max (wa_cons we_int (wa_cons (we_cb call_lenQ (by rfl) z_len bt_len (wa_cons (we_ix (hu1 hr) (we_v 0) we_int) wa_nil)) wa_nil))))
    (wss_cons (ws_s 4 sc__law_next.nd we_int)
    (wss_cons (ws_if (wt_cmp (op_neQ (hu64 hr)) (we_ix (hu1 hr) (we_v 0) we_int) (we_fz (we_lst wa_nil)) (nomark _)) (wss_one (ws_s 4 sc__law_next.nd (we_ix (hu1 hr) (we_ix (hu1 hr) (we_v 0) we_int) (we_op op_modW (we_v 2) (we_v 3))))) wss_nil)
    (wss_one (ws_ret (we_op op_modW (we_op op_fdivWW (we_h D__law_mixed hgd hr (wa_cons (we_v 4) (wa_cons (we_op op_modW (we_op op_fdivWW (we_v 2) (we_v 3)) we_int) wa_nil))) we_int) (we_v 1)))))))))
theorem ok__law_next (z_len : mg "len" = none) (z_max : mg "max" = none) (D__law_mixed : DfG P w K mg base CX0 1 "_law_mixed" ["cell", "k"] [] P__law_mixed) {f : Addr} {fd : FuncData} (F : Fun K "_law_next" "_law_next" s__law_next f fd) : FnG P w K mg base CX0 2 f fd ["draw", "size"] (spL K P__law_next) :=
  okF F sc__law_next len__law_next fun cdv A outer s H E ws G R RX hgd hr h => ⟨T__law_next, dv__law_next z_len z_max D__law_mixed hgd hr, rd__law_next ws G R RX h⟩
/-! ### _law_turn -/
abbrev s__law_turn : Stmt := topS 34
theorem sc__law_turn : FnScope N__law_turn ["draw", "many"] (defScope s__law_turn) := ⟨rfl, rfl, rfl, by decide +kernel, rfl, by decide +kernel, by decide +kernel⟩
theorem dv__law_turn (D__law_next : DfG P w K mg base CX0 2 "_law_next" ["draw", "size"] [] P__law_next) (z_list : mg "list" = none) (z_range : mg "range" = none) (z_len : mg "len" = none) (z_tuple : mg "tuple" = none) {f : Addr} {cdv : Value} {A : Around} {outer : List Env} {s : Shared} {H : Hp} {E : XK} {G : GH} (hgd : A.guards = some []) (hr : Room 2 (A.deeper (envOfC "_law_turn" (defScope s__law_turn) s.heap.objs.size f cdv))) :
    WSs (cxOf CX0 P w K mg base N__law_turn "_law_turn" (defScope s__law_turn) f cdv A outer s H E).nox (G, H) (defBody s__law_turn) T__law_turn :=
  (wss_cons (ws_par3 (i := 2) (j := 3) (l := 4) rfl sc__law_turn.nd rfl rfl rfl (by decide) (by decide) (by decide) rfl rfl rfl (wa_cons (we_h D__law_next hgd hr (wa_cons (we_v 0) (wa_cons we_int wa_nil))) (wa_cons (we_h D__law_next hgd hr (wa_cons (we_v 0) (wa_cons (we_v 1) wa_nil))) (wa_cons (we_h D__law_next hgd hr (wa_cons (we_v 0) (wa_cons (we_v 1) wa_nil))) wa_nil))) (by rfl))
    (wss_cons (ws_s 5 sc__law_turn.nd (we_listRg rfl (by rfl) z_list (prgW_2 (by rfl) z_range we_int (we_op op_addW (we_v 1) we_int))))
    (wss_cons (ws_if (wt_cmp (op_eqQ (hu64 hr)) (we_v 2) we_int (nomark _)) (wss_one (ws_asg (we_tup (wa_cons (we_ix (hu1 hr) (we_v 5) (we_v 4)) (wa_cons (we_ix (hu1 hr) (we_v 5) (we_v 3)) wa_nil))) (wg_unp rfl (wgs_cons (wg_sub (we_v 5) (we_v 3) (set_Q (hu1 hr))) (wgs_cons (wg_sub (we_v 5) (we_v 4) (set_Q (hu1 hr))) wgs_nil))))) (wss_one (ws_if (wt_cmp (op_eqQ (hu64 hr)) (we_v 2) we_int (nomark _)) (wss_one (ws_asg (we_neg (we_ix (hu1 hr) (we_v 5) (we_v 3))) (wg_sub (we_v 5) (we_v 3) (set_Q (hu1 hr))))) (wss_one (ws_if (wt_cmp (op_eqQ (hu64 hr)) (we_v 2) we_int (nomark _)) (wss_one (ws_asg (we_tup (wa_cons (we_neg (we_ix (hu1 hr) (we_v 5) (we_v 4))) (wa_cons (we_neg (we_ix (hu1 hr) (we_v 5) (we_v 3))) wa_nil))) (wg_unp rfl (wgs_cons (wg_sub (we_v 5) (we_v 3) (set_Q (hu1 hr))) (wgs_cons (wg_sub (we_v 5) (we_v 4) (set_Q (hu1 hr))) wgs_nil))))) (wss_one (ws_if (wt_cmp (op_eqQ (hu64 hr)) (we_v 2) we_int (nomark _)) (wss_one (ws_s 5 sc__law_turn.nd (we_op op_addW (we_fz (we_slice (we_v 5) (wo_some (we_v 3)) wo_none)) (we_fz (we_slice (we_v 5) wo_none (wo_some (we_v 3))))))) (wss_cons (ws_s 6 sc__law_turn.nd (we_ct (call_listDW rfl) (by rfl) z_list bt_list (wa_cons (we_v 5) wa_nil)))
    (wss_cons (ws_setC (i := 5) (own := [("k", 7)]) rfl sc__law_turn.nd rfl rfl (sw_true rfl rfl rfl (by decide +kernel)) (wi_range1 (by rfl) z_range (wa_cons (we_v 1) wa_nil)) (blkOk_by (own := [("k", 7)]) (N := N__law_turn) (sc := defScope s__law_turn) (by decide +kernel)) (gok_name (by decide)) (fun _ _ _ _ _ => pg_n 7 sc__law_turn.nd) (fun _ _ _ _ _ => wts_nil) (fun _ _ _ _ _ => (we_mL (pe_bm PySem.F.plainAttrs_list PySem.F.slot_list_pop PySem.F.type_list_pop mt_popW (we_v 6) (wa_cons (we_h D__law_next hgd hr (wa_cons (we_v 0) (wa_cons (we_cb call_lenQ (by rfl) z_len bt_len (wa_cons (we_v 6) wa_nil)) wa_nil))) wa_nil)))))
    (wss_one (ws_setC (i := 5) (own := [("truth", 8)]) rfl sc__law_turn.nd rfl rfl (sw_true rfl rfl rfl (by decide +kernel)) (wi_seq (we_v 5)) (blkOk_by (own := [("truth", 8)]) (N := N__law_turn) (sc := defScope s__law_turn) (by decide +kernel)) (gok_name (by decide)) (fun _ _ _ _ _ => pg_n 8 sc__law_turn.nd) (fun _ _ _ _ _ => wts_nil) (fun _ _ _ _ _ => (we_ix (hu1 hr) (we_fz (we_lst (wa_cons (we_v 8) (wa_cons (we_neg (we_v 8)) wa_nil)))) (we_h D__law_next hgd hr (wa_cons (we_v 0) (wa_cons we_int wa_nil))))))))))))))))
    (wss_one (ws_ret (we_ct call_tupW (by rfl) z_tuple bt_tuple (wa_cons (we_v 5) wa_nil)))))))
theorem ok__law_turn (D__law_next : DfG P w K mg base CX0 2 "_law_next" ["draw", "size"] [] P__law_next) (z_list : mg "list" = none) (z_range : mg "range" = none) (z_len : mg "len" = none) (z_tuple : mg "tuple" = none) {f : Addr} {fd : FuncData} (F : Fun K "_law_turn" "_law_turn" s__law_turn f fd) : FnG P w K mg base CX0 3 f fd ["draw", "many"] (spL K P__law_turn) :=
  okF F sc__law_turn len__law_turn fun cdv A outer s H E ws G R RX hgd hr h => ⟨T__law_turn, dv__law_turn D__law_next z_list z_range z_len z_tuple hgd hr, rd__law_turn ws G R RX h⟩
/-! ### _law_goes -/
abbrev s__law_goes : Stmt := topS 35
theorem sc__law_goes : FnScope N__law_goes ["turn", "letter"] (defScope s__law_goes) := ⟨rfl, rfl, rfl, by decide +kernel, rfl, by decide +kernel, by decide +kernel⟩
theorem dv__law_goes  {f : Addr} {cdv : Value} {A : Around} {outer : List Env} {s : Shared} {H : Hp} {E : XK} {G : GH} (hgd : A.guards = some []) (hr : Room 0 (A.deeper (envOfC "_law_goes" (defScope s__law_goes) s.heap.objs.size f cdv))) :
    WSs (cxOf CX0 P w K mg base N__law_goes "_law_goes" (defScope s__law_goes) f cdv A outer s H E).nox (G, H) (defBody s__law_goes) T__law_goes :=
  (wss_one (ws_ret (we_if (wt_cmp op_gtW (we_v 1) we_int (nomark _)) (we_ix (hu1 hr) (we_v 0) (we_op op_subW (we_v 1) we_int)) (we_neg (we_ix (hu1 hr) (we_v 0) (we_op op_subW (we_neg (we_v 1)) we_int))))))
theorem ok__law_goes  {f : Addr} {fd : FuncData} (F : Fun K "_law_goes" "_law_goes" s__law_goes f fd) : FnG P w K mg base CX0 1 f fd ["turn", "letter"] (spL K P__law_goes) :=
  okF F sc__law_goes len__law_goes fun cdv A outer s H E ws G R RX hgd hr h => ⟨T__law_goes, dv__law_goes  hgd hr, rd__law_goes ws G R RX h⟩
/-! ### _law_led -/
abbrev s__law_led : Stmt := topS 36
theorem sc__law_led : FnScope N__law_led ["turn", "clause"] (defScope s__law_led) := ⟨rfl, rfl, rfl, by decide +kernel, rfl, by decide +kernel, by decide +kernel⟩
theorem dv__law_led (D__law_goes : DfG P w K mg base CX0 1 "_law_goes" ["turn", "letter"] [] P__law_goes) (z_sorted : mg "sorted" = none) (z_abs : mg "abs" = none) (z_tuple : mg "tuple" = none) {f : Addr} {cdv : Value} {A : Around} {outer : List Env} {s : Shared} {H : Hp} {E : XK} {G : GH} (hgd : A.guards = some []) (hr : Room 1 (A.deeper (envOfC "_law_led" (defScope s__law_led) s.heap.objs.size f cdv))) :
    WSs (cxOf CX0 P w K mg base N__law_led "_law_led" (defScope s__law_led) f cdv A outer s H E).nox (G, H) (defBody s__law_led) T__law_led :=
  (wss_one (ws_ret (we_ct call_tupW (by rfl) z_tuple bt_tuple (wa_cons (we_fz (we_sortAbs rfl (hu20 hr) (by rfl) z_sorted (by rfl) z_abs (we_fz (we_comp (own := [("letter", 2)]) rfl sc__law_led.nd (wi_seq (we_v 1)) (blkOk_by (own := [("letter", 2)]) (N := N__law_led) (sc := defScope s__law_led) (by decide +kernel)) (gok_name (by decide)) (fun _ _ _ _ _ => pg_n 2 sc__law_led.nd) (fun _ _ _ _ _ => wts_nil) (fun _ _ _ _ _ => (we_h D__law_goes hgd hr (wa_cons (we_v 0) (wa_cons (we_v 2) wa_nil)))))))) wa_nil))))
theorem ok__law_led (D__law_goes : DfG P w K mg base CX0 1 "_law_goes" ["turn", "letter"] [] P__law_goes) (z_sorted : mg "sorted" = none) (z_abs : mg "abs" = none) (z_tuple : mg "tuple" = none) {f : Addr} {fd : FuncData} (F : Fun K "_law_led" "_law_led" s__law_led f fd) : FnG P w K mg base CX0 2 f fd ["turn", "clause"] (spL K P__law_led) :=
  okF F sc__law_led len__law_led fun cdv A outer s H E ws G R RX hgd hr h => ⟨T__law_led, dv__law_led D__law_goes z_sorted z_abs z_tuple hgd hr, rd__law_led ws G R RX h⟩
/-! ### _law_clause -/
abbrev s__law_clause : Stmt := topS 37
theorem sc__law_clause : FnScope N__law_clause ["draw", "many", "top"] (defScope s__law_clause) := ⟨rfl, rfl, rfl, by decide +kernel, rfl, by decide +kernel, by decide +kernel⟩
theorem dv__law_clause (z_list : mg "list" = none) (z_range : mg "range" = none) (D__law_next : DfG P w K mg base CX0 2 "_law_next" ["draw", "size"] [] P__law_next) (z_int : mg "int" = none) (z_max : mg "max" = none) (z_min : mg "min" = none) (z_len : mg "len" = none) (z_sorted : mg "sorted" = none) (z_tuple : mg "tuple" = none) {f : Addr} {cdv : Value} {A : Around} {outer : List Env} {s : Shared} {H : Hp} {E : XK} {G : GH} (hgd : A.guards = some []) (hr : Room 2 (A.deeper (envOfC "_law_clause" (defScope s__law_clause) s.heap.objs.size f cdv))) :
    WSs (cxOf CX0 P w K mg base N__law_clause "_law_clause" (defScope s__law_clause) f cdv A outer s H E).nox (G, H) (defBody s__law_clause) T__law_clause :=
  (wss_cons (ws_s 3 sc__law_clause.nd (we_listRg rfl (by rfl) z_list (prgW_2 (by rfl) z_range we_int (we_op op_addW (we_v 1) we_int))))
    (wss_cons (ws_s 4 sc__law_clause.nd (we_cb (call_max2W rfl) (by rfl) z_max bt_max (wa_cons (we_ct call_intW (by rfl) z_int bt_int (wa_cons (we_cmp op_gtW (we_h D__law_next hgd hr (wa_cons (we_v 0) (wa_cons we_int wa_nil))) we_int (nomark _)) wa_nil)) (wa_cons (we_h D__law_next hgd hr (wa_cons (we_v 0) (wa_cons (we_op op_addW (we_v 2) we_int) wa_nil))) wa_nil))))
    (wss_cons (ws_s 5 sc__law_clause.nd (we_fz (we_cbC (own := [("k", 6)]) tmp_sorted (by rfl) z_sorted bt_sorted rfl sc__law_clause.nd (wi_range1 (by rfl) z_range (wa_cons (we_cb (call_min2W rfl) (by rfl) z_min bt_min (wa_cons (we_v 1) (wa_cons (we_v 4) wa_nil))) wa_nil)) (blkOk_by (own := [("k", 6)]) (N := N__law_clause) (sc := defScope s__law_clause) (by decide +kernel)) (gok_name (by decide)) (fun _ _ _ _ _ => pg_n 6 sc__law_clause.nd) (fun _ _ _ _ _ => wts_nil) (fun _ _ _ _ _ => (we_mL (pe_bm PySem.F.plainAttrs_list PySem.F.slot_list_pop PySem.F.type_list_pop mt_popW (we_v 3) (wa_cons (we_h D__law_next hgd hr (wa_cons (we_v 0) (wa_cons (we_cb call_lenQ (by rfl) z_len bt_len (wa_cons (we_v 3) wa_nil)) wa_nil))) wa_nil)))))))
    (wss_one (ws_ret (we_ctC (own := [("truth", 7)]) tmp_tuple (by rfl) z_tuple bt_tuple rfl sc__law_clause.nd (wi_seq (we_v 5)) (blkOk_by (own := [("truth", 7)]) (N := N__law_clause) (sc := defScope s__law_clause) (by decide +kernel)) (gok_name (by decide)) (fun _ _ _ _ _ => pg_n 7 sc__law_clause.nd) (fun _ _ _ _ _ => wts_nil) (fun _ _ _ _ _ => (we_ix (hu1 hr) (we_fz (we_lst (wa_cons (we_v 7) (wa_cons (we_neg (we_v 7)) wa_nil)))) (we_h D__law_next hgd hr (wa_cons (we_v 0) (wa_cons we_int wa_nil)))))))))))
theorem ok__law_clause (z_list : mg "list" = none) (z_range : mg "range" = none) (D__law_next : DfG P w K mg base CX0 2 "_law_next" ["draw", "size"] [] P__law_next) (z_int : mg "int" = none) (z_max : mg "max" = none) (z_min : mg "min" = none) (z_len : mg "len" = none) (z_sorted : mg "sorted" = none) (z_tuple : mg "tuple" = none) {f : Addr} {fd : FuncData} (F : Fun K "_law_clause" "_law_clause" s__law_clause f fd) : FnG P w K mg base CX0 3 f fd ["draw", "many", "top"] (spL K P__law_clause) :=
  okF F sc__law_clause len__law_clause fun cdv A outer s H E ws G R RX hgd hr h => ⟨T__law_clause, dv__law_clause z_list z_range D__law_next z_int z_max z_min z_len z_sorted z_tuple hgd hr, rd__law_clause ws G R RX h⟩
/-! ### _law_closed -/
abbrev s__law_closed : Stmt := topS 38
theorem sc__law_closed : FnScope N__law_closed ["clauses", "makers", "bound"] (defScope s__law_closed) := ⟨rfl, rfl, rfl, by decide +kernel, rfl, by decide +kernel, by decide +kernel⟩
theorem dv__law_closed (z_dict : mg "dict" = none) (z_list : mg "list" = none) (z_len : mg "len" = none) (D__law_led : DfG P w K mg base CX0 2 "_law_led" ["turn", "clause"] [] P__law_led) (z_sorted : mg "sorted" = none) {f : Addr} {cdv : Value} {A : Around} {outer : List Env} {s : Shared} {H : Hp} {E : XK} {G : GH} (hgd : A.guards = some []) (hr : Room 2 (A.deeper (envOfC "_law_closed" (defScope s__law_closed) s.heap.objs.size f cdv))) :
    WSs (cxOf CX0 P w K mg base N__law_closed "_law_closed" (defScope s__law_closed) f cdv A outer s H E).nox (G, H) (defBody s__law_closed) T__law_closed :=
  (wss_cons (ws_s 3 sc__law_closed.nd (we_ctC (own := [("clause", 4)]) (tmp_dictT rfl (hu20 hr)) (by rfl) z_dict bt_dict rfl sc__law_closed.nd (wi_seq (we_v 0)) (blkOk_by (own := [("clause", 4)]) (N := N__law_closed) (sc := defScope s__law_closed) (by decide +kernel)) (gok_name (by decide)) (fun _ _ _ _ _ => pg_n 4 sc__law_closed.nd) (fun _ _ _ _ _ => wts_nil) (fun _ _ _ _ _ => (we_tup (wa_cons (we_v 4) (wa_cons we_bl wa_nil))))))
    (wss_cons (ws_s 5 sc__law_closed.nd (we_ct (call_listTW rfl) (by rfl) z_list bt_list (wa_cons (we_v 3) wa_nil)))
    (wss_cons (ws_while PassesOwn.never (wp_t (wp_and (wt_cmp (op_neQ (hu64 hr)) (we_v 5) (we_fz (we_lst wa_nil)) (nomark _)) (wp_and1 (wt_cmp op_leW (we_cb call_lenQ (by rfl) z_len bt_len (wa_cons (we_v 3) wa_nil)) (we_v 2) (nomark _))))) (wss_cons (ws_s 4 sc__law_closed.nd (we_mL0 (pe_bm0 PySem.F.plainAttrs_list PySem.F.slot_list_pop PySem.F.type_list_pop mt_popW (we_v 5))))
    (wss_one (ws_for PassesOwn.never rfl (wi_seq (we_v 1)) (wg_n 6 sc__law_closed.nd) (wss_cons (ws_s 7 sc__law_closed.nd (we_h D__law_led hgd hr (wa_cons (we_v 6) (wa_cons (we_v 4) wa_nil))))
    (wss_one (ws_if (wt_cmp (op_notinQ (hu65 hr)) (we_v 7) (we_v 3) (by rfl)) (wss_cons (ws_asg we_bl (wg_sub (we_v 3) (we_v 7) (set_Q (hu1 hr))))
    (wss_one (ws_expr (we_mL (pe_bm PySem.F.plainAttrs_list PySem.F.slot_list_append PySem.F.type_list_append mt_appendW (we_v 5) (wa_cons (we_v 7) wa_nil)))))) wss_nil)))))))
    (wss_one (ws_ret (we_if (wt_cmp op_leW (we_cb call_lenQ (by rfl) z_len bt_len (wa_cons (we_v 3) wa_nil)) (we_v 2) (nomark _)) (we_fz (we_cb (call_sortedT rfl (hu20 hr)) (by rfl) z_sorted bt_sorted (wa_cons (we_v 3) wa_nil))) (we_fz (we_lst wa_nil))))))))
theorem ok__law_closed (z_dict : mg "dict" = none) (z_list : mg "list" = none) (z_len : mg "len" = none) (D__law_led : DfG P w K mg base CX0 2 "_law_led" ["turn", "clause"] [] P__law_led) (z_sorted : mg "sorted" = none) {f : Addr} {fd : FuncData} (F : Fun K "_law_closed" "_law_closed" s__law_closed f fd) : FnG P w K mg base CX0 3 f fd ["clauses", "makers", "bound"] (spL K P__law_closed) :=
  okF F sc__law_closed len__law_closed fun cdv A outer s H E ws G R RX hgd hr h => ⟨T__law_closed, dv__law_closed z_dict z_list z_len D__law_led z_sorted hgd hr, rd__law_closed ws G R RX h⟩
/-! ### _law_holes -/
abbrev s__law_holes : Stmt := topS 39
theorem sc__law_holes : FnScope N__law_holes ["guests", "holes"] (defScope s__law_holes) := ⟨rfl, rfl, rfl, by decide +kernel, rfl, by decide +kernel, by decide +kernel⟩
theorem dv__law_holes (z_range : mg "range" = none) (z_tuple : mg "tuple" = none) {f : Addr} {cdv : Value} {A : Around} {outer : List Env} {s : Shared} {H : Hp} {E : XK} {G : GH} (hgd : A.guards = some []) (hr : Room 0 (A.deeper (envOfC "_law_holes" (defScope s__law_holes) s.heap.objs.size f cdv))) :
    WSs (cxOf CX0 P w K mg base N__law_holes "_law_holes" (defScope s__law_holes) f cdv A outer s H E).nox (G, H) (defBody s__law_holes) T__law_holes :=
  (wss_cons (ws_setC (i := 2) (own := [("guest", 3)]) rfl sc__law_holes.nd rfl rfl (sw_true rfl rfl rfl (by decide +kernel)) (wi_range1 (by rfl) z_range (wa_cons (we_v 0) wa_nil)) (blkOk_by (own := [("guest", 3)]) (N := N__law_holes) (sc := defScope s__law_holes) (by decide +kernel)) (gok_name (by decide)) (fun _ _ _ _ _ => pg_n 3 sc__law_holes.nd) (fun _ _ _ _ _ => wts_nil) (fun _ _ _ _ _ => (we_ctC (own := [("hole", 4)]) tmp_tuple (by rfl) z_tuple bt_tuple rfl sc__law_holes.nd (wi_range1 (by rfl) z_range (wa_cons (we_v 1) wa_nil)) (blkOk_by (own := [("hole", 4)]) (N := N__law_holes) (sc := _) (by rfl)) (gok_name (by decide)) (fun _ _ _ _ _ => pg_n 4 sc__law_holes.nd) (fun _ _ _ _ _ => wts_nil) (fun _ _ _ _ _ => (we_op op_addW (we_op op_addW (we_op op_mulWW (we_v 3) (we_v 1)) (we_v 4)) we_int)))))
    (wss_cons (ws_for PassesOwn.never rfl (wi_range1 (by rfl) z_range (wa_cons (we_v 1) wa_nil)) (wg_n 4 sc__law_holes.nd) (wss_one (ws_for PassesOwn.never rfl (wi_range1 (by rfl) z_range (wa_cons (we_v 0) wa_nil)) (wg_n 3 sc__law_holes.nd) (wss_one (ws_for PassesOwn.never rfl (wi_range1 (by rfl) z_range (wa_cons (we_v 3) wa_nil)) (wg_n 5 sc__law_holes.nd) (wss_one (ws_expr (we_mL (pe_bm PySem.F.plainAttrs_list PySem.F.slot_list_append PySem.F.type_list_append mt_appendW (we_v 2) (wa_cons (we_tup (wa_cons (we_neg (we_op op_addW (we_op op_addW (we_op op_mulWW (we_v 5) (we_v 1)) (we_v 4)) we_int)) (wa_cons (we_neg (we_op op_addW (we_op op_addW (we_op op_mulWW (we_v 3) (we_v 1)) (we_v 4)) we_int)) wa_nil))) wa_nil))))))))))
    (wss_one (ws_ret (we_fz (we_v 2))))))
theorem ok__law_holes (z_range : mg "range" = none) (z_tuple : mg "tuple" = none) {f : Addr} {fd : FuncData} (F : Fun K "_law_holes" "_law_holes" s__law_holes f fd) : FnG P w K mg base CX0 1 f fd ["guests", "holes"] (spL K P__law_holes) :=
  okF F sc__law_holes len__law_holes fun cdv A outer s H E ws G R RX hgd hr h => ⟨T__law_holes, dv__law_holes z_range z_tuple hgd hr, rd__law_holes ws G R RX h⟩
/-! ### _law_drawn -/
abbrev s__law_drawn : Stmt := topS 40
theorem sc__law_drawn : FnScope N__law_drawn ["draw", "low", "top"] (defScope s__law_drawn) := ⟨rfl, rfl, rfl, by decide +kernel, rfl, by decide +kernel, by decide +kernel⟩
theorem dv__law_drawn (D__law_next : DfG P w K mg base CX0 2 "_law_next" ["draw", "size"] [] P__law_next) (z_range : mg "range" = none) (D__law_clause : DfG P w K mg base CX0 3 "_law_clause" ["draw", "many", "top"] [] P__law_clause) (D__law_turn : DfG P w K mg base CX0 3 "_law_turn" ["draw", "many"] [] P__law_turn) (D__law_holes : DfG P w K mg base CX0 1 "_law_holes" ["guests", "holes"] [] P__law_holes) (z_tuple : mg "tuple" = none) (D__law_closed : DfG P w K mg base CX0 3 "_law_closed" ["clauses", "makers", "bound"] [] P__law_closed) {f : Addr} {cdv : Value} {A : Around} {outer : List Env} {s : Shared} {H : Hp} {E : XK} {G : GH} (hgd : A.guards = some []) (hr : Room 3 (A.deeper (envOfC "_law_drawn" (defScope s__law_drawn) s.heap.objs.size f cdv))) :
    WSs (cxOf CX0 P w K mg base N__law_drawn "_law_drawn" (defScope s__law_drawn) f cdv A outer s H E).nox (G, H) (defBody s__law_drawn) T__law_drawn :=
  (wss_cons (ws_asg (we_tup (wa_cons (we_h D__law_next hgd hr (wa_cons (we_v 0) (wa_cons we_int wa_nil))) (wa_cons (we_op op_addW (we_v 1) (we_h D__law_next hgd hr (wa_cons (we_v 0) (wa_cons (we_op op_addW (we_op op_subW (we_v 2) (we_v 1)) we_int) wa_nil)))) wa_nil))) (wg_unp rfl (wgs_cons (wg_n 3 sc__law_drawn.nd) (wgs_cons (wg_n 4 sc__law_drawn.nd) wgs_nil))))
    (wss_cons (ws_s 5 sc__law_drawn.nd (we_ix (hu1 hr) (we_fz (we_lst (wa_cons we_int (wa_cons (we_v 4) wa_nil)))) (we_h D__law_next hgd hr (wa_cons (we_v 0) (wa_cons we_int wa_nil)))))
    (wss_cons (ws_setCF (i := 6) (own := [("k", 7)]) rfl sc__law_drawn.nd rfl rfl (sw_true rfl rfl rfl (by decide +kernel)) (wi_range1 (by rfl) z_range (wa_cons (we_h D__law_next hgd hr (wa_cons (we_v 0) (wa_cons we_int wa_nil))) wa_nil)) (blkOk_by (own := [("k", 7)]) (N := N__law_drawn) (sc := defScope s__law_drawn) (by decide +kernel)) (gok_name (by decide)) (fun _ _ _ _ _ => pg_n 7 sc__law_drawn.nd) (fun _ _ _ _ _ => wts_nil) (fun _ _ _ _ _ => (we_h D__law_clause hgd hr (wa_cons (we_v 0) (wa_cons (we_v 4) (wa_cons (we_v 5) wa_nil))))))
    (wss_cons (ws_setCF (i := 8) (own := [("k", 7)]) rfl sc__law_drawn.nd rfl rfl (sw_true rfl rfl rfl (by decide +kernel)) (wi_range1 (by rfl) z_range (wa_cons (we_op op_addW we_int (we_h D__law_next hgd hr (wa_cons (we_v 0) (wa_cons we_int wa_nil)))) wa_nil)) (blkOk_by (own := [("k", 7)]) (N := N__law_drawn) (sc := defScope s__law_drawn) (by decide +kernel)) (gok_name (by decide)) (fun _ _ _ _ _ => pg_n 7 sc__law_drawn.nd) (fun _ _ _ _ _ => wts_nil) (fun _ _ _ _ _ => (we_h D__law_turn hgd hr (wa_cons (we_v 0) (wa_cons (we_v 4) wa_nil)))))
    (wss_cons (ws_if (wp_t (wp_and (wt_cmp (op_eqQ (hu64 hr)) (we_v 3) we_int (nomark _)) (wp_and1 (wt_cmp op_geW (we_v 2) we_int (nomark _))))) (wss_cons (ws_asg (we_ix (hu1 hr) (we_fz (we_lst (wa_cons (we_tup (wa_cons we_int (wa_cons we_int wa_nil))) (wa_cons (we_tup (wa_cons we_int (wa_cons we_int wa_nil))) (wa_cons (we_tup (wa_cons we_int (wa_cons we_int wa_nil))) wa_nil))))) (we_h D__law_next hgd hr (wa_cons (we_v 0) (wa_cons (we_if (wt_cmp op_geW (we_v 2) we_int (nomark _)) we_int we_int) wa_nil)))) (wg_unp rfl (wgs_cons (wg_n 9 sc__law_drawn.nd) (wgs_cons (wg_n 10 sc__law_drawn.nd) wgs_nil))))
    (wss_one (ws_ret (we_tup (wa_cons (we_op op_mulWW (we_v 9) (we_v 10)) (wa_cons (we_h D__law_holes hgd hr (wa_cons (we_v 9) (wa_cons (we_v 10) wa_nil))) wa_nil)))))) wss_nil)
    (wss_cons (ws_if (wp_t (wp_and (wt_cmp (op_eqQ (hu64 hr)) (we_v 3) we_int (nomark _)) (wp_and1 (wt_cmp op_gtW (we_v 4) we_int (nomark _))))) (wss_cons (ws_s 11 sc__law_drawn.nd (we_op op_fdivWW (we_v 4) we_int))
    (wss_cons (ws_setCF (i := 6) (own := [("k", 7)]) rfl sc__law_drawn.nd rfl rfl (sw_true rfl rfl rfl (by decide +kernel)) (wi_range1 (by rfl) z_range (wa_cons (we_op op_addW we_int (we_h D__law_next hgd hr (wa_cons (we_v 0) (wa_cons we_int wa_nil)))) wa_nil)) (blkOk_by (own := [("k", 7)]) (N := N__law_drawn) (sc := defScope s__law_drawn) (by decide +kernel)) (gok_name (by decide)) (fun _ _ _ _ _ => pg_n 7 sc__law_drawn.nd) (fun _ _ _ _ _ => wts_nil) (fun _ _ _ _ _ => (we_h D__law_clause hgd hr (wa_cons (we_v 0) (wa_cons (we_v 11) (wa_cons we_int wa_nil))))))
    (wss_one (ws_ret (we_tup (wa_cons (we_v 4) (wa_cons (we_fz (we_op op_addW (we_v 6) (we_fz (we_comp (own := [("one", 12)]) rfl sc__law_drawn.nd (wi_seq (we_v 6)) (blkOk_by (own := [("one", 12)]) (N := N__law_drawn) (sc := defScope s__law_drawn) (by decide +kernel)) (gok_name (by decide)) (fun _ _ _ _ _ => pg_n 12 sc__law_drawn.nd) (fun _ _ _ _ _ => wts_nil) (fun _ _ _ _ _ => (we_ctC (own := [("letter", 13)]) tmp_tuple (by rfl) z_tuple bt_tuple rfl sc__law_drawn.nd (wi_seq (we_v 12)) (blkOk_by (own := [("letter", 13)]) (N := N__law_drawn) (sc := _) (by rfl)) (gok_name (by decide)) (fun _ _ _ _ _ => pg_n 13 sc__law_drawn.nd) (fun _ _ _ _ _ => wts_nil) (fun _ _ _ _ _ => (we_op op_addW (we_v 13) (we_ixB (we_fz (we_lst (wa_cons (we_v 11) (wa_cons (we_neg (we_v 11)) wa_nil)))) (we_cmp (op_ltW (hu0 hr)) (we_v 13) we_int (nomark _))))))))))) wa_nil))))))) wss_nil)
    (wss_cons (ws_if (wt_cmp (op_ltW (hu0 hr)) (we_v 3) we_int (nomark _)) (wss_one (ws_s 6 sc__law_drawn.nd (we_h D__law_closed hgd hr (wa_cons (we_v 6) (wa_cons (we_v 8) (wa_cons we_int wa_nil)))))) wss_nil)
    (wss_cons (ws_if (wt_cmp (op_eqQ (hu64 hr)) (we_v 3) we_int (nomark _)) (wss_one (ws_setCF (i := 6) (own := [("clause", 14)]) rfl sc__law_drawn.nd rfl rfl (sw_true rfl rfl rfl (by decide +kernel)) (wi_seq (we_v 6)) (blkOk_by (own := [("clause", 14)]) (N := N__law_drawn) (sc := defScope s__law_drawn) (by decide +kernel)) (gok_name (by decide)) (fun _ _ _ _ _ => pg_n 14 sc__law_drawn.nd) (fun _ _ _ _ _ => wts_one (wt_cmp (op_neQ (hu64 hr)) (we_v 14) (we_tup wa_nil) (nomark _))) (fun _ _ _ _ _ => (we_v 14)))) wss_nil)
    (wss_one (ws_ret (we_tup (wa_cons (we_v 4) (wa_cons (we_v 6) wa_nil)))))))))))))
theorem ok__law_drawn (D__law_next : DfG P w K mg base CX0 2 "_law_next" ["draw", "size"] [] P__law_next) (z_range : mg "range" = none) (D__law_clause : DfG P w K mg base CX0 3 "_law_clause" ["draw", "many", "top"] [] P__law_clause) (D__law_turn : DfG P w K mg base CX0 3 "_law_turn" ["draw", "many"] [] P__law_turn) (D__law_holes : DfG P w K mg base CX0 1 "_law_holes" ["guests", "holes"] [] P__law_holes) (z_tuple : mg "tuple" = none) (D__law_closed : DfG P w K mg base CX0 3 "_law_closed" ["clauses", "makers", "bound"] [] P__law_closed) {f : Addr} {fd : FuncData} (F : Fun K "_law_drawn" "_law_drawn" s__law_drawn f fd) : FnG P w K mg base CX0 4 f fd ["draw", "low", "top"] (spL K P__law_drawn) :=
  okF F sc__law_drawn len__law_drawn fun cdv A outer s H E ws G R RX hgd hr h => ⟨T__law_drawn, dv__law_drawn D__law_next z_range D__law_clause D__law_turn D__law_holes z_tuple D__law_closed hgd hr, rd__law_drawn ws G R RX h⟩
/-! ### _law_holds -/
abbrev s__law_holds : Stmt := topS 41
theorem sc__law_holds : FnScope N__law_holds ["clause", "answer"] (defScope s__law_holds) := ⟨rfl, rfl, rfl, by decide +kernel, rfl, by decide +kernel, by decide +kernel⟩
theorem dv__law_holds (z_abs : mg "abs" = none) (z_int : mg "int" = none) (z_any : mg "any" = none) {f : Addr} {cdv : Value} {A : Around} {outer : List Env} {s : Shared} {H : Hp} {E : XK} {G : GH} (hgd : A.guards = some []) (hr : Room 0 (A.deeper (envOfC "_law_holds" (defScope s__law_holds) s.heap.objs.size f cdv))) :
    WSs (cxOf CX0 P w K mg base N__law_holds "_law_holds" (defScope s__law_holds) f cdv A outer s H E).nox (G, H) (defBody s__law_holds) T__law_holds :=
  (wss_one (ws_ret (we_cbC (own := [("letter", 2)]) (tmp_any rfl) (by rfl) z_any bt_any rfl sc__law_holds.nd (wi_seq (we_v 0)) (blkOk_by (own := [("letter", 2)]) (N := N__law_holds) (sc := defScope s__law_holds) (by decide +kernel)) (gok_name (by decide)) (fun _ _ _ _ _ => pg_n 2 sc__law_holds.nd) (fun _ _ _ _ _ => wts_nil) (fun _ _ _ _ _ => (we_cmp (op_eqQ (hu64 hr)) (we_ix (hu1 hr) (we_v 1) (we_op op_subW (we_cb call_absW (by rfl) z_abs bt_abs (wa_cons (we_v 2) wa_nil)) we_int)) (we_ct call_intW (by rfl) z_int bt_int (wa_cons (we_cmp op_gtW (we_v 2) we_int (nomark _)) wa_nil)) (nomark _))))))
theorem ok__law_holds (z_abs : mg "abs" = none) (z_int : mg "int" = none) (z_any : mg "any" = none) {f : Addr} {fd : FuncData} (F : Fun K "_law_holds" "_law_holds" s__law_holds f fd) : FnG P w K mg base CX0 1 f fd ["clause", "answer"] (spL K P__law_holds) :=
  okF F sc__law_holds len__law_holds fun cdv A outer s H E ws G R RX hgd hr h => ⟨T__law_holds, dv__law_holds z_abs z_int z_any hgd hr, rd__law_holds ws G R RX h⟩
/-! ### _law_answers -/
abbrev s__law_answers : Stmt := topS 42
theorem sc__law_answers : FnScope N__law_answers ["many", "clauses"] (defScope s__law_answers) := ⟨rfl, rfl, rfl, by decide +kernel, rfl, by decide +kernel, by decide +kernel⟩
theorem dv__law_answers (z_range : mg "range" = none) (D__law_holds : DfG P w K mg base CX0 1 "_law_holds" ["clause", "answer"] [] P__law_holds) (z_all : mg "all" = none) (z_sorted : mg "sorted" = none) {f : Addr} {cdv : Value} {A : Around} {outer : List Env} {s : Shared} {H : Hp} {E : XK} {G : GH} (hgd : A.guards = some []) (hr : Room 1 (A.deeper (envOfC "_law_answers" (defScope s__law_answers) s.heap.objs.size f cdv))) :
    WSs (cxOf CX0 P w K mg base N__law_answers "_law_answers" (defScope s__law_answers) f cdv A outer s H E).nox (G, H) (defBody s__law_answers) T__law_answers :=
  (wss_cons (ws_s 2 sc__law_answers.nd (we_fz (we_lst (wa_cons (we_tup wa_nil) wa_nil))))
    (wss_cons (ws_for PassesOwn.never rfl (wi_range1 (by rfl) z_range (wa_cons (we_v 0) wa_nil)) (wg_n 3 sc__law_answers.nd) (wss_one (ws_s 2 sc__law_answers.nd (we_fz (we_op op_addW (we_fz (we_comp (own := [("answer", 4)]) rfl sc__law_answers.nd (wi_seq (we_v 2)) (blkOk_by (own := [("answer", 4)]) (N := N__law_answers) (sc := defScope s__law_answers) (by decide +kernel)) (gok_name (by decide)) (fun _ _ _ _ _ => pg_n 4 sc__law_answers.nd) (fun _ _ _ _ _ => wts_nil) (fun _ _ _ _ _ => (we_op op_addW (we_v 4) (we_tup (wa_cons we_int wa_nil)))))) (we_fz (we_comp (own := [("answer", 4)]) rfl sc__law_answers.nd (wi_seq (we_v 2)) (blkOk_by (own := [("answer", 4)]) (N := N__law_answers) (sc := defScope s__law_answers) (by decide +kernel)) (gok_name (by decide)) (fun _ _ _ _ _ => pg_n 4 sc__law_answers.nd) (fun _ _ _ _ _ => wts_nil) (fun _ _ _ _ _ => (we_op op_addW (we_v 4) (we_tup (wa_cons we_int wa_nil)))))))))))
    (wss_one (ws_ret (we_fz (we_cbC (own := [("answer", 4)]) (tmp_sortedT rfl (hu20 hr)) (by rfl) z_sorted bt_sorted rfl sc__law_answers.nd (wi_seq (we_v 2)) (blkOk_by (own := [("answer", 4)]) (N := N__law_answers) (sc := defScope s__law_answers) (by decide +kernel)) (gok_name (by decide)) (fun _ _ _ _ _ => pg_n 4 sc__law_answers.nd) (fun _ _ _ _ _ => wts_one (wt_truth (we_cbC (own := [("clause", 5)]) (tmp_all rfl) (by rfl) z_all bt_all rfl sc__law_answers.nd (wi_seq (we_v 1)) (blkOk_by (own := [("clause", 5)]) (N := N__law_answers) (sc := _) (by rfl)) (gok_name (by decide)) (fun _ _ _ _ _ => pg_n 5 sc__law_answers.nd) (fun _ _ _ _ _ => wts_nil) (fun _ _ _ _ _ => (we_h D__law_holds hgd hr (wa_cons (we_v 5) (wa_cons (we_v 4) wa_nil))))))) (fun _ _ _ _ _ => (we_v 4))))))))
theorem ok__law_answers (z_range : mg "range" = none) (D__law_holds : DfG P w K mg base CX0 1 "_law_holds" ["clause", "answer"] [] P__law_holds) (z_all : mg "all" = none) (z_sorted : mg "sorted" = none) {f : Addr} {fd : FuncData} (F : Fun K "_law_answers" "_law_answers" s__law_answers f fd) : FnG P w K mg base CX0 2 f fd ["many", "clauses"] (spL K P__law_answers) :=
  okF F sc__law_answers len__law_answers fun cdv A outer s H E ws G R RX hgd hr h => ⟨T__law_answers, dv__law_answers z_range D__law_holds z_all z_sorted hgd hr, rd__law_answers ws G R RX h⟩
/-! ### _law_rows -/
abbrev s__law_rows : Stmt := topS 43
theorem sc__law_rows : FnScope N__law_rows ["many"] (defScope s__law_rows) := ⟨rfl, rfl, rfl, by decide +kernel, rfl, by decide +kernel, by decide +kernel⟩
theorem dv__law_rows (z_range : mg "range" = none) {f : Addr} {cdv : Value} {A : Around} {outer : List Env} {s : Shared} {H : Hp} {E : XK} {G : GH} (hgd : A.guards = some []) (hr : Room 0 (A.deeper (envOfC "_law_rows" (defScope s__law_rows) s.heap.objs.size f cdv))) :
    WSs (cxOf CX0 P w K mg base N__law_rows "_law_rows" (defScope s__law_rows) f cdv A outer s H E).nox (G, H) (defBody s__law_rows) T__law_rows :=
  (wss_cons (ws_s 1 sc__law_rows.nd (we_fz (we_lst (wa_cons (we_tup wa_nil) wa_nil))))
    (wss_cons (ws_for PassesOwn.never rfl (wi_range1 (by rfl) z_range (wa_cons (we_v 0) wa_nil)) (wg_n 2 sc__law_rows.nd) (wss_one (ws_s 1 sc__law_rows.nd (we_fz (we_op op_addW (we_fz (we_comp (own := [("row", 3)]) rfl sc__law_rows.nd (wi_seq (we_v 1)) (blkOk_by (own := [("row", 3)]) (N := N__law_rows) (sc := defScope s__law_rows) (by decide +kernel)) (gok_name (by decide)) (fun _ _ _ _ _ => pg_n 3 sc__law_rows.nd) (fun _ _ _ _ _ => wts_nil) (fun _ _ _ _ _ => (we_op op_addW (we_v 3) (we_tup (wa_cons we_int wa_nil)))))) (we_fz (we_comp (own := [("row", 3)]) rfl sc__law_rows.nd (wi_seq (we_v 1)) (blkOk_by (own := [("row", 3)]) (N := N__law_rows) (sc := defScope s__law_rows) (by decide +kernel)) (gok_name (by decide)) (fun _ _ _ _ _ => pg_n 3 sc__law_rows.nd) (fun _ _ _ _ _ => wts_nil) (fun _ _ _ _ _ => (we_op op_addW (we_v 3) (we_tup (wa_cons we_int wa_nil)))))))))))
    (wss_one (ws_ret (we_v 1)))))
theorem ok__law_rows (z_range : mg "range" = none) {f : Addr} {fd : FuncData} (F : Fun K "_law_rows" "_law_rows" s__law_rows f fd) : FnG P w K mg base CX0 1 f fd ["many"] (spL K P__law_rows) :=
  okF F sc__law_rows len__law_rows fun cdv A outer s H E ws G R RX hgd hr h => ⟨T__law_rows, dv__law_rows z_range hgd hr, rd__law_rows ws G R RX h⟩
/-! ### law -/
abbrev N_law : List Str := ["script", "draw", "turn", "many", "clauses", "due", "problem", "turned", "other", "row", "found", "told"]
structure P_law (ws : List W) (G : GH) (R : KW) (RX : XW) : Prop where
  ex : ∃ (ns : List Int), ws = [.fl (ns.map W.int)] ∧ (NsOk ns) ∧ (∀ G', R (.bl true) G')
theorem len_law : ∀ ws G R RX, P_law ws G R RX → ws.length = ["script"].length := by
  rintro ws G R RX ⟨⟨_, rfl, _, _⟩⟩; rfl
theorem p_law {ns : List Int} {G : GH} {R : KW} {RX : XW} (O : NsOk ns) (q : ∀ G', R (.bl true) G') : P_law [.fl (ns.map W.int)] G R RX := ⟨ns, rfl, O, q⟩
def T_law : TWS :=
  (sSeq (sSet 1 (tLstW (tCo (tV 0) (tCo (tK (.int 0)) tN))))
    (sSeq (sFor (tIRng1 (tCo (tCW (mm2W fun i j => if j > i then j else i) (tCo (tK (.int 1)) (tCo (tCW (mm2W fun i j => if j < i then j else i) (tCo (tK (.int 2)) (tCo (tCW lenQ (tCo (tV 0) tN)) tN))) tN))) tN)) (gN 2) (sSeq (sAsg (tCall0 P__law_drawn [] (tCo (tV 1) (tCo (tK (.int 1)) (tCo (tK (.int 6)) tN)))) (gU 2 (gsC (gN 3) (gsC (gN 4) gsN))))
    (sSeq (sSet 5 (tCall0 P__law_answers [] (tCo (tV 3) (tCo (tV 4) tN))))
    (sSeq (sSet 6 (tFz (tMakeW "Problem" P_Problem___init__ [] (tCo (tV 3) (tCo (tV 4) tN)))))
    (sSeq (sSet 7 (tFz (tMakeW "Problem" P_Problem___init__ [] (tCo (tV 3) (tCo (tFz (tComp (tISeq (tFz (tRevW (tV 4)))) (gN 9) tYesW (tFz (tRevW (tV 9))) [9])) tN)))))
    (sSeq (sFor (tIDisp (tCo (tV 6) (tCo (tV 7) (tCo (tCall0 P_read_problem [] (tCo (tCall0 P_problem_text [] (tCo (tV 6) tN)) tN)) tN)))) (gN 8) (sSeq (sSet 10 (tCall0 P_answers [(.int 12)] (tCo (tV 8) tN)))
    (sSeq (sIf (tOrW (tNotW (tTruW (tCW (isiC .li) (tCo (tV 10) (tCo (tK (.ty "list")) tN))))) (tTestW (tOpW (eqQ true) (tCW reprQ (tCo (tV 10) tN)) (tCW reprQ (tCo (tV 5) tN))))) (sRet (tK (.bl false))) sNext)
    (sSeq (sDrop (tMetL appendW (tV 10) (tCo (tTupW tN) tN)))
    (sDrop (tMetL reverseW (tV 10) tN))))))
    (sSeq (sIf (tTestW (tOpW (eqQ true) (tFz (tCallKW 1 ["most"] P_answers (fun us ws => us ++ ws) XF (tCo (tV 6) tN) (tCo (tV 3) tN))) (tV 5))) (sRet (tK (.bl false))) sNext)
    (sFor (tISeq (tCall0 P__law_rows [] (tCo (tV 3) tN))) (gN 9) (sSeq (sSet 11 (tCall0 P_is_answer [] (tCo (tV 6) (tCo (tV 9) tN))))
    (sIf (tOrW (tNotW (tTruW (tCW (isiC .bo) (tCo (tV 11) (tCo (tK (.ty "bool")) tN))))) (tTestW (tOpW (eqQ true) (tV 11) (tOpW (inQ false) (tV 9) (tV 5))))) (sRet (tK (.bl false))) sNext))))))))))
    (sRet (tK (.bl true)))))
theorem rd_law (ws : List W) (G : GH) (R : KW) (RX : XW) (h : P_law ws G R RX) : T_law { nx := fun _ G' => fgt R .non G', rt := fgt R } (startW N_law ws) G := by
  obtain ⟨ns, rfl, O, q⟩ := h
  have hns := O.len
  conv => whnf
  refine ⟨by simp [sizeLine_eq], ?_⟩
  (intro d hd); (generalize eG0 : updG G d _ = G0); (have xG0 : ExtG G G0 := eG0 ▸ ExtG.new hd); (have gG0 := (congrFun eG0 d).symm); (rw [updG_same] at gG0); (clear eG0)
  have D0 : Dr ns d G0 := .start O gG0
  conv => whnf
  refine ⟨by dsimp only; rw [List.length_map]; split <;> split <;> omega, by dsimp only; rw [List.length_map]; split <;> split <;> omega, ?_⟩
  refine forW_map (f := fun i : Nat => W.int (0 + (i : Int))) (I := fun xs S G' => ∃ (x2 x3 x4 x5 x6 x7 x8 x9 x10 x11 : Option W), S = [some (.fl (ns.map W.int)), some (.ref d), x2, x3, x4, x5, x6, x7, x8, x9, x10, x11] ∧ Dr ns d G') ?_ ?_ _ _ _ ?_
  rotate_left
  · rintro S G1 ⟨x2, x3, x4, x5, x6, x7, x8, x9, x10, x11, rfl, D1⟩
    refine ⟨trivial, ?_⟩
    conv => whnf
    exact ret (q _)
  · exact ⟨none, none, none, none, none, none, none, none, none, none, rfl, D0⟩
  rintro x xs S G1 ⟨x2, x3, x4, x5, x6, x7, x8, x9, x10, x11, rfl, D1⟩ N hN
  refine ⟨trivial, ?_⟩
  replace hN : ∀ {x2 x3 x4 x5 x6 x7 x8 x9 x10 x11 : Option W} {G' : GH}, Dr ns d G' → N [some (.fl (ns.map W.int)), some (.ref d), x2, x3, x4, x5, x6, x7, x8, x9, x10, x11] G' := fun D => hN _ _ ⟨_, _, _, _, _, _, _, _, _, _, rfl, D⟩
  clear D0 gG0 xG0 hd
  conv => whnf
  refine p__law_drawn (by decide) (by decide) (by decide) D1 fun many cs G2 h0 h6 hc hcl D2 k2 => ?_
  conv => whnf
  refine ⟨rfl, ?_⟩
  conv => whnf
  refine ⟨rfl, ?_⟩
  conv => whnf
  have h4 : many ≤ 400 := by omega
  refine p__law_answers (by omega) (by omega) hc (by omega) ?_
  conv => whnf
  intro pa hpa
  refine prob_made hpa h0 h4 hc (by omega) ?_
  have hpc : ∀ c ∈ probCs cs, ClauseOf many c := fun c h => hc c ((mem_pc hc).mp h)
  have hpl : (probCs cs).length ≤ 60 := by
    rw [tell_all hc, (byLen_perm _).length_eq]
    have := dedX_len cs ([] : List (List Int))
    rw [List.length_nil] at this
    omega
  conv => whnf
  refine frz_lst ?_
  conv => whnf
  rw [← List.map_reverse]
  refine compW_pure (f := cTup) (v := fun c => cTup c.reverse) trivial cs.reverse [] (by rw [sizeLine_eq, List.length_reverse]; simp; omega) (fun c hm R' q' => ?_) ?_
  · conv => whnf
    rw [show cTup c.reverse = W.tup (c.map W.int).reverse by rw [← List.map_reverse]] at q'
    exact q'
  rw [List.nil_append, show (cs.reverse.map fun c => cTup c.reverse) = (cs.reverse.map List.reverse).map cTup by rw [List.map_map]; rfl]
  refine frz_lst ?_
  conv => whnf
  intro pb hpb
  refine prob_tell hpb h0 h4 (fun c hm => ?_) (by rw [List.length_map, List.length_reverse]; omega) ?_ ?_
  · obtain ⟨k, hk, rfl⟩ := List.mem_map.mp hm
    exact ((hc k (List.mem_reverse.mp hk)).tell (by omega) h4).rev
  · have := dedX_len ((cs.reverse.map List.reverse).map tidy) ([] : List (List Int))
    rw [List.length_map, List.length_map, List.length_reverse, List.length_nil] at this
    omega
  have e2 : probCs (cs.reverse.map List.reverse) = probCs cs := by
    refine probCs_same fun c => ⟨?_, ?_⟩
    · rintro ⟨k, hk, rfl⟩
      obtain ⟨j, hj, rfl⟩ := List.mem_map.mp hk
      have hj := List.mem_reverse.mp hj
      exact ⟨j, hj, (tidy_rev ((hc j hj).tell (by omega) h4)).symm⟩
    · rintro ⟨k, hk, rfl⟩
      exact ⟨k.reverse, List.mem_map.mpr ⟨k, List.mem_reverse.mpr hk, rfl⟩, tidy_rev ((hc k hk).tell (by omega) h4)⟩
  rw [e2]
  conv => whnf
  refine p_problem_text h0 h4 hpc (by omega) ?_
  conv => whnf
  refine p_read_problem h0 h4 (fun c hm => ⟨(hpc c hm).tell (by omega) h4, by have := (hpc c hm).len (by omega); omega⟩) (by omega) ?_ ?_
  · rw [dedX_self_len hpc (probCs_nodup cs)]; omega
  rw [probCs_self hpc]
  conv => whnf
  refine ⟨sz3 _ _ _, ?_⟩
  have hal : (ansAll many.toNat cs).length ≤ 64 := Nat.le_trans (ansAll_len _ _) (Nat.le_trans (Nat.pow_le_pow_right (by decide) (show many.toNat ≤ 6 by omega)) (by decide))
  have hae : ansAll many.toNat (probCs cs) = ansAll many.toNat cs := ansAll_same fun c => mem_pc hc
  have hab : ∀ r ∈ ansAll many.toNat cs, (∀ l ∈ r, l.natAbs < 10 ^ 9) ∧ r.length ≤ 400 := fun r hr => by
    have B := (mem_ansAll.mp hr).1
    exact ⟨fun l hl => by rcases B.bit l hl with rfl | rfl <;> decide, by have := B.len; omega⟩
  refine forW_map (f := fun _ : Unit => probW many (probCs cs)) (I := fun xs S G' => ∃ (y8 y9 y10 y11 : Option W), S = [some (.fl (ns.map W.int)), some (.ref d), some (.int (0 + (x : Int))), some (.int many), some (.fl (cs.map cTup)), some (.fl ((ansAll many.toNat cs).map cTup)), some (probW many (probCs cs)), some (probW many (probCs cs)), y8, y9, y10, y11] ∧ Dr ns d G') ?_ ?_ [(), (), ()] _ _ ?_
  rotate_left
  · rintro S G9 ⟨y8, y9, y10, y11, rfl, D9⟩
    refine ⟨trivial, ?_⟩
    conv => whnf
    refine ⟨rfl, rfl, ?_⟩
    refine p_answers (cs := probCs cs) h0 (Int.le_refl _) (by omega) hpc (by omega) fun p hp => ?_
    rw [hae]
    refine frz_lst ?_ p hp
    conv => whnf
    refine eq_fTups ?_
    rw [decide_eq_true rfl]
    conv => whnf
    refine p__law_rows (by omega) (by omega) ?_
    conv => whnf
    refine forW_map (f := cTup) (I := fun xs S G' => ∃ (z8 z9 z10 z11 : Option W), S = [some (.fl (ns.map W.int)), some (.ref d), some (.int (0 + (x : Int))), some (.int many), some (.fl (cs.map cTup)), some (.fl ((ansAll many.toNat cs).map cTup)), some (probW many (probCs cs)), some (probW many (probCs cs)), z8, z9, z10, z11] ∧ Dr ns d G' ∧ ∀ r ∈ xs, BitsOf many r) ?_ ?_ _ _ _ ?_
    rotate_left
    · rintro S G8 ⟨z8, z9, z10, z11, rfl, D8, _⟩
      exact ⟨trivial, hN D8⟩
    · exact ⟨_, _, _, _, rfl, D9, fun r hr => by have := mem_rows2.mp hr; rwa [show ((many.toNat : Nat) : Int) = many by omega] at this⟩
    rintro r rs S G8 ⟨z8, z9, z10, z11, rfl, D8, hB⟩ N3 hN3
    refine ⟨trivial, ?_⟩
    have B := hB r List.mem_cons_self
    conv => whnf
    refine p_is_answer (ask_ints _ _ (by have := B.len; omega)) hpc ⟨by omega, by omega⟩ (by omega) ?_
    conv => whnf
    refine ⟨rfl, ?_⟩
    conv => whnf
    refine in_fTups ?_
    refine eq_bl ?_
    have e : ansB many (probCs cs) (cTup r) = (false != decide (r ∈ ansAll many.toNat cs)) := by
      rw [fbne, ← hae]
      unfold ansB
      have hb : bitsB many (cTup r) = true := by
        unfold bitsB
        dsimp only
        rw [Bool.and_eq_true, decide_eq_true_iff, List.length_map]
        refine ⟨B.len, ?_⟩
        rw [List.all_map, List.all_eq_true]
        intro b hm
        rcases B.bit b hm with rfl | rfl <;> rfl
      rw [hb, Bool.true_and, show intsW (cTup r) = r by show (intsOf (r.map W.int)).getD [] = r; rw [intsOf_map]; rfl, Bool.eq_iff_iff, decide_eq_true_iff, mem_ansAll]
      unfold WS.allB
      rw [List.all_eq_true]
      exact ⟨fun h => ⟨by rwa [show ((many.toNat : Nat) : Int) = many by omega], h⟩, fun h => h.2⟩
    rw [e, decide_eq_true rfl]
    conv => whnf
    exact hN3 _ _ ⟨_, _, _, _, rfl, D8, fun y hy => hB y (List.mem_cons_of_mem _ hy)⟩
  · exact ⟨_, _, _, _, rfl, D2⟩
  rintro _ us S G9 ⟨y8, y9, y10, y11, rfl, D9⟩ N2 hN2
  refine ⟨trivial, ?_⟩
  conv => whnf
  refine p_answers h0 (by omega) (by omega) hpc (by omega) fun p hp => ?_
  rw [hae]
  conv => whnf
  refine ⟨rfl, isiW_of (t := .li) (by simp [tyW, updG_same]) ?_⟩
  conv => whnf
  refine repr_rl updG_same hab (by omega) ?_
  conv => whnf
  refine repr_fl hab (by omega) ?_
  conv => whnf
  refine eq_str ?_
  rw [decide_eq_true rfl]
  (try conv => whnf); (repeat (first | (rw [updG_same]; conv => whnf) | (refine Exists.intro _ (And.intro rfl ?_); conv => whnf) | (refine And.intro rfl ?_; conv => whnf) | (refine frz_lst ?_; conv => whnf) | (refine frz_dK ?_; conv => whnf) | (refine frz_dT ?_; conv => whnf) | (refine And.intro trivial ?_; conv => whnf) | (refine And.intro recL_upd ?_; conv => whnf) | (refine ⟨by (try simp only [List.length_cons, List.length_nil, List.length_map, List.length_append, List.length_drop, List.length_take, sizeLine_eq]); omega, ?_⟩; conv => whnf)))
  rw [updG_upd, updG_upd]
  exact hN2 _ _ ⟨_, _, _, _, rfl, D9.new hp⟩
abbrev s_law : Stmt := topS 44
theorem sc_law : FnScope N_law ["script"] (defScope s_law) := ⟨rfl, rfl, rfl, by decide +kernel, rfl, by decide +kernel, by decide +kernel⟩
theorem dv_law (z_len : mg "len" = none) (z_min : mg "min" = none) (z_max : mg "max" = none) (z_range : mg "range" = none) (D__law_drawn : DfG P w K mg base CX0 4 "_law_drawn" ["draw", "low", "top"] [] P__law_drawn) (D__law_answers : DfG P w K mg base CX0 2 "_law_answers" ["many", "clauses"] [] P__law_answers) (M_Problem : MakeD P w K mg base CX0 4 "Problem" ["self", "many", "clauses"] [] P_Problem___init__) (D_read_problem : DfG P w K mg base CX0 6 "read_problem" ["text"] [] P_read_problem) (D_problem_text : DfG P w K mg base CX0 2 "problem_text" ["problem"] [] P_problem_text) (D_answers_1 : DfG P w K mg base CX0 2 "answers" ["problem", "most"] [(.int 12)] P_answers) (z_isinstance : mg "isinstance" = none) (z_list : mg "list" = none) (z_repr : mg "repr" = none) (KW_answers_1_most : KfG P w K mg base CX0 2 "answers" ["problem", "most"] 1 ["most"] (fun us ws => us ++ ws) P_answers) (D__law_rows : DfG P w K mg base CX0 1 "_law_rows" ["many"] [] P__law_rows) (D_is_answer : DfG P w K mg base CX0 3 "is_answer" ["problem", "thing"] [] P_is_answer) (z_bool : mg "bool" = none) {f : Addr} {cdv : Value} {A : Around} {outer : List Env} {s : Shared} {H : Hp} {E : XK} {G : GH} (hgd : A.guards = some []) (hr : Room 6 (A.deeper (envOfC "law" (defScope s_law) s.heap.objs.size f cdv))) :
    WSs (cxOf CX0 P w K mg base N_law "law" (defScope s_law) f cdv A outer s H E).nox (G, H) (defBody s_law) T_law :=
  (wss_cons (ws_s 1 sc_law.nd (we_lst (wa_cons (we_v 0) (wa_cons we_int wa_nil))))
    (wss_cons (ws_for PassesOwn.never rfl (wi_range1 (by rfl) z_range (wa_cons (we_cb (call_max2W rfl) (by rfl) z_max bt_max (wa_cons we_int (wa_cons (we_cb (call_min2W rfl) (by rfl) z_min bt_min (wa_cons we_int (wa_cons (we_cb call_lenQ (by rfl) z_len bt_len (wa_cons (we_v 0) wa_nil)) wa_nil))) wa_nil))) wa_nil)) (wg_n 2 sc_law.nd) (wss_cons (ws_asg (we_h D__law_drawn hgd hr (wa_cons (we_v 1) (wa_cons we_int (wa_cons we_int wa_nil)))) (wg_unp rfl (wgs_cons (wg_n 3 sc_law.nd) (wgs_cons (wg_n 4 sc_law.nd) wgs_nil))))
    (wss_cons (ws_s 5 sc_law.nd (we_h D__law_answers hgd hr (wa_cons (we_v 3) (wa_cons (we_v 4) wa_nil))))
    (wss_cons (ws_s 6 sc_law.nd (we_fz (we_mk M_Problem hgd hr (by rfl) (wa_cons (we_v 3) (wa_cons (we_v 4) wa_nil)))))
    (wss_cons (ws_s 7 sc_law.nd (we_fz (we_mk M_Problem hgd hr (by rfl) (wa_cons (we_v 3) (wa_cons (we_fz (we_comp (own := [("row", 9)]) rfl sc_law.nd (wi_seq (we_fz (we_rev (we_v 4)))) (blkOk_by (own := [("row", 9)]) (N := N_law) (sc := defScope s_law) (by decide +kernel)) (gok_name (by decide)) (fun _ _ _ _ _ => pg_n 9 sc_law.nd) (fun _ _ _ _ _ => wts_nil) (fun _ _ _ _ _ => (we_fz (we_rev (we_v 9)))))) wa_nil)))))
    (wss_cons (ws_for PassesOwn.never rfl (wi_disp (wa_cons (we_v 6) (wa_cons (we_v 7) (wa_cons (we_h D_read_problem hgd hr (wa_cons (we_h D_problem_text hgd hr (wa_cons (we_v 6) wa_nil)) wa_nil)) wa_nil)))) (wg_n 8 sc_law.nd) (wss_cons (ws_s 10 sc_law.nd (we_h D_answers_1 hgd hr (wa_cons (we_v 8) wa_nil)))
    (wss_cons (ws_if (wp_t (wp_or (wt_not (wt_truth (we_cb (call_isiW .li) (by rfl) z_isinstance bt_isinstance (wa_cons (we_v 10) (wa_cons (we_ty (by rfl) z_list bt_list) wa_nil))))) (wp_or1 (wt_cmp (op_neQ (hu64 hr)) (we_cb (call_reprQ hgd (hu70 hr)) (by rfl) z_repr bt_repr (wa_cons (we_v 10) wa_nil)) (we_cb (call_reprQ hgd (hu70 hr)) (by rfl) z_repr bt_repr (wa_cons (we_v 5) wa_nil)) (nomark _))))) (wss_one (ws_ret we_bl)) wss_nil)
    (wss_cons (ws_expr (we_mL (pe_bm PySem.F.plainAttrs_list PySem.F.slot_list_append PySem.F.type_list_append mt_appendW (we_v 10) (wa_cons (we_tup wa_nil) wa_nil))))
    (wss_one (ws_expr (we_mL0 (pe_bm0 PySem.F.plainAttrs_list PySem.F.slot_list_reverse PySem.F.type_list_reverse mt_reverseW (we_v 10)))))))))
    (wss_cons (ws_if (wt_cmp (op_neQ (hu64 hr)) (we_fz (we_hK KW_answers_1_most hgd hr (wa_cons (we_v 6) wa_nil) (wk_cons (we_v 3) wk_nil))) (we_v 5) (nomark _)) (wss_one (ws_ret we_bl)) wss_nil)
    (wss_one (ws_for PassesOwn.never rfl (wi_seq (we_h D__law_rows hgd hr (wa_cons (we_v 3) wa_nil))) (wg_n 9 sc_law.nd) (wss_cons (ws_s 11 sc_law.nd (we_h D_is_answer hgd hr (wa_cons (we_v 6) (wa_cons (we_v 9) wa_nil))))
    (wss_one (ws_if (wp_t (wp_or (wt_not (wt_truth (we_cb (call_isiW .bo) (by rfl) z_isinstance bt_isinstance (wa_cons (we_v 11) (wa_cons (we_ty (by rfl) z_bool bt_bool) wa_nil))))) (wp_or1 (wt_cmp (op_neQ (hu64 hr)) (we_v 11) (we_cmp (op_inQ (hu65 hr)) (we_v 9) (we_v 5) (by rfl)) (nomark _))))) (wss_one (ws_ret we_bl)) wss_nil))))))))))))
    (wss_one (ws_ret we_bl))))
theorem ok_law (z_len : mg "len" = none) (z_min : mg "min" = none) (z_max : mg "max" = none) (z_range : mg "range" = none) (D__law_drawn : DfG P w K mg base CX0 4 "_law_drawn" ["draw", "low", "top"] [] P__law_drawn) (D__law_answers : DfG P w K mg base CX0 2 "_law_answers" ["many", "clauses"] [] P__law_answers) (M_Problem : MakeD P w K mg base CX0 4 "Problem" ["self", "many", "clauses"] [] P_Problem___init__) (D_read_problem : DfG P w K mg base CX0 6 "read_problem" ["text"] [] P_read_problem) (D_problem_text : DfG P w K mg base CX0 2 "problem_text" ["problem"] [] P_problem_text) (D_answers_1 : DfG P w K mg base CX0 2 "answers" ["problem", "most"] [(.int 12)] P_answers) (z_isinstance : mg "isinstance" = none) (z_list : mg "list" = none) (z_repr : mg "repr" = none) (KW_answers_1_most : KfG P w K mg base CX0 2 "answers" ["problem", "most"] 1 ["most"] (fun us ws => us ++ ws) P_answers) (D__law_rows : DfG P w K mg base CX0 1 "_law_rows" ["many"] [] P__law_rows) (D_is_answer : DfG P w K mg base CX0 3 "is_answer" ["problem", "thing"] [] P_is_answer) (z_bool : mg "bool" = none) {f : Addr} {fd : FuncData} (F : Fun K "law" "law" s_law f fd) : FnG P w K mg base CX0 7 f fd ["script"] (spL K P_law) :=
  okF F sc_law len_law fun cdv A outer s H E ws G R RX hgd hr h => ⟨T_law, dv_law z_len z_min z_max z_range D__law_drawn D__law_answers M_Problem D_read_problem D_problem_text D_answers_1 z_isinstance z_list z_repr KW_answers_1_most D__law_rows D_is_answer z_bool hgd hr, rd_law ws G R RX h⟩
abbrev s_clause_key : Stmt := topS 13
abbrev N_clause_key : List Str := ["clause"]
theorem sc_clause_key : FnScope N_clause_key ["clause"] (defScope s_clause_key) := ⟨rfl, rfl, rfl, by decide +kernel, rfl, by decide +kernel, by decide +kernel⟩
end
end K03
set_option Elab.async false
set_option linter.all false
set_option maxRecDepth 100000
set_option maxHeartbeats 4000000
namespace K03
open PySem PySem.Spec PyProof.Rows L2 WL WS
/-! ### what the top has written -/
theorem all_mk {P : Program} {w : World} {K : PySem.W.Frag} {h : Heap} {mg : Str → Option Value} {fa : Addr} (X : K.In h) (G : h.Ns mainGlobals mg) (hfa : mg "law" = some (.ref fa))
    {C_Problem : Addr}
    {oc0 kV0 dc0 pm0 cd0 ct0 : Value} {od0 an0 : Option Addr} {sl0 : Array (Option Value)} {f0 : Addr}
    {oc1 kV1 dc1 pm1 cd1 ct1 : Value} {od1 an1 : Option Addr} {sl1 : Array (Option Value)} {f1 : Addr}
    {oc2 kV2 dc2 pm2 cd2 ct2 : Value} {od2 an2 : Option Addr} {sl2 : Array (Option Value)} {f2 : Addr}
    {oc3 kV3 dc3 pm3 cd3 ct3 : Value} {od3 an3 : Option Addr} {sl3 : Array (Option Value)} {f3 : Addr}
    {oc4 kV4 dc4 pm4 cd4 ct4 : Value} {od4 an4 : Option Addr} {sl4 : Array (Option Value)} {f4 : Addr}
    {T4 : Addr}
    {Td4_0 : Addr}
    {tc4 : Value} {to4 : Option Addr} {tn4 : Nat} {ts4 : Array (Option Value)}
    {oc5 kV5 dc5 pm5 cd5 ct5 : Value} {od5 an5 : Option Addr} {sl5 : Array (Option Value)} {f5 : Addr}
    {oc6 kV6 dc6 pm6 cd6 ct6 : Value} {od6 an6 : Option Addr} {sl6 : Array (Option Value)} {f6 : Addr}
    {oc7 kV7 dc7 pm7 cd7 ct7 : Value} {od7 an7 : Option Addr} {sl7 : Array (Option Value)} {f7 : Addr}
    {oc8 dc8 pm8 cd8 ct8 : Value} {od8 an8 : Option Addr} {sl8 : Array (Option Value)} {f8 : Addr}
    {D8 : Addr}
    {tk8_0 : Tok}
    {oc9 kV9 dc9 pm9 cd9 ct9 : Value} {od9 an9 : Option Addr} {sl9 : Array (Option Value)} {f9 : Addr}
    {oc10 kV10 dc10 pm10 cd10 ct10 : Value} {od10 an10 : Option Addr} {sl10 : Array (Option Value)} {f10 : Addr}
    {oc11 kV11 dc11 pm11 cd11 ct11 : Value} {od11 an11 : Option Addr} {sl11 : Array (Option Value)} {f11 : Addr}
    {oc12 kV12 dc12 pm12 cd12 ct12 : Value} {od12 an12 : Option Addr} {sl12 : Array (Option Value)} {f12 : Addr}
    {oc13 kV13 dc13 pm13 cd13 ct13 : Value} {od13 an13 : Option Addr} {sl13 : Array (Option Value)} {f13 : Addr}
    {oc14 kV14 dc14 pm14 cd14 ct14 : Value} {od14 an14 : Option Addr} {sl14 : Array (Option Value)} {f14 : Addr}
    {oc15 kV15 dc15 pm15 cd15 ct15 : Value} {od15 an15 : Option Addr} {sl15 : Array (Option Value)} {f15 : Addr}
    {oc16 kV16 dc16 pm16 cd16 ct16 : Value} {od16 an16 : Option Addr} {sl16 : Array (Option Value)} {f16 : Addr}
    {oc17 kV17 dc17 pm17 cd17 ct17 : Value} {od17 an17 : Option Addr} {sl17 : Array (Option Value)} {f17 : Addr}
    {oc18 kV18 dc18 pm18 cd18 ct18 : Value} {od18 an18 : Option Addr} {sl18 : Array (Option Value)} {f18 : Addr}
    {oc19 kV19 dc19 pm19 cd19 ct19 : Value} {od19 an19 : Option Addr} {sl19 : Array (Option Value)} {f19 : Addr}
    {oc20 kV20 dc20 pm20 cd20 ct20 : Value} {od20 an20 : Option Addr} {sl20 : Array (Option Value)} {f20 : Addr}
    {oc21 kV21 dc21 pm21 cd21 ct21 : Value} {od21 an21 : Option Addr} {sl21 : Array (Option Value)} {f21 : Addr}
    {oc22 kV22 dc22 pm22 cd22 ct22 : Value} {od22 an22 : Option Addr} {sl22 : Array (Option Value)} {f22 : Addr}
    {oc23 kV23 dc23 pm23 cd23 ct23 : Value} {od23 an23 : Option Addr} {sl23 : Array (Option Value)} {f23 : Addr}
    {oc24 kV24 dc24 pm24 cd24 ct24 : Value} {od24 an24 : Option Addr} {sl24 : Array (Option Value)} {f24 : Addr}
    {oc25 kV25 dc25 pm25 cd25 ct25 : Value} {od25 an25 : Option Addr} {sl25 : Array (Option Value)} {f25 : Addr}
    {oc26 kV26 dc26 pm26 cd26 ct26 : Value} {od26 an26 : Option Addr} {sl26 : Array (Option Value)} {f26 : Addr}
    {oc27 kV27 dc27 pm27 cd27 ct27 : Value} {od27 an27 : Option Addr} {sl27 : Array (Option Value)} {f27 : Addr}
    {oc28 kV28 dc28 pm28 cd28 ct28 : Value} {od28 an28 : Option Addr} {sl28 : Array (Option Value)} {f28 : Addr}
    {oc29 kV29 dc29 pm29 cd29 ct29 : Value} {od29 an29 : Option Addr} {sl29 : Array (Option Value)} {f29 : Addr}
    {oc30 kV30 dc30 pm30 cd30 ct30 : Value} {od30 an30 : Option Addr} {sl30 : Array (Option Value)} {f30 : Addr}
    {ock0 kVk0 dck0 pmk0 cdk0 ctk0 : Value} {odk0 ank0 : Option Addr} {slk0 : Array (Option Value)} {fk0 : Addr}
    (aC_Problem : PySem.W.nsIn K mainGlobals "Problem" = some (some (.ref C_Problem)))
    (pg_Problem : PySem.W.plainGet K C_Problem Str.empty = true)
    (hd_Problem : PySem.W.hasDictIn K C_Problem = true)
    (po_Problem : PySem.W.plainOver K C_Problem = true)
    (sa_Problem : PySem.W.findIn K (.ref C_Problem) "__setattr__" = some (some (.builtin "object.__setattr__")))
    (mk_Problem : PySem.W.makesIn K C_Problem = true)
    (kc_Problem : PySem.W.keepIn K (.ref C_Problem) = true)
    (nNA_Problem_many : PySem.W.findIn K (.ref C_Problem) "many" = some none)
    (nNA_Problem_clauses : PySem.W.findIn K (.ref C_Problem) "clauses" = some none)
    (a0 : PySem.W.nsIn K mainGlobals "is_number" = some (some (.ref f0)))
    (l0 : K.lookup f0 = some ⟨oc0, od0, .func (PySem.W.fnOf "is_number" "is_number" (defArgs s_is_number) (defBody s_is_number) (defScope s_is_number) .none kV0 dc0 pm0 an0 cd0 ct0), sl0⟩)
    (k0 : PySem.W.codeIn K cd0 "is_number" = true)
    (p0 : PySem.W.keepIn K (.ref f0) = true)
    (a1 : PySem.W.nsIn K mainGlobals "is_letter" = some (some (.ref f1)))
    (l1 : K.lookup f1 = some ⟨oc1, od1, .func (PySem.W.fnOf "is_letter" "is_letter" (defArgs s_is_letter) (defBody s_is_letter) (defScope s_is_letter) .none kV1 dc1 pm1 an1 cd1 ct1), sl1⟩)
    (k1 : PySem.W.codeIn K cd1 "is_letter" = true)
    (p1 : PySem.W.keepIn K (.ref f1) = true)
    (a2 : PySem.W.nsIn K mainGlobals "clause_of" = some (some (.ref f2)))
    (l2 : K.lookup f2 = some ⟨oc2, od2, .func (PySem.W.fnOf "clause_of" "clause_of" (defArgs s_clause_of) (defBody s_clause_of) (defScope s_clause_of) .none kV2 dc2 pm2 an2 cd2 ct2), sl2⟩)
    (k2 : PySem.W.codeIn K cd2 "clause_of" = true)
    (p2 : PySem.W.keepIn K (.ref f2) = true)
    (a3 : PySem.W.nsIn K mainGlobals "clause_in" = some (some (.ref f3)))
    (l3 : K.lookup f3 = some ⟨oc3, od3, .func (PySem.W.fnOf "clause_in" "clause_in" (defArgs s_clause_in) (defBody s_clause_in) (defScope s_clause_in) .none kV3 dc3 pm3 an3 cd3 ct3), sl3⟩)
    (k3 : PySem.W.codeIn K cd3 "clause_in" = true)
    (p3 : PySem.W.keepIn K (.ref f3) = true)
    (a4 : PySem.W.findIn K (.ref C_Problem) "__init__" = some (some (.ref f4)))
    (i4 : PySem.W.isFn K (.ref f4) = true)
    (l4 : K.lookup f4 = some ⟨oc4, od4, .func (PySem.W.fnOf "__init__" "Problem.__init__" (defArgs s_Problem___init__) (defBody s_Problem___init__) (defScope s_Problem___init__) (.ref T4) kV4 dc4 pm4 an4 cd4 ct4), sl4⟩)
    (k4 : PySem.W.codeIn K cd4 "Problem.__init__" = true)
    (p4 : PySem.W.keepIn K (.ref f4) = true)
    (t4 : K.lookup T4 = some ⟨tc4, to4, .seq #[(.ref Td4_0)] tn4, ts4⟩)
    (a5 : PySem.W.nsIn K mainGlobals "holds" = some (some (.ref f5)))
    (l5 : K.lookup f5 = some ⟨oc5, od5, .func (PySem.W.fnOf "holds" "holds" (defArgs s_holds) (defBody s_holds) (defScope s_holds) .none kV5 dc5 pm5 an5 cd5 ct5), sl5⟩)
    (k5 : PySem.W.codeIn K cd5 "holds" = true)
    (p5 : PySem.W.keepIn K (.ref f5) = true)
    (a6 : PySem.W.nsIn K mainGlobals "is_bits" = some (some (.ref f6)))
    (l6 : K.lookup f6 = some ⟨oc6, od6, .func (PySem.W.fnOf "is_bits" "is_bits" (defArgs s_is_bits) (defBody s_is_bits) (defScope s_is_bits) .none kV6 dc6 pm6 an6 cd6 ct6), sl6⟩)
    (k6 : PySem.W.codeIn K cd6 "is_bits" = true)
    (p6 : PySem.W.keepIn K (.ref f6) = true)
    (a7 : PySem.W.nsIn K mainGlobals "is_answer" = some (some (.ref f7)))
    (l7 : K.lookup f7 = some ⟨oc7, od7, .func (PySem.W.fnOf "is_answer" "is_answer" (defArgs s_is_answer) (defBody s_is_answer) (defScope s_is_answer) .none kV7 dc7 pm7 an7 cd7 ct7), sl7⟩)
    (k7 : PySem.W.codeIn K cd7 "is_answer" = true)
    (p7 : PySem.W.keepIn K (.ref f7) = true)
    (a8 : PySem.W.nsIn K mainGlobals "answers" = some (some (.ref f8)))
    (l8 : K.lookup f8 = some ⟨oc8, od8, .func (PySem.W.fnOf "answers" "answers" (defArgs s_answers) (defBody s_answers) (defScope s_answers) .none (.ref D8) dc8 pm8 an8 cd8 ct8), sl8⟩)
    (k8 : PySem.W.codeIn K cd8 "answers" = true)
    (p8 : PySem.W.keepIn K (.ref f8) = true)
    (q8_0 : PySem.W.nsIn K D8 "most" = some (some (.int 12 tk8_0)))
    (a9 : PySem.W.nsIn K mainGlobals "letters_text" = some (some (.ref f9)))
    (l9 : K.lookup f9 = some ⟨oc9, od9, .func (PySem.W.fnOf "letters_text" "letters_text" (defArgs s_letters_text) (defBody s_letters_text) (defScope s_letters_text) .none kV9 dc9 pm9 an9 cd9 ct9), sl9⟩)
    (k9 : PySem.W.codeIn K cd9 "letters_text" = true)
    (p9 : PySem.W.keepIn K (.ref f9) = true)
    (a10 : PySem.W.nsIn K mainGlobals "number_of" = some (some (.ref f10)))
    (l10 : K.lookup f10 = some ⟨oc10, od10, .func (PySem.W.fnOf "number_of" "number_of" (defArgs s_number_of) (defBody s_number_of) (defScope s_number_of) .none kV10 dc10 pm10 an10 cd10 ct10), sl10⟩)
    (k10 : PySem.W.codeIn K cd10 "number_of" = true)
    (p10 : PySem.W.keepIn K (.ref f10) = true)
    (a11 : PySem.W.nsIn K mainGlobals "letter_of" = some (some (.ref f11)))
    (l11 : K.lookup f11 = some ⟨oc11, od11, .func (PySem.W.fnOf "letter_of" "letter_of" (defArgs s_letter_of) (defBody s_letter_of) (defScope s_letter_of) .none kV11 dc11 pm11 an11 cd11 ct11), sl11⟩)
    (k11 : PySem.W.codeIn K cd11 "letter_of" = true)
    (p11 : PySem.W.keepIn K (.ref f11) = true)
    (a12 : PySem.W.nsIn K mainGlobals "letters_of" = some (some (.ref f12)))
    (l12 : K.lookup f12 = some ⟨oc12, od12, .func (PySem.W.fnOf "letters_of" "letters_of" (defArgs s_letters_of) (defBody s_letters_of) (defScope s_letters_of) .none kV12 dc12 pm12 an12 cd12 ct12), sl12⟩)
    (k12 : PySem.W.codeIn K cd12 "letters_of" = true)
    (p12 : PySem.W.keepIn K (.ref f12) = true)
    (a13 : PySem.W.nsIn K mainGlobals "clause_row" = some (some (.ref f13)))
    (l13 : K.lookup f13 = some ⟨oc13, od13, .func (PySem.W.fnOf "clause_row" "clause_row" (defArgs s_clause_row) (defBody s_clause_row) (defScope s_clause_row) .none kV13 dc13 pm13 an13 cd13 ct13), sl13⟩)
    (k13 : PySem.W.codeIn K cd13 "clause_row" = true)
    (p13 : PySem.W.keepIn K (.ref f13) = true)
    (a14 : PySem.W.nsIn K mainGlobals "problem_text" = some (some (.ref f14)))
    (l14 : K.lookup f14 = some ⟨oc14, od14, .func (PySem.W.fnOf "problem_text" "problem_text" (defArgs s_problem_text) (defBody s_problem_text) (defScope s_problem_text) .none kV14 dc14 pm14 an14 cd14 ct14), sl14⟩)
    (k14 : PySem.W.codeIn K cd14 "problem_text" = true)
    (p14 : PySem.W.keepIn K (.ref f14) = true)
    (a15 : PySem.W.nsIn K mainGlobals "rows_of" = some (some (.ref f15)))
    (l15 : K.lookup f15 = some ⟨oc15, od15, .func (PySem.W.fnOf "rows_of" "rows_of" (defArgs s_rows_of) (defBody s_rows_of) (defScope s_rows_of) .none kV15 dc15 pm15 an15 cd15 ct15), sl15⟩)
    (k15 : PySem.W.codeIn K cd15 "rows_of" = true)
    (p15 : PySem.W.keepIn K (.ref f15) = true)
    (a16 : PySem.W.nsIn K mainGlobals "many_of" = some (some (.ref f16)))
    (l16 : K.lookup f16 = some ⟨oc16, od16, .func (PySem.W.fnOf "many_of" "many_of" (defArgs s_many_of) (defBody s_many_of) (defScope s_many_of) .none kV16 dc16 pm16 an16 cd16 ct16), sl16⟩)
    (k16 : PySem.W.codeIn K cd16 "many_of" = true)
    (p16 : PySem.W.keepIn K (.ref f16) = true)
    (a17 : PySem.W.nsIn K mainGlobals "read_problem" = some (some (.ref f17)))
    (l17 : K.lookup f17 = some ⟨oc17, od17, .func (PySem.W.fnOf "read_problem" "read_problem" (defArgs s_read_problem) (defBody s_read_problem) (defScope s_read_problem) .none kV17 dc17 pm17 an17 cd17 ct17), sl17⟩)
    (k17 : PySem.W.codeIn K cd17 "read_problem" = true)
    (p17 : PySem.W.keepIn K (.ref f17) = true)
    (a18 : PySem.W.nsIn K mainGlobals "_law_mixed" = some (some (.ref f18)))
    (l18 : K.lookup f18 = some ⟨oc18, od18, .func (PySem.W.fnOf "_law_mixed" "_law_mixed" (defArgs s__law_mixed) (defBody s__law_mixed) (defScope s__law_mixed) .none kV18 dc18 pm18 an18 cd18 ct18), sl18⟩)
    (k18 : PySem.W.codeIn K cd18 "_law_mixed" = true)
    (p18 : PySem.W.keepIn K (.ref f18) = true)
    (a19 : PySem.W.nsIn K mainGlobals "_law_next" = some (some (.ref f19)))
    (l19 : K.lookup f19 = some ⟨oc19, od19, .func (PySem.W.fnOf "_law_next" "_law_next" (defArgs s__law_next) (defBody s__law_next) (defScope s__law_next) .none kV19 dc19 pm19 an19 cd19 ct19), sl19⟩)
    (k19 : PySem.W.codeIn K cd19 "_law_next" = true)
    (p19 : PySem.W.keepIn K (.ref f19) = true)
    (a20 : PySem.W.nsIn K mainGlobals "_law_turn" = some (some (.ref f20)))
    (l20 : K.lookup f20 = some ⟨oc20, od20, .func (PySem.W.fnOf "_law_turn" "_law_turn" (defArgs s__law_turn) (defBody s__law_turn) (defScope s__law_turn) .none kV20 dc20 pm20 an20 cd20 ct20), sl20⟩)
    (k20 : PySem.W.codeIn K cd20 "_law_turn" = true)
    (p20 : PySem.W.keepIn K (.ref f20) = true)
    (a21 : PySem.W.nsIn K mainGlobals "_law_goes" = some (some (.ref f21)))
    (l21 : K.lookup f21 = some ⟨oc21, od21, .func (PySem.W.fnOf "_law_goes" "_law_goes" (defArgs s__law_goes) (defBody s__law_goes) (defScope s__law_goes) .none kV21 dc21 pm21 an21 cd21 ct21), sl21⟩)
    (k21 : PySem.W.codeIn K cd21 "_law_goes" = true)
    (p21 : PySem.W.keepIn K (.ref f21) = true)
    (a22 : PySem.W.nsIn K mainGlobals "_law_led" = some (some (.ref f22)))
    (l22 : K.lookup f22 = some ⟨oc22, od22, .func (PySem.W.fnOf "_law_led" "_law_led" (defArgs s__law_led) (defBody s__law_led) (defScope s__law_led) .none kV22 dc22 pm22 an22 cd22 ct22), sl22⟩)
    (k22 : PySem.W.codeIn K cd22 "_law_led" = true)
    (p22 : PySem.W.keepIn K (.ref f22) = true)
    (a23 : PySem.W.nsIn K mainGlobals "_law_clause" = some (some (.ref f23)))
    (l23 : K.lookup f23 = some ⟨oc23, od23, .func (PySem.W.fnOf "_law_clause" "_law_clause" (defArgs s__law_clause) (defBody s__law_clause) (defScope s__law_clause) .none kV23 dc23 pm23 an23 cd23 ct23), sl23⟩)
    (k23 : PySem.W.codeIn K cd23 "_law_clause" = true)
    (p23 : PySem.W.keepIn K (.ref f23) = true)
    (a24 : PySem.W.nsIn K mainGlobals "_law_closed" = some (some (.ref f24)))
    (l24 : K.lookup f24 = some ⟨oc24, od24, .func (PySem.W.fnOf "_law_closed" "_law_closed" (defArgs s__law_closed) (defBody s__law_closed) (defScope s__law_closed) .none kV24 dc24 pm24 an24 cd24 ct24), sl24⟩)
    (k24 : PySem.W.codeIn K cd24 "_law_closed" = true)
    (p24 : PySem.W.keepIn K (.ref f24) = true)
    (a25 : PySem.W.nsIn K mainGlobals "_law_holes" = some (some (.ref f25)))
    (l25 : K.lookup f25 = some ⟨oc25, od25, .func (PySem.W.fnOf "_law_holes" "_law_holes" (defArgs s__law_holes) (defBody s__law_holes) (defScope s__law_holes) .none kV25 dc25 pm25 an25 cd25 ct25), sl25⟩)
    (k25 : PySem.W.codeIn K cd25 "_law_holes" = true)
    (p25 : PySem.W.keepIn K (.ref f25) = true)
    (a26 : PySem.W.nsIn K mainGlobals "_law_drawn" = some (some (.ref f26)))
    (l26 : K.lookup f26 = some ⟨oc26, od26, .func (PySem.W.fnOf "_law_drawn" "_law_drawn" (defArgs s__law_drawn) (defBody s__law_drawn) (defScope s__law_drawn) .none kV26 dc26 pm26 an26 cd26 ct26), sl26⟩)
    (k26 : PySem.W.codeIn K cd26 "_law_drawn" = true)
    (p26 : PySem.W.keepIn K (.ref f26) = true)
    (a27 : PySem.W.nsIn K mainGlobals "_law_holds" = some (some (.ref f27)))
    (l27 : K.lookup f27 = some ⟨oc27, od27, .func (PySem.W.fnOf "_law_holds" "_law_holds" (defArgs s__law_holds) (defBody s__law_holds) (defScope s__law_holds) .none kV27 dc27 pm27 an27 cd27 ct27), sl27⟩)
    (k27 : PySem.W.codeIn K cd27 "_law_holds" = true)
    (p27 : PySem.W.keepIn K (.ref f27) = true)
    (a28 : PySem.W.nsIn K mainGlobals "_law_answers" = some (some (.ref f28)))
    (l28 : K.lookup f28 = some ⟨oc28, od28, .func (PySem.W.fnOf "_law_answers" "_law_answers" (defArgs s__law_answers) (defBody s__law_answers) (defScope s__law_answers) .none kV28 dc28 pm28 an28 cd28 ct28), sl28⟩)
    (k28 : PySem.W.codeIn K cd28 "_law_answers" = true)
    (p28 : PySem.W.keepIn K (.ref f28) = true)
    (a29 : PySem.W.nsIn K mainGlobals "_law_rows" = some (some (.ref f29)))
    (l29 : K.lookup f29 = some ⟨oc29, od29, .func (PySem.W.fnOf "_law_rows" "_law_rows" (defArgs s__law_rows) (defBody s__law_rows) (defScope s__law_rows) .none kV29 dc29 pm29 an29 cd29 ct29), sl29⟩)
    (k29 : PySem.W.codeIn K cd29 "_law_rows" = true)
    (p29 : PySem.W.keepIn K (.ref f29) = true)
    (a30 : PySem.W.nsIn K mainGlobals "law" = some (some (.ref f30)))
    (l30 : K.lookup f30 = some ⟨oc30, od30, .func (PySem.W.fnOf "law" "law" (defArgs s_law) (defBody s_law) (defScope s_law) .none kV30 dc30 pm30 an30 cd30 ct30), sl30⟩)
    (k30 : PySem.W.codeIn K cd30 "law" = true)
    (p30 : PySem.W.keepIn K (.ref f30) = true)
    (ak0 : PySem.W.nsIn K mainGlobals "clause_key" = some (some (.ref fk0)))
    (lk0 : K.lookup fk0 = some ⟨ock0, odk0, .func (PySem.W.fnOf "clause_key" "clause_key" (defArgs s_clause_key) (defBody s_clause_key) (defScope s_clause_key) .none kVk0 dck0 pmk0 ank0 cdk0 ctk0), slk0⟩)
    (kk0 : PySem.W.codeIn K cdk0 "clause_key" = true)
    (pk0 : PySem.W.keepIn K (.ref fk0) = true)
    (z_isinstance : PySem.W.nsIn K mainGlobals "isinstance" = some none)
    (z_int : PySem.W.nsIn K mainGlobals "int" = some none)
    (z_bool : PySem.W.nsIn K mainGlobals "bool" = some none)
    (z_abs : PySem.W.nsIn K mainGlobals "abs" = some none)
    (z_sorted : PySem.W.nsIn K mainGlobals "sorted" = some none)
    (z_tuple : PySem.W.nsIn K mainGlobals "tuple" = some none)
    (z_list : PySem.W.nsIn K mainGlobals "list" = some none)
    (z_all : PySem.W.nsIn K mainGlobals "all" = some none)
    (z_any : PySem.W.nsIn K mainGlobals "any" = some none)
    (z_enumerate : PySem.W.nsIn K mainGlobals "enumerate" = some none)
    (z_len : PySem.W.nsIn K mainGlobals "len" = some none)
    (z_range : PySem.W.nsIn K mainGlobals "range" = some none)
    (z_str : PySem.W.nsIn K mainGlobals "str" = some none)
    (z_max : PySem.W.nsIn K mainGlobals "max" = some none)
    (z_min : PySem.W.nsIn K mainGlobals "min" = some none)
    (z_dict : PySem.W.nsIn K mainGlobals "dict" = some none)
    (z_repr : PySem.W.nsIn K mainGlobals "repr" = some none)
    {tc_MOST : Tok} (c_MOST : PySem.W.nsIn K mainGlobals "MOST" = some (some (.int 400 tc_MOST)))
    {tc_MOST_CLAUSES : Tok} (c_MOST_CLAUSES : PySem.W.nsIn K mainGlobals "MOST_CLAUSES" = some (some (.int 400 tc_MOST_CLAUSES)))
    {tc_MOST_FIGURES : Tok} (c_MOST_FIGURES : PySem.W.nsIn K mainGlobals "MOST_FIGURES" = some (some (.int 3 tc_MOST_FIGURES)))
    {tc_FIGURES : Tok} (c_FIGURES : PySem.W.nsIn K mainGlobals "FIGURES" = some (some (.str "0123456789" tc_FIGURES)))
    : ∃ fd : FuncData, (∀ (s : Shared) (v : Value), BindsTo s fd ⟨[v], []⟩ [("script", v)]) ∧ ∀ base : Heap, K.In base → base.Ns mainGlobals mg → FnG P w K mg base CX0 7 fa fd ["script"] (spL K P_law) := by
  have e := hfa.symm.trans (PySem.W.mg_of X G a30)
  cases e
  have z_isinstance := PySem.W.mg_none_of X G z_isinstance
  have z_int := PySem.W.mg_none_of X G z_int
  have z_bool := PySem.W.mg_none_of X G z_bool
  have z_abs := PySem.W.mg_none_of X G z_abs
  have z_sorted := PySem.W.mg_none_of X G z_sorted
  have z_tuple := PySem.W.mg_none_of X G z_tuple
  have z_list := PySem.W.mg_none_of X G z_list
  have z_all := PySem.W.mg_none_of X G z_all
  have z_any := PySem.W.mg_none_of X G z_any
  have z_enumerate := PySem.W.mg_none_of X G z_enumerate
  have z_len := PySem.W.mg_none_of X G z_len
  have z_range := PySem.W.mg_none_of X G z_range
  have z_str := PySem.W.mg_none_of X G z_str
  have z_max := PySem.W.mg_none_of X G z_max
  have z_min := PySem.W.mg_none_of X G z_min
  have z_dict := PySem.W.mg_none_of X G z_dict
  have z_repr := PySem.W.mg_none_of X G z_repr
  have c_MOST : Gv K mg "MOST" (.int 400) := gv_int (PySem.W.mg_of X G c_MOST)
  have c_MOST_CLAUSES : Gv K mg "MOST_CLAUSES" (.int 400) := gv_int (PySem.W.mg_of X G c_MOST_CLAUSES)
  have c_MOST_FIGURES : Gv K mg "MOST_FIGURES" (.int 3) := gv_int (PySem.W.mg_of X G c_MOST_FIGURES)
  have c_FIGURES : Gv K mg "FIGURES" (.str "0123456789") := gv_str (PySem.W.mg_of X G c_FIGURES)
  have Cs_Problem : Cls K C_Problem := ⟨pg_Problem, hd_Problem, po_Problem, sa_Problem⟩
  have Cn_Problem : ClsD K mg "Problem" := ⟨C_Problem, aC_Problem, Cs_Problem, PySem.W.mg_of X G aC_Problem⟩
  have NA_Problem_many : NoA K "Problem" "many" := ⟨fun D hD => by rw [← ClsAt.inj aC_Problem hD]; exact nNA_Problem_many⟩
  have NA_Problem_clauses : NoA K "Problem" "clauses" := ⟨fun D hD => by rw [← ClsAt.inj aC_Problem hD]; exact nNA_Problem_clauses⟩
  have F0 := fun_mk (st := s_is_number) l0 k0 p0
  have F1 := fun_mk (st := s_is_letter) l1 k1 p1
  have F2 := fun_mk (st := s_clause_of) l2 k2 p2
  have F3 := fun_mk (st := s_clause_in) l3 k3 p3
  have F4 : FunD K "__init__" "Problem.__init__" (defArgs s_Problem___init__) (defBody s_Problem___init__) (defScope s_Problem___init__) [(.ref Td4_0)] [] f4 _ := ⟨⟨_, _, _, _, _, _, _, _, _, _, rfl, l4, k4, .inr ⟨List.cons_ne_nil _ _, _, _, [(.ref Td4_0)], _, rfl, t4, rfl, (.cons rfl .nil)⟩, .inl rfl⟩, p4⟩
  have F5 := fun_mk (st := s_holds) l5 k5 p5
  have F6 := fun_mk (st := s_is_bits) l6 k6 p6
  have F7 := fun_mk (st := s_is_answer) l7 k7 p7
  have F8 : FunD K "answers" "answers" (defArgs s_answers) (defBody s_answers) (defScope s_answers) [] [("most", (.int 12))] f8 _ := ⟨⟨_, _, _, _, _, _, _, _, _, _, rfl, l8, k8, .inl ⟨rfl, rfl⟩, .inr ⟨_, rfl, fun x hx => by simp only [List.mem_cons, List.not_mem_nil, or_false] at hx; (first | (subst hx; exact ⟨_, q8_0, ⟨_, rfl⟩⟩))⟩⟩, p8⟩
  have F9 := fun_mk (st := s_letters_text) l9 k9 p9
  have F10 := fun_mk (st := s_number_of) l10 k10 p10
  have F11 := fun_mk (st := s_letter_of) l11 k11 p11
  have F12 := fun_mk (st := s_letters_of) l12 k12 p12
  have F13 := fun_mk (st := s_clause_row) l13 k13 p13
  have F14 := fun_mk (st := s_problem_text) l14 k14 p14
  have F15 := fun_mk (st := s_rows_of) l15 k15 p15
  have F16 := fun_mk (st := s_many_of) l16 k16 p16
  have F17 := fun_mk (st := s_read_problem) l17 k17 p17
  have F18 := fun_mk (st := s__law_mixed) l18 k18 p18
  have F19 := fun_mk (st := s__law_next) l19 k19 p19
  have F20 := fun_mk (st := s__law_turn) l20 k20 p20
  have F21 := fun_mk (st := s__law_goes) l21 k21 p21
  have F22 := fun_mk (st := s__law_led) l22 k22 p22
  have F23 := fun_mk (st := s__law_clause) l23 k23 p23
  have F24 := fun_mk (st := s__law_closed) l24 k24 p24
  have F25 := fun_mk (st := s__law_holes) l25 k25 p25
  have F26 := fun_mk (st := s__law_drawn) l26 k26 p26
  have F27 := fun_mk (st := s__law_holds) l27 k27 p27
  have F28 := fun_mk (st := s__law_answers) l28 k28 p28
  have F29 := fun_mk (st := s__law_rows) l29 k29 p29
  have F30 := fun_mk (st := s_law) l30 k30 p30
  have Fk0 := fun_mk (st := s_clause_key) lk0 kk0 pk0
  have KD : ∀ base : Heap, KeyDef P w K mg base "clause_key" := fun base => ⟨fk0, len_turn Fk0 sc_clause_key (Fk0.binds (ps := ["clause"]) fun _ _ _ _ _ _ us hl => match us, hl with | [_], _ => rfl) rfl z_len (fun _ _ _ _ _ _ => rfl) (.inl rfl) (by decide) (by decide), PySem.W.mg_of X G ak0⟩
  refine ⟨PySem.W.fnOf "law" "law" (defArgs s_law) (defBody s_law) (defScope s_law) .none kV30 dc30 pm30 an30 cd30 ct30, fun s v => .of_eq rfl, fun base _ _ => ?_⟩
  have KD_clause_key := KD base
  have D__law_mixed : DfG P w K mg base CX0 1 "_law_mixed" ["cell", "k"] [] P__law_mixed := ⟨_, _, [], [], ok__law_mixed  F18, PySem.W.mg_of X G a18, F18.kp, F18.binds (ps := ["cell", "k"]) fun _ _ _ _ _ _ us hl => match us, hl with | [_, _], _ => rfl, .nil, fun _ => .nil⟩
  have D__law_next : DfG P w K mg base CX0 2 "_law_next" ["draw", "size"] [] P__law_next := ⟨_, _, [], [], ok__law_next z_len z_max D__law_mixed F19, PySem.W.mg_of X G a19, F19.kp, F19.binds (ps := ["draw", "size"]) fun _ _ _ _ _ _ us hl => match us, hl with | [_, _], _ => rfl, .nil, fun _ => .nil⟩
  have D__law_clause : DfG P w K mg base CX0 3 "_law_clause" ["draw", "many", "top"] [] P__law_clause := ⟨_, _, [], [], ok__law_clause z_list z_range D__law_next z_int z_max z_min z_len z_sorted z_tuple F23, PySem.W.mg_of X G a23, F23.kp, F23.binds (ps := ["draw", "many", "top"]) fun _ _ _ _ _ _ us hl => match us, hl with | [_, _, _], _ => rfl, .nil, fun _ => .nil⟩
  have D__law_turn : DfG P w K mg base CX0 3 "_law_turn" ["draw", "many"] [] P__law_turn := ⟨_, _, [], [], ok__law_turn D__law_next z_list z_range z_len z_tuple F20, PySem.W.mg_of X G a20, F20.kp, F20.binds (ps := ["draw", "many"]) fun _ _ _ _ _ _ us hl => match us, hl with | [_, _], _ => rfl, .nil, fun _ => .nil⟩
  have D__law_holes : DfG P w K mg base CX0 1 "_law_holes" ["guests", "holes"] [] P__law_holes := ⟨_, _, [], [], ok__law_holes z_range z_tuple F25, PySem.W.mg_of X G a25, F25.kp, F25.binds (ps := ["guests", "holes"]) fun _ _ _ _ _ _ us hl => match us, hl with | [_, _], _ => rfl, .nil, fun _ => .nil⟩
  have D__law_goes : DfG P w K mg base CX0 1 "_law_goes" ["turn", "letter"] [] P__law_goes := ⟨_, _, [], [], ok__law_goes  F21, PySem.W.mg_of X G a21, F21.kp, F21.binds (ps := ["turn", "letter"]) fun _ _ _ _ _ _ us hl => match us, hl with | [_, _], _ => rfl, .nil, fun _ => .nil⟩
  have D__law_led : DfG P w K mg base CX0 2 "_law_led" ["turn", "clause"] [] P__law_led := ⟨_, _, [], [], ok__law_led D__law_goes z_sorted z_abs z_tuple F22, PySem.W.mg_of X G a22, F22.kp, F22.binds (ps := ["turn", "clause"]) fun _ _ _ _ _ _ us hl => match us, hl with | [_, _], _ => rfl, .nil, fun _ => .nil⟩
  have D__law_closed : DfG P w K mg base CX0 3 "_law_closed" ["clauses", "makers", "bound"] [] P__law_closed := ⟨_, _, [], [], ok__law_closed z_dict z_list z_len D__law_led z_sorted F24, PySem.W.mg_of X G a24, F24.kp, F24.binds (ps := ["clauses", "makers", "bound"]) fun _ _ _ _ _ _ us hl => match us, hl with | [_, _, _], _ => rfl, .nil, fun _ => .nil⟩
  have D__law_drawn : DfG P w K mg base CX0 4 "_law_drawn" ["draw", "low", "top"] [] P__law_drawn := ⟨_, _, [], [], ok__law_drawn D__law_next z_range D__law_clause D__law_turn D__law_holes z_tuple D__law_closed F26, PySem.W.mg_of X G a26, F26.kp, F26.binds (ps := ["draw", "low", "top"]) fun _ _ _ _ _ _ us hl => match us, hl with | [_, _, _], _ => rfl, .nil, fun _ => .nil⟩
  have D__law_holds : DfG P w K mg base CX0 1 "_law_holds" ["clause", "answer"] [] P__law_holds := ⟨_, _, [], [], ok__law_holds z_abs z_int z_any F27, PySem.W.mg_of X G a27, F27.kp, F27.binds (ps := ["clause", "answer"]) fun _ _ _ _ _ _ us hl => match us, hl with | [_, _], _ => rfl, .nil, fun _ => .nil⟩
  have D__law_answers : DfG P w K mg base CX0 2 "_law_answers" ["many", "clauses"] [] P__law_answers := ⟨_, _, [], [], ok__law_answers z_range D__law_holds z_all z_sorted F28, PySem.W.mg_of X G a28, F28.kp, F28.binds (ps := ["many", "clauses"]) fun _ _ _ _ _ _ us hl => match us, hl with | [_, _], _ => rfl, .nil, fun _ => .nil⟩
  have D_is_number : DfG P w K mg base CX0 1 "is_number" ["thing"] [] P_is_number := ⟨_, _, [], [], ok_is_number z_isinstance z_int z_bool F0, PySem.W.mg_of X G a0, F0.kp, F0.binds (ps := ["thing"]) fun _ _ _ _ _ _ us hl => match us, hl with | [_], _ => rfl, .nil, fun _ => .nil⟩
  have D_is_letter : DfG P w K mg base CX0 2 "is_letter" ["thing", "many"] [] P_is_letter := ⟨_, _, [], [], ok_is_letter D_is_number z_abs F1, PySem.W.mg_of X G a1, F1.kp, F1.binds (ps := ["thing", "many"]) fun _ _ _ _ _ _ us hl => match us, hl with | [_, _], _ => rfl, .nil, fun _ => .nil⟩
  have D_clause_of : DfG P w K mg base CX0 1 "clause_of" ["letters"] [] P_clause_of := ⟨_, _, [], [], ok_clause_of z_sorted z_abs z_tuple F2, PySem.W.mg_of X G a2, F2.kp, F2.binds (ps := ["letters"]) fun _ _ _ _ _ _ us hl => match us, hl with | [_], _ => rfl, .nil, fun _ => .nil⟩
  have D_clause_in : DfG P w K mg base CX0 3 "clause_in" ["thing", "many"] [] P_clause_in := ⟨_, _, [], [], ok_clause_in z_isinstance z_list z_tuple D_is_letter z_all D_clause_of z_any F3, PySem.W.mg_of X G a3, F3.kp, F3.binds (ps := ["thing", "many"]) fun _ _ _ _ _ _ us hl => match us, hl with | [_, _], _ => rfl, .nil, fun _ => .nil⟩
  obtain ⟨ds_M_Problem, dv_M_Problem', bi_M_Problem⟩ := FunD.binds1 F4 (ps := ["self", "many", "clauses"]) 3 1 (List.cons_ne_nil _ _) rfl (fun _ _ _ _ _ _ _ us its h1 h2 => match us, its, h1, h2 with | [_, _, _], [_], _, _ => ⟨_, rfl, rfl⟩)
  have M_Problem : MakeD P w K mg base CX0 4 "Problem" ["self", "many", "clauses"] [] P_Problem___init__ := ⟨C_Problem, f4, _, _, ds_M_Problem, aC_Problem, ⟨mk_Problem, a4, i4, kc_Problem⟩, PySem.W.mg_of X G aC_Problem, ok_Problem___init__ D_is_number c_MOST z_isinstance z_list z_tuple z_enumerate D_clause_in z_len c_MOST_CLAUSES Cn_Problem NA_Problem_many KD_clause_key z_sorted NA_Problem_clauses F4, bi_M_Problem, dv_M_Problem', fun _ => .nil⟩
  have D_rows_of : DfG P w K mg base CX0 3 "rows_of" ["text"] [] P_rows_of := ⟨_, _, [], [], ok_rows_of z_isinstance z_str F15, PySem.W.mg_of X G a15, F15.kp, F15.binds (ps := ["text"]) fun _ _ _ _ _ _ us hl => match us, hl with | [_], _ => rfl, .nil, fun _ => .nil⟩
  have D_number_of : DfG P w K mg base CX0 1 "number_of" ["word"] [] P_number_of := ⟨_, _, [], [], ok_number_of z_len c_MOST_FIGURES c_FIGURES z_all z_int F10, PySem.W.mg_of X G a10, F10.kp, F10.binds (ps := ["word"]) fun _ _ _ _ _ _ us hl => match us, hl with | [_], _ => rfl, .nil, fun _ => .nil⟩
  have D_many_of : DfG P w K mg base CX0 2 "many_of" ["row"] [] P_many_of := ⟨_, _, [], [], ok_many_of D_number_of F16, PySem.W.mg_of X G a16, F16.kp, F16.binds (ps := ["row"]) fun _ _ _ _ _ _ us hl => match us, hl with | [_], _ => rfl, .nil, fun _ => .nil⟩
  have D_letter_of : DfG P w K mg base CX0 2 "letter_of" ["word"] [] P_letter_of := ⟨_, _, [], [], ok_letter_of D_number_of z_int F11, PySem.W.mg_of X G a11, F11.kp, F11.binds (ps := ["word"]) fun _ _ _ _ _ _ us hl => match us, hl with | [_], _ => rfl, .nil, fun _ => .nil⟩
  have D_letters_of : DfG P w K mg base CX0 3 "letters_of" ["words"] [] P_letters_of := ⟨_, _, [], [], ok_letters_of D_letter_of z_tuple F12, PySem.W.mg_of X G a12, F12.kp, F12.binds (ps := ["words"]) fun _ _ _ _ _ _ us hl => match us, hl with | [_], _ => rfl, .nil, fun _ => .nil⟩
  have D_clause_row : DfG P w K mg base CX0 4 "clause_row" ["row"] [] P_clause_row := ⟨_, _, [], [], ok_clause_row D_letters_of F13, PySem.W.mg_of X G a13, F13.kp, F13.binds (ps := ["row"]) fun _ _ _ _ _ _ us hl => match us, hl with | [_], _ => rfl, .nil, fun _ => .nil⟩
  have D_read_problem : DfG P w K mg base CX0 6 "read_problem" ["text"] [] P_read_problem := ⟨_, _, [], [], ok_read_problem D_rows_of D_many_of z_enumerate D_clause_row z_len M_Problem F17, PySem.W.mg_of X G a17, F17.kp, F17.binds (ps := ["text"]) fun _ _ _ _ _ _ us hl => match us, hl with | [_], _ => rfl, .nil, fun _ => .nil⟩
  have D_letters_text : DfG P w K mg base CX0 1 "letters_text" ["letters"] [] P_letters_text := ⟨_, _, [], [], ok_letters_text z_len z_str F9, PySem.W.mg_of X G a9, F9.kp, F9.binds (ps := ["letters"]) fun _ _ _ _ _ _ us hl => match us, hl with | [_], _ => rfl, .nil, fun _ => .nil⟩
  have D_problem_text : DfG P w K mg base CX0 2 "problem_text" ["problem"] [] P_problem_text := ⟨_, _, [], [], ok_problem_text Cn_Problem NA_Problem_many NA_Problem_clauses D_letters_text F14, PySem.W.mg_of X G a14, F14.kp, F14.binds (ps := ["problem"]) fun _ _ _ _ _ _ us hl => match us, hl with | [_], _ => rfl, .nil, fun _ => .nil⟩
  have D_holds : DfG P w K mg base CX0 1 "holds" ["clause", "answer"] [] P_holds := ⟨_, _, [], [], ok_holds z_abs z_int z_any F5, PySem.W.mg_of X G a5, F5.kp, F5.binds (ps := ["clause", "answer"]) fun _ _ _ _ _ _ us hl => match us, hl with | [_, _], _ => rfl, .nil, fun _ => .nil⟩
  obtain ⟨ds_D_answers_1, dv_D_answers_1', bi_D_answers_1⟩ := FunD.binds0 F8 (ps := ["problem", "most"]) 1 (List.cons_ne_nil _ _) rfl (fun _ _ _ _ _ _ us ks h1 h2 => match us, ks, h1, h2 with | [_], [_], _, _ => ⟨_, _, _, _, _, _, rfl, rfl, rfl⟩)
  have D_answers_1 : DfG P w K mg base CX0 2 "answers" ["problem", "most"] [(.int 12)] P_answers := ⟨_, _, _, ds_D_answers_1, ok_answers Cn_Problem NA_Problem_many NA_Problem_clauses z_range z_abs D_holds z_all F8, PySem.W.mg_of X G a8, F8.kp, bi_D_answers_1, dv_D_answers_1', fun _ => (.cons (.int _) .nil)⟩
  obtain ⟨mv_KW_answers_1_most, kb_KW_answers_1_most⟩ := FunD.kbinds0 F8 (ps := ["problem", "most"]) 1 ["most"] [] (fun us mv ws => us ++ ws) (List.cons_ne_nil _ _) (by simp) (fun r1 rm r2 => r1.append r2) (fun _ _ _ _ _ _ us mv ws h1 h2 h3 => match us, mv, ws, h1, h2, h3 with | [_], [], [_], _, _, _ => rfl)
  have KW_answers_1_most : KfG P w K mg base CX0 2 "answers" ["problem", "most"] 1 ["most"] (fun us ws => us ++ ws) P_answers := ⟨_, _, _, _, ok_answers Cn_Problem NA_Problem_many NA_Problem_clauses z_range z_abs D_holds z_all F8, PySem.W.mg_of X G a8, F8.kp, kb_KW_answers_1_most, fun H vs zs ws us r1 r2 => r1.append r2⟩
  have D__law_rows : DfG P w K mg base CX0 1 "_law_rows" ["many"] [] P__law_rows := ⟨_, _, [], [], ok__law_rows z_range F29, PySem.W.mg_of X G a29, F29.kp, F29.binds (ps := ["many"]) fun _ _ _ _ _ _ us hl => match us, hl with | [_], _ => rfl, .nil, fun _ => .nil⟩
  have D_is_bits : DfG P w K mg base CX0 2 "is_bits" ["thing", "many"] [] P_is_bits := ⟨_, _, [], [], ok_is_bits z_isinstance z_tuple z_len D_is_number z_all F6, PySem.W.mg_of X G a6, F6.kp, F6.binds (ps := ["thing", "many"]) fun _ _ _ _ _ _ us hl => match us, hl with | [_, _], _ => rfl, .nil, fun _ => .nil⟩
  have D_is_answer : DfG P w K mg base CX0 3 "is_answer" ["problem", "thing"] [] P_is_answer := ⟨_, _, [], [], ok_is_answer D_is_bits Cn_Problem NA_Problem_many NA_Problem_clauses D_holds z_all F7, PySem.W.mg_of X G a7, F7.kp, F7.binds (ps := ["problem", "thing"]) fun _ _ _ _ _ _ us hl => match us, hl with | [_, _], _ => rfl, .nil, fun _ => .nil⟩
  exact ok_law z_len z_min z_max z_range D__law_drawn D__law_answers M_Problem D_read_problem D_problem_text D_answers_1 z_isinstance z_list z_repr KW_answers_1_most D__law_rows D_is_answer z_bool F30
end K03
open PySem PySem.W PyProof.Rows
set_option maxHeartbeats 0 in
theorem PySem.Challenge.cw_turnless_k03_whole_answers_one_by_one_holds : PySem.Challenge.rw_turnless_k03_whole_answers_one_by_one.Holds := by
  w_on; o_law; k_head; (case hw => w_witness2)
  k_fill
  refine WL.walk_g (l := PySem.Challenge.rw_turnless_k03_whole_answers_one_by_one) (n := 63) (k := 7) (x := "script") (CX := fun _ => L2.CX0) (sp := fun w => WL.spL _ K03.P_law) rfl (by decide) rfl ⟨rfl, by decide, by decide⟩ (fun w h Y => PySem.W.kIn_of Y) ?F (fun _ _ a ns hl hb ho hS => WL.law_sp ⟨ns, rfl, ⟨hb, hl⟩, fun _ => rfl⟩ ho hS) (fun _ _ _ _ _ h => h)
  case F =>
    intro w mg fa h KX G hmg
    refine' K03.all_mk KX G hmg ?aC_Problem ?pg_Problem ?hd_Problem ?po_Problem ?sa_Problem ?mk_Problem ?kc_Problem ?nNA_Problem_many ?nNA_Problem_clauses ?a0 ?l0 ?k0 ?p0 ?a1 ?l1 ?k1 ?p1 ?a2 ?l2 ?k2 ?p2 ?a3 ?l3 ?k3 ?p3 ?a4 ?i4 ?l4 ?k4 ?p4 ?t4 ?a5 ?l5 ?k5 ?p5 ?a6 ?l6 ?k6 ?p6 ?a7 ?l7 ?k7 ?p7 ?a8 ?l8 ?k8 ?p8 ?q8_0 ?a9 ?l9 ?k9 ?p9 ?a10 ?l10 ?k10 ?p10 ?a11 ?l11 ?k11 ?p11 ?a12 ?l12 ?k12 ?p12 ?a13 ?l13 ?k13 ?p13 ?a14 ?l14 ?k14 ?p14 ?a15 ?l15 ?k15 ?p15 ?a16 ?l16 ?k16 ?p16 ?a17 ?l17 ?k17 ?p17 ?a18 ?l18 ?k18 ?p18 ?a19 ?l19 ?k19 ?p19 ?a20 ?l20 ?k20 ?p20 ?a21 ?l21 ?k21 ?p21 ?a22 ?l22 ?k22 ?p22 ?a23 ?l23 ?k23 ?p23 ?a24 ?l24 ?k24 ?p24 ?a25 ?l25 ?k25 ?p25 ?a26 ?l26 ?k26 ?p26 ?a27 ?l27 ?k27 ?p27 ?a28 ?l28 ?k28 ?p28 ?a29 ?l29 ?k29 ?p29 ?a30 ?l30 ?k30 ?p30 ?ak0 ?lk0 ?kk0 ?pk0 ?z_isinstance ?z_int ?z_bool ?z_abs ?z_sorted ?z_tuple ?z_list ?z_all ?z_any ?z_enumerate ?z_len ?z_range ?z_str ?z_max ?z_min ?z_dict ?z_repr ?c_MOST ?c_MOST_CLAUSES ?c_MOST_FIGURES ?c_FIGURES
    (case aC_Problem => k_is); (case pg_Problem => k_is); (case hd_Problem => k_is); (case po_Problem => k_is); (case sa_Problem => k_is); (case mk_Problem => k_is); (case kc_Problem => k_is); (case nNA_Problem_many => k_is); (case nNA_Problem_clauses => k_is); (case a0 => k_is); (case l0 => k_is); (case k0 => k_is); (case p0 => k_is); (case a1 => k_is); (case l1 => k_is); (case k1 => k_is); (case p1 => k_is); (case a2 => k_is); (case l2 => k_is); (case k2 => k_is); (case p2 => k_is); (case a3 => k_is); (case l3 => k_is); (case k3 => k_is); (case p3 => k_is); (case a4 => k_is); (case i4 => k_is); (case l4 => k_is); (case k4 => k_is); (case p4 => k_is); (case t4 => k_is); (case a5 => k_is); (case l5 => k_is); (case k5 => k_is); (case p5 => k_is); (case a6 => k_is); (case l6 => k_is); (case k6 => k_is); (case p6 => k_is); (case a7 => k_is); (case l7 => k_is); (case k7 => k_is); (case p7 => k_is); (case a8 => k_is); (case l8 => k_is); (case k8 => k_is); (case p8 => k_is); (case q8_0 => k_is); (case a9 => k_is); (case l9 => k_is); (case k9 => k_is); (case p9 => k_is); (case a10 => k_is); (case l10 => k_is); (case k10 => k_is); (case p10 => k_is); (case a11 => k_is); (case l11 => k_is); (case k11 => k_is); (case p11 => k_is); (case a12 => k_is); (case l12 => k_is); (case k12 => k_is); (case p12 => k_is); (case a13 => k_is); (case l13 => k_is); (case k13 => k_is); (case p13 => k_is); (case a14 => k_is); (case l14 => k_is); (case k14 => k_is); (case p14 => k_is); (case a15 => k_is); (case l15 => k_is); (case k15 => k_is); (case p15 => k_is); (case a16 => k_is); (case l16 => k_is); (case k16 => k_is); (case p16 => k_is); (case a17 => k_is); (case l17 => k_is); (case k17 => k_is); (case p17 => k_is); (case a18 => k_is); (case l18 => k_is); (case k18 => k_is); (case p18 => k_is); (case a19 => k_is); (case l19 => k_is); (case k19 => k_is); (case p19 => k_is); (case a20 => k_is); (case l20 => k_is); (case k20 => k_is); (case p20 => k_is); (case a21 => k_is); (case l21 => k_is); (case k21 => k_is); (case p21 => k_is); (case a22 => k_is); (case l22 => k_is); (case k22 => k_is); (case p22 => k_is); (case a23 => k_is); (case l23 => k_is); (case k23 => k_is); (case p23 => k_is); (case a24 => k_is); (case l24 => k_is); (case k24 => k_is); (case p24 => k_is); (case a25 => k_is); (case l25 => k_is); (case k25 => k_is); (case p25 => k_is); (case a26 => k_is); (case l26 => k_is); (case k26 => k_is); (case p26 => k_is); (case a27 => k_is); (case l27 => k_is); (case k27 => k_is); (case p27 => k_is); (case a28 => k_is); (case l28 => k_is); (case k28 => k_is); (case p28 => k_is); (case a29 => k_is); (case l29 => k_is); (case k29 => k_is); (case p29 => k_is); (case a30 => k_is); (case l30 => k_is); (case k30 => k_is); (case p30 => k_is); (case ak0 => k_is); (case lk0 => k_is); (case kk0 => k_is); (case pk0 => k_is); (case z_isinstance => k_is); (case z_int => k_is); (case z_bool => k_is); (case z_abs => k_is); (case z_sorted => k_is); (case z_tuple => k_is); (case z_list => k_is); (case z_all => k_is); (case z_any => k_is); (case z_enumerate => k_is); (case z_len => k_is); (case z_range => k_is); (case z_str => k_is); (case z_max => k_is); (case z_min => k_is); (case z_dict => k_is); (case z_repr => k_is); (case c_MOST => k_is); (case c_MOST_CLAUSES => k_is); (case c_MOST_FIGURES => k_is); (case c_FIGURES => k_is)
